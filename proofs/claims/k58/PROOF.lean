import PyProof.Rows.All
import Wide.All
import OpenK.AllK
import Wide.FinOn
import HandS.ForMost
import HandS.ForExc
import PySem.Challenge.RW_maprows_k58_whole_trials_of_streams
import HandS.HotCalls
import HandS.TryMany
import HandS.ExcField
import HandS.Defaults
import HandS.ExcInit
import HandS.ClsMeth
import HandS.Star
import HandS.Property
import HandS.Lambda
import HandS.Nested
import HandS.TupAny
import HandS.IsInst
import HandS.NoneIn
import HandS.HeadHook1
import HandS.More
import HandS.ExcBuiltin
import PyProof.P3Eq
import HandS.HeadHook4
import KE.KStateDown
import HandS.Head0
import HandS.Head1
import HandS.Head2
import HandS.HeadEnd
import HandS.HeadHook2
import HandS.HeadHook3
import HandS.HeadWalk
set_option Elab.async false
set_option maxRecDepth 100000
/-! The text by places. -/
namespace Tx
open PySem PySem.Spec PyProof.Rows L2
def top (i : Nat) : Stmt := PySem.Challenge.pw_maprows_k58_whole_trials_of_streams.main.body.getD i (.Pass ⟨0, 0, 0, 0⟩)
abbrev sIvNumInit : Stmt := inClass (top 10) 0
abbrev sUnkInit : Stmt := inClass (top 14) 0
abbrev sNtUInit : Stmt := inClass (top 15) 0
abbrev sNtRInit : Stmt := inClass (top 16) 0
abbrev sIsInt : Stmt := top 19
abbrev sIsPrime : Stmt := top 20
abbrev sNeedPrime : Stmt := top 21
abbrev sIsVector : Stmt := top 22
abbrev sIsMatrix : Stmt := top 23
abbrev sReduced : Stmt := top 24
abbrev sReducedRows : Stmt := top 25
abbrev sIsPattern : Stmt := top 30
abbrev sNeedPattern : Stmt := top 31
abbrev sShapeOf : Stmt := top 32
abbrev sRowInit : Stmt := inClass (top 33) 0
abbrev sRowPattern : Stmt := inClass (top 33) 1
abbrev sRowPrime : Stmt := inClass (top 33) 2
abbrev sRowSizes : Stmt := inClass (top 33) 3
abbrev sRowMaps : Stmt := inClass (top 33) 4
abbrev sRowPart : Stmt := inClass (top 33) 9
abbrev sNeedArrow : Stmt := top 35
abbrev sNeedPlaceSize : Stmt := top 36
abbrev sGrown : Stmt := top 37
abbrev sTrialInit : Stmt := inClass (top 39) 0
abbrev sTrialEnter : Stmt := inClass (top 39) 1
abbrev sTrialExit : Stmt := inClass (top 39) 2
abbrev sStInit : Stmt := inClass (top 40) 0
abbrev sStRow : Stmt := inClass (top 40) 1
abbrev sStLen : Stmt := inClass (top 40) 2
abbrev sStUndoable : Stmt := inClass (top 40) 3
abbrev sStRedoable : Stmt := inClass (top 40) 4
abbrev sStStepTo : Stmt := inClass (top 40) 8
abbrev sStGrow : Stmt := inClass (top 40) 9
abbrev sStCut : Stmt := inClass (top 40) 10
abbrev sStUndo : Stmt := inClass (top 40) 11
abbrev sStRedo : Stmt := inClass (top 40) 12
abbrev sStTrial : Stmt := inClass (top 40) 13
abbrev sStTried : Stmt := inClass (top 40) 14
abbrev sCell : Stmt := top 42
abbrev sBox : Stmt := top 43
abbrev sTake : Stmt := top 44
abbrev sPrime : Stmt := top 45
abbrev sMatrix : Stmt := top 46
abbrev sShown : Stmt := top 47
abbrev sCut : Stmt := top 48
abbrev sLonger : Stmt := top 49
abbrev sStep : Stmt := top 50
abbrev sStands : Stmt := top 51
abbrev sWithin : Stmt := top 52
abbrev sTried : Stmt := top 53
abbrev sLaw : Stmt := top 54
end Tx

set_option Elab.async false
set_option linter.all false
set_option maxRecDepth 100000
set_option maxHeartbeats 4000000
/-! Rules of our own, 1: a def that may be called whatever is handled; the with statement. -/
namespace Ru
open PySem PySem.Spec PyProof.Rows L2

abbrev St := L2.St
abbrev start := L2.start
/-! ### a def that may be called whatever is handled -/
abbrev RoomQ := L2H.RoomH
/-- as FnOk, with no word of what is handled -/
structure FnQ (P : Program) (w : World) (K : PySem.W.Frag) (mg : Str → Option Value) (base : Heap) (CX : CXT) (k : Nat) (f : Addr) (fd : FuncData) (ps : List Str) (sp : Sp) : Prop where
  len : ∀ vs H Q E, sp vs H Q E → vs.length = ps.length
  go : ∀ (A : Around) (outer : List Env) (s : Shared) (H : Hp) (args : Args) (us : List Value) (vs : List V) (Q : VK) (E : XK), RoomQ k A → Env0 P w K mg base A outer s H → BindsTo s fd args (ps.zip us) → Vals vs us →
    sp vs H Q E → codeAny (model P w) A (.call (.ref f) args) (CR CX outer P w H s Q E) s
theorem FnQ.ok {P : Program} {w : World} {K : PySem.W.Frag} {mg : Str → Option Value} {base : Heap} {CX : CXT} {k : Nat} {f : Addr} {fd : FuncData} {ps : List Str} {sp : Sp} (F : FnQ P w K mg base CX k f fd ps sp) :
    FnOk P w K mg base CX k f fd ps sp := ⟨F.len, fun A outer s H args us vs Q E hr => F.go A outer s H args us vs Q E (L2H.roomH_of hr)⟩
/-- the body's context, where something may be handled -/
abbrev cxQ (CX : CXT) (P : Program) (w : World) (K : PySem.W.Frag) (mg : Str → Option Value) (base : Heap) (N : List Str) (qual : Str) (scope : Scope) (f : Addr) (cd : Value) (A : Around) (outer : List Env) (s : Shared) (H : Hp) (E : XK) : Cx :=
  { cxOf CX P w K mg base N qual scope f cd A outer s H E with calm := false }
/-- nothing is handled, in its place -/
abbrev unm (A : Around) : Around := { A with handled := none }
section
variable {P : Program} {w : World} {K : PySem.W.Frag} {mg : Str → Option Value} {base : Heap} {CX : CXT}
theorem env0_unm {A : Around} {outer : List Env} {s : Shared} {H : Hp} (e : Env0 P w K mg base A outer s H) : Env0 P w K mg base (unm A) outer s H :=
  ⟨e.frames, e.mod, e.bs, e.bsz, e.funs, e.frf, e.hok, e.bare⟩
theorem inv_unm {N : List Str} {qual : Str} {scope : Scope} {f : Addr} {cd : Value} {A : Around} {outer : List Env} {s s1 : Shared} {H H1 : Hp} {E : XK} {σ : St} {pins : List (Addr × Obj)}
    (I : Inv (cxOf CX P w K mg base N qual scope f cd (unm A) outer s H E) pins σ H1 s1) : Inv (cxQ CX P w K mg base N qual scope f cd A outer s H E) pins σ H1 s1 :=
  ⟨⟨I.ok.mod, I.ok.kind, I.ok.glob, I.ok.blt, I.ok.above, I.ok.inj, I.ok.has, I.ok.cab, (fun z => Bool.noConfusion (show false = true from z)), I.ok.frames, I.ok.stk, I.ok.exf, I.ok.bs, I.ok.bsz, I.ok.noex, I.ok.exfs, I.ok.funs, I.ok.frf⟩,
    I.os, I.bare, I.base, I.loc, I.cell, I.free, I.freeC, I.pin, I.hok, I.len⟩
theorem fnq_of {k : Nat} {f : Addr} {name qual : Str} {params : Arguments} {body : List Stmt} {scope : Scope} {dvs : List V} {kws : List (Str × V)} {fd : FuncData} {N ps : List Str} {sp : Sp}
    (F : FunD K name qual params body scope dvs kws f fd) (S : FnScope N ps scope) (len : ∀ vs H Q E, sp vs H Q E → vs.length = ps.length)
    (hbody : ∀ (cdv : Value) (A : Around) (outer : List Env) (s : Shared) (H : Hp) (vs : List V) (Q : VK) (E : XK), RoomQ k (A.deeper (envOfC qual scope s.heap.objs.size f cdv)) → sp vs H Q E →
      ∃ t, PSs (cxQ CX P w K mg base N qual scope f cdv A outer s H E) body t ∧ t { nx := fun _ H' => Q .non H', rt := Q } (start N vs) H) : FnQ P w K mg base CX (k + 1) f fd ps sp := by
  obtain ⟨oc, od, dV, kV, doc, pm, an, cdv, ct, osl, rfl, lk, hcd, _, _⟩ := F.ex
  refine ⟨len, fun A outer s H args us vs Q E hr e0 hb r hsp => ?_⟩
  have hl := len _ _ _ _ hsp
  have KX : K.In s.heap := e0.mod.kin.keeps fun b o e => (e0.bs b o e).1
  have lim : s.heap.NoLimit := e0.mod.nolimit.keeps fun b o e => (e0.bs b o e).1
  have hkd : ∀ y ∈ ps.zip us, scope.names.lookup y.1 = some .local ∨ (scope.names.lookup y.1 = some .cell ∧ ((cellsFrom (s.heap.objs.size + 1) scope.names []).lookup y.1).isSome = true) := fun y hy =>
    (S.par y.1 (List.of_mem_zip (a := y.1) (b := y.2) hy).1).elim (fun q => .inl q) fun q => .inr ⟨q, PySem.W.cellsFrom_some _ _ _ (.inl q)⟩
  refine codeAny_call_function hr.depth (KX _ _ lk) rfl S.co S.gen rfl (PySem.W.codeRec_of KX hcd) (hb _ _ _ _ (wpAny_newFunctionEnv_cells S.kind hkd fun env he s1 x => ?_))
  subst he
  refine ⟨lim.keeps x.toInCall.keep, codeAny_func ?_⟩
  obtain ⟨t, ht, hq⟩ := hbody cdv A outer s H vs Q E (hr.deeper _) hsp
  have I0 := inv_unm (A := A) (inv_start (CX := CX) (E := E) S (A := unm A) rfl (env0_unm e0) hl r x)
  refine wpAny_mono (ht.run [] s1 (start N vs) H _ I0 hq) (fun fl s' hs => ?_) fun e s' hs => hs
  match fl, hs with
  | .ret u, ⟨v, σ', H', J, rv, q⟩ => exact ⟨v, H', J.os, J.bare, J.base, J.hok, rv, q⟩
  | .next, ⟨σ', H', J, q⟩ => exact ⟨V.non, H', J.os, J.bare, J.base, J.hok, (show RelV V.non Value.none from rfl), q⟩
  | .brk, ⟨_, _, _, q⟩ => exact False.elim q
  | .cont, ⟨_, _, _, q⟩ => exact False.elim q
end
end Ru

set_option Elab.async false
set_option linter.all false
set_option maxRecDepth 100000
set_option maxHeartbeats 4000000
/-! Rules of our own, 2: the with statement over an own class, its body left by an exception too. -/
namespace Ru
open PySem PySem.Spec PyProof.Rows L2
section
variable {prog : Program} {w : World} {A : Around} {E : Value → Shared → Prop} {s : Shared} {env : Env} {K : PySem.W.Frag} {x C fe fx : Addr} {ox : Obj} {od : Option Obj} {pos : Pos}
/-- what the way out by an exception asks -/
def OutBy (prog : Program) (w : World) (A : Around) (E : Value → Shared → Prop) (env : Env) (x fx : Addr) (Q : Flow → Shared → Prop) (e : Value) (s : Shared) : Prop :=
  wpAny (model prog w) A (typeOf e) (fun c s7 => wpAny (model prog w) A (tracebackOf e) (fun t s8 => codeAny (model prog w) (A.mark (some e)) (.call (.ref fx) ⟨[.ref x, c, e, t], []⟩) (fun r s9 => match r with
    | .ok (.ret u) => u = .bool false ∧ wpAny (model prog w) A (PySem.passOn "with" e env : Sem Flow) Q E s9
    | .ok _ => False
    | .error y => E y s9) s8) E s7) E s
theorem with_core {bdy : Sem Flow} {Q : Flow → Shared → Prop} (X : K.In s.heap) (I : PySem.W.InstAt s.heap x ox C od) (he : PySem.W.findIn K (.ref C) "__enter__" = some (some (.ref fe))) (hfe : PySem.W.isFn K (.ref fe) = true)
    (hx : PySem.W.findIn K (.ref C) "__exit__" = some (some (.ref fx))) (hfx : PySem.W.isFn K (.ref fx) = true)
    (h : wpAny (model prog w) A (call (.ref fe) [.ref x]) (fun _ s2 => wpAny (model prog w) A bdy (fun f s4 => wpAny (model prog w) A (call (.ref fx) [.ref x, .none, .none, .none]) (fun _ s5 => Q f s5) E s4)
      (fun e s4 => e ≠ byPass ∧ wpAny (model prog w) A (noteFrame e env) (fun _ s5 => wpAny (model prog w) A (setFlight e none) (fun _ s6 => OutBy prog w A E env x fx Q e s6) E s5) E s4) s2) E s) :
    wpAny (model prog w) A (withItem false pos env (pure (.ref x)) none bdy) Q E s := by
  obtain ⟨cd, hcd, ae⟩ := PySem.W.kw_along he
  obtain ⟨cd2, hcd2, ax⟩ := PySem.W.kw_along hx
  cases hcd.symm.trans hcd2
  obtain ⟨hh, g, d, tt, os⟩ := s
  have L1 : PySem.W.Looks (model prog w) hh (specialOnItsLine (.ref x) "__enter__") (some (.ref fe), cd.mro) := PySem.W.kw_special X I hcd ae
  have L2' : PySem.W.Looks (model prog w) hh (specialOnItsLine (.ref x) "__exit__") (some (.ref fx), cd.mro) := PySem.W.kw_special X I hcd ax
  have L3 : PySem.W.Looks (model prog w) hh (bindSpecial (.ref fe) (.ref x)) (.ref fe, [.ref x]) := PySem.W.bind_fn X _ (beq_iff_eq.mp hfe)
  have L4 : PySem.W.Looks (model prog w) hh (bindSpecial (.ref fx) (.ref x)) (.ref fx, [.ref x]) := PySem.W.bind_fn X _ (beq_iff_eq.mp hfx)
  have L5 : PySem.W.Looks (model prog w) hh (aMethodOfAnotherBuiltinTypeStops (.ref fe) cd.mro) () := PySem.W.Looks.of_pure rfl
  have L6 : PySem.W.Looks (model prog w) hh (aMethodOfAnotherBuiltinTypeStops (.ref fx) cd.mro) () := PySem.W.Looks.of_pure rfl
  unfold withItem
  refine wpAny_bind (wpAny_pure (wpAny_bind (wpAny_standAt ?_)))
  simp only [Bool.false_eq_true, if_false]
  kw_lk
  refine wpAny_mono h (fun v s2 h2 => ?_) fun _ _ z => z
  kw_lk
  refine wpAny_attempt (PySem.W.kw_held ?_)
  show wpAny _ _ bdy _ _ _
  refine wpAny_mono h2 (fun f s4 h4 => ?_) (fun e s4 h4 => ?_)
  · kw_lk
    refine wpAny_mono h4 (fun _ s5 h5 => ?_) fun _ _ z => z
    kw_lk
    exact h5
  · obtain ⟨hne, h4⟩ := h4
    refine wpAny_bind (wpAny_mono h4 (fun _ s5 h5 => ?_) fun _ _ z => z)
    refine wpAny_bind (wpAny_mono h5 (fun _ s6 h6 => ?_) fun _ _ z => z)
    refine wpAny_bind (wpAny_standAt (wpAny_holding ?_))
    refine wpAny_bind (wpAny_mono h6 (fun c s7 h7 => ?_) fun _ _ z => z)
    refine wpAny_bind (wpAny_mono h7 (fun t s8 h8 => ?_) fun _ _ z => z)
    refine wpAny_bind ?_
    unfold withItem.marked
    refine wpAny_bind (wpAny_run (codeAny_mono h8 fun r s9 h9 => ?_) (fun z => hne (Option.some.inj z)))
    match r, h9 with
    | .error y, h9 => exact h9
    | .ok (.ret u), ⟨eu, h9⟩ =>
      subst eu
      refine wpAny_pure (wpAny_bind (wpAny_pure ?_))
      refine wpAny_bind (wpAny_pure ?_)
      rw [if_neg Bool.false_ne_true]
      exact h9
end
end Ru

set_option Elab.async false
set_option linter.all false
set_option maxRecDepth 100000
set_option maxHeartbeats 4000000
/-! Rules of our own, 3: the with statement's rule. -/
namespace Ru
open PySem PySem.Spec PyProof.Rows L2
section
variable {X : Cx} {pins : List (Addr × Obj)} {σ : St} {H H3 : Hp} {sI s4 : Shared} {B h3 : Heap} {a : Addr} {cls : Value} {d : Option Addr}
/-- an exception stands by (its flight set to none) while a def is called that changes what is tracked: it is in the air still -/
theorem air_after (J : Inv X pins σ H sI) (nb : ∀ b o, sI.heap.get? b = some o → b ∉ frs X.stack → B.get? b = some o) (fl : HandSPX.FlyingZ B X.stack a (Zc cls d) h3) (up : sI.heap.UpToSlots h3) (os : s4.os = sI.os)
    (un : Un (frs X.stack) [] H H3 h3 s4.heap) (J4 : Inv X pins σ H3 s4) (na : H a = none) :
    L2.CX X.prog X.w X.stack H sI (fun c d' H' => c = cls ∧ d' = d ∧ H' = H3) (.ref a) s4 := by
  have hokB := J.inGround nb
  obtain ⟨st, nB, ff, oe, vs, T, oT, ts, he, hz, hd, h1, hnT, hTe, hT, hdT, hfl⟩ := fl
  have nfr : ∀ {b : Addr} {o : Obj} {ws : Array Value}, h3.get? b = some o → o.data = .fields ws → b ∉ frs X.stack := fun {b o ws} e dd hm => by
    obtain ⟨_, o2, e2, hnf⟩ := ff.mem hm
    rw [e] at e2
    cases e2
    exact hnf _ dd
  have fa := nfr he hd
  have fT := nfr hT hdT
  have nT : H T = none := hokB.gone hnT
  have na3 : H3 a = none := un.free a oe he na (by simp)
  have nT3 : H3 T = none := un.free T oT hT nT (by simp)
  have he4 := un.keep a oe he na fa (by simp)
  have hT4 := un.keep T oT hT nT fT (by simp)
  obtain ⟨G, g1, g2⟩ := restrict s4.heap fun b => decide (b ≠ a ∧ b ≠ T ∧ b ∉ frs X.stack)
  have gi : ∀ {b : Addr}, b ≠ a → b ≠ T → b ∉ frs X.stack → G.get? b = s4.heap.get? b := fun {b} x y z => g1 b (decide_eq_true ⟨x, y, z⟩)
  have go : ∀ {b : Addr}, ¬ (b ≠ a ∧ b ≠ T ∧ b ∉ frs X.stack) → G.get? b = none := fun {b} x => g2 b (decide_eq_false x)
  have stG : G.StaysIn s4.heap := fun b o e => by
    by_cases hb : b ≠ a ∧ b ≠ T ∧ b ∉ frs X.stack
    · rw [← gi hb.1 hb.2.1 hb.2.2]; exact e
    · rw [go hb] at e; cases e
  have toB : ∀ {b : Addr} {o : Obj}, B.get? b = some o → b ≠ a ∧ b ≠ T := fun {b o} e => ⟨fun z => absurd e (by rw [z, nB]; exact fun q => nomatch q), fun z => absurd e (by rw [z, hnT]; exact fun q => nomatch q)⟩
  have ffG : s4.heap.FunFrames G X.stack := funFrames_none J4.stack fun L hL => go fun z => z.2.2 hL
  refine ⟨a, G, H3, cls, d, rfl, ⟨stG, go fun z => z.1 rfl, ffG, oe, vs, T, oT, ts, he4, hz, hd, h1, go fun z => z.2.1 rfl, hTe, hT4, hdT, hfl⟩, fun b o q => (J4.hok b o q).stay (fun c u hc e => ?_) (fun _ r => r) fun _ _ r => r,
    ⟨fun b o e n hb => ?_, fun b o e hb => ?_, fun b o e n => ?_, fun b o e hb => ?_, un.tups, un.frzs, un.tbls⟩, na3, os, J4.bare, rfl, rfl, rfl⟩
  · have hn : H3 c ≠ none := fun z => by
      rcases hc with hc | hc
      · rw [hc, q] at z; cases z
      · rw [hc] at z; cases z
    rw [gi (fun z => hn (by rw [z]; exact na3)) (fun z => hn (by rw [z]; exact nT3)) (fun z => hn (J4.stkFree c z))]
    exact e
  · have eB := nb b o e hb
    rw [gi (toB eB).1 (toB eB).2 hb]
    exact un.keep b o (st b o eB) n hb (by simp)
  · obtain ⟨_, o2, e2, hnf⟩ := J.stack.mem hb
    rw [e] at e2
    cases e2
    obtain ⟨sl, q⟩ := up b o e hnf
    obtain ⟨sl2, q2⟩ := un.slot b _ q (J.stkFree b hb) hb (by simp)
    exact ⟨sl2, q2⟩
  · by_cases hb : b ∈ frs X.stack
    · exact J4.stkFree b hb
    · exact un.free b o (st b o (nb b o e hb)) n (by simp)
  · have eB := nb b o e hb
    obtain ⟨o2, e2⟩ := un.there b o (st b o eB) (by simp)
    exact ⟨o2, by rw [gi (toB eB).1 (toB eB).2 hb]; exact e2⟩
end
/-- what the block's end by an exception asks -/
def wWith (sp : Sp) (a : Addr) (Wout : WX) : WX := fun cls d σ H => ∃ c : V, RelV c cls ∧ ∀ (t : V) (e : Addr), H e = none → sp [.ref a, c, .ref e, t] H (fun r H3 => r = .bl false ∧ Wout cls d σ H3) E0
def tWith (C : Addr) (spE spX : Sp) (te : TE) (tb : WX → TS) (Wout : WX) : TS := fun D σ H => te σ H fun x H1 => ∃ a dx fs, x = .ref a ∧ H1 a = some (.ins C dx fs) ∧ spE [.ref a] H1 (fun _ H2 =>
  tb (wWith spX a Wout) { nx := fun σ' H' => spX [.ref a, .non, .non, .non] H' (fun _ H3 => D.nx σ' H3) E0, rt := fun v H' => spX [.ref a, .non, .non, .non] H' (fun _ H3 => D.rt v H3) E0, bk := fun σ' H' => spX [.ref a, .non, .non, .non] H' (fun _ H3 => D.bk σ' H3) E0, ct := fun σ' H' => spX [.ref a, .non, .non, .non] H' (fun _ H3 => D.ct σ' H3) E0 } σ H2) E0
section
variable {X : Cx} {CX : CXT} {k : Nat} {f : Addr} {fd : FuncData} {ps : List Str} {sp : Sp} {E : XK}
/-- such a def runs, from a body (or a suite) -/
theorem run_fnq {pins : List (Addr × Obj)} {σ : St} {H : Hp} {s : Shared} {Q : VK} {us : List Value} {vs : List V} (F : FnQ X.prog X.w X.K X.mg X.base CX k f fd ps sp) (hr : RoomQ k X.A) (hb : Binds X.K fd ps []) (hx : Passes CX X E)
    (I : Inv X pins σ H s) (r : Vals vs us) (h : sp vs H Q E) : wpAny (model X.prog X.w) X.A (call (.ref f) us) (EP X pins σ Q) X.xe s := by
  have b := hb s us I.kIn (by rw [List.append_nil, ← r.length]; exact F.len _ _ _ _ h)
  rw [List.append_nil] at b
  refine wpAny_call (codeAny_mono (F.go X.A X.stack s H ⟨us, []⟩ us vs Q E hr I.env0 b r h) fun r s' hq => ?_)
  match r, hq with
  | .error e, hq => exact hx pins σ H s e s' I hq
  | .ok (.ret u), hq => exact I.after hq
end
section
variable {X : Cx} {C fe fx : Addr} {ke kx : Nat} {fde fdx : FuncData} {spE spX : Sp} {CXe : CXT} {ctx : Expr} {body : List Stmt} {pos : Pos} {te : TE} {tb : WX → TS} {Wout : WX} {pe px : List Str}
theorem ps_with (hs : X.stack = X.env :: X.outer) (hf : X.env.frame = some X.env.locals) (en : PySem.W.findIn X.K (.ref C) "__enter__" = some (some (.ref fe))) (fen : PySem.W.isFn X.K (.ref fe) = true)
    (ex : PySem.W.findIn X.K (.ref C) "__exit__" = some (some (.ref fx))) (fxn : PySem.W.isFn X.K (.ref fx) = true) (FE : FnQ X.prog X.w X.K X.mg X.base (L2.CX X.prog X.w) ke fe fde pe spE) (rE : RoomQ ke X.A) (bE : Binds X.K fde pe [])
    (FX : FnQ X.prog X.w X.K X.mg X.base (L2.CX X.prog X.w) kx fx fdx px spX) (rX : RoomQ kx X.A) (bX : Binds X.K fdx px []) (he : PE X ctx te) (tk : Takes X Wout)
    (hb : ∀ (W : WX) (pn : List (Addr × Obj)) (xe : Value → Shared → Prop), Takes (X.tr pn xe) W → PSs (X.tr pn xe) body (tb W)) : PS X (.With [⟨ctx, none⟩] body pos) (tWith C spE spX te tb Wout) := by
  refine ⟨fun pins s σ H D I h => ?_⟩
  have ok := I.ok
  have hfr : X.A.frames = some (X.env :: X.outer) := by rw [ok.frames, hs]
  refine PySem.W.kw_exec0 (thn (he.run pins s σ H _ I h) fun u s1 ⟨x, H1, I1, rx, a, dx, fs, exx, ea, q⟩ => ?_)
  subst exx
  obtain rfl : u = Value.ref a := rx
  obtain ⟨mA, O, _, _, _, _⟩ := ins_get I1.hok ea
  obtain ⟨od, Io, _⟩ := O.look
  refine with_core I1.kIn Io en fen ex fxn ?_
  refine thn (run_fnq FE rE bE passL I1 (.cons (show RelV (.ref a) (.ref a) from rfl) .nil) q) fun u2 s2 ⟨v2, H2, I2, _, q2⟩ => ?_
  have r4 : Vals [V.ref a, V.non, V.non, V.non] [Value.ref a, Value.none, Value.none, Value.none] := .cons rfl (.cons rfl (.cons rfl (.cons rfl .nil)))
  refine wpAny_mono ((hb (wWith spX a Wout) (X.pn ++ pins) (fun e s4 => e ≠ byPass ∧ wpAny (model X.prog X.w) X.A (noteFrame e X.env) (fun _ s5 => wpAny (model X.prog X.w) X.A (setFlight e none) (fun _ s6 =>
    OutBy X.prog X.w X.A X.xe X.env a fx (SP X pins D) e s6) X.xe s5) X.xe s4) (fun u s' xx => ?_)).run [] s2 σ H2 _ (I2.toTry _) q2) (fun fl s4 hsp => ?_) (fun e s4 he4 => he4)
  · obtain ⟨ea', B, sI, pins', σ', H', cls, d, rfl, J', nb, up, sky, na, os, ag, cv, rc, w⟩ := xx
    have J : Inv X pins σ' H' sI := J'.ofTry ok
    have sky' : Sky B (X.env :: X.outer) ea' (Zc cls d) X.env.locals s'.heap := by rw [← hs]; exact sky
    refine ⟨(fun z => nomatch (show Value.ref ea' = Value.notImplemented from z)), ?_⟩
    show wpAny (model X.prog X.w) X.A (noteFrame (.ref ea') X.env) _ _ _
    refine Sky.land Zc.steady hfr hf sky' fun h3 fl3 up3 => ?_
    have J3 : Inv X pins σ' H' { s' with heap := h3 } := J.landed nb fl3.1 (up.trans up3) os ag
    obtain ⟨st, nB, ff, oe, vs, T, oT, ts, heT, hz, hd, h1, hnT, hTe, hT, hdT, hfl⟩ := id fl3
    have hsz : 3 < ts.size := (Array.getElem?_eq_some_iff.mp hfl).1
    refine wpAny_typeOf_ref heT ?_
    have tb_ : ∀ (Q : Value → Shared → Prop) (E : Value → Shared → Prop), (∀ t : V, ∀ u : Value, RelV t u → Q u { s' with heap := h3 }) → wpAny (model X.prog X.w) X.A (tracebackOf (.ref ea')) Q E { s' with heap := h3 } := fun Q E hq => by
      unfold tracebackOf
      refine wpAny_bind (wpAny_field heT hd h1 ?_)
      obtain ⟨y, hy⟩ : ∃ y, ts[1]? = some y := ⟨_, Array.getElem?_eq_getElem (by omega)⟩
      refine wpAny_bind (wpAny_field hT hdT hy ?_)
      by_cases hyn : (y == Value.none) = true
      · rw [if_pos hyn]
        exact wpAny_pure (hq .non _ rfl)
      · rw [if_neg hyn]
        exact wpAny_pure (hq (.ref T) _ rfl)
    refine tb_ _ _ fun t u rt => ?_
    have rc' : RelV cv oe.cls := by rw [hz.1]; exact rc
    have r5 : Vals [V.ref a, cv, V.ref ea', t] [Value.ref a, oe.cls, Value.ref ea', u] := .cons rfl (.cons rc' (.cons rfl (.cons rt .nil)))
    have hsp := w t ea' na
    have b := bX _ [Value.ref a, oe.cls, Value.ref ea', u] J3.kIn (by rw [List.append_nil, ← r5.length]; exact FX.len _ _ _ _ hsp)
    rw [List.append_nil] at b
    have e0 : Env0 X.prog X.w X.K X.mg X.base (X.A.mark (some (.ref ea'))) X.stack { s' with heap := h3 } H' := ⟨J3.env0.frames, J3.env0.mod, J3.env0.bs, J3.env0.bsz, J3.env0.funs, J3.env0.frf, J3.env0.hok, J3.env0.bare⟩
    refine codeAny_mono (FX.go _ X.stack { s' with heap := h3 } H' ⟨_, []⟩ _ _ _ E0 ⟨rX.dp, rX.un⟩ e0 b r5 hsp) fun r s9 hq => ?_
    match r, hq with
    | .error e, hq => exact (passL (X := X) pins σ' H' _ e s9 J3 hq : X.xe e s9)
    | .ok (.ret u9), hq =>
      obtain ⟨v9, H9, os9, bare9, un9, hok9, rv9, ev9, q9⟩ := id hq
      subst ev9
      obtain ⟨v9', H9', J9, rv9', q9'⟩ := J3.after (Q := fun v H => v = V.bl false ∧ H = H9) ⟨V.bl false, H9, os9, bare9, un9, hok9, rv9, rfl, rfl⟩
      obtain ⟨ev, eH⟩ := q9'
      subst eH
      refine ⟨rv9, ?_⟩
      have fl3' : HandSPX.FlyingZ B X.stack ea' (Zc cls d) h3 := by rw [hs]; exact fl3
      have c := air_after (s4 := s9) J nb fl3' (up.trans up3) (os9.trans os) un9 J9 na
      obtain ⟨_, _, _, _, _, ec, ⟨_, _, _, oe9, vs9, T9, _, _, he9, _, hd9, h19, _⟩, _⟩ := id c
      cases ec
      obtain ⟨a2, B2, sI2, pins2, σ2, H2', cls2, d2, e2, I2', nb2, up2, sky2, na2, os2, ag2, w2⟩ := XE.of_call (W := fun c d' σ'' H'' => c = cls ∧ d' = d ∧ H'' = H9' ∧ σ'' = σ') J (fun c d' H'' ⟨x1, x2, x3⟩ => ⟨x1, x2, x3, rfl⟩) c
      obtain ⟨z1, z2, z3, z4⟩ := w2
      cases e2
      subst z1 z2 z3 z4
      have fin : ∀ h10 : Heap, s9.heap.UpToSlots h10 → HandSPX.HeldZ B2 X.stack ea' (Zc cls2 d2) X.env.locals h10 → X.xe (.ref ea') { s9 with heap := h10 } := fun h10 u10 held =>
        tk _ _ ⟨ea', B2, sI2, pins2, σ2, H2', cls2, d2, rfl, I2', nb2, up2.trans u10, .inr (.inr held), na2, os2, ag2, q9⟩
      unfold PySem.passOn
      refine wpAny_bind (wpAny_field he9 hd9 h19 ?_)
      rw [if_neg (show ¬ ((Value.ref T9 == Value.none) = true) from by simp)]
      have go : wpAny (model X.prog X.w) X.A (setFlight (.ref ea') X.env.frame) (fun _ s10 => wpAny (model X.prog X.w) X.A (throw (.ref ea') : Sem Flow) (SP X pins D) X.xe s10) X.xe s9 := by
        rw [hf]
        rcases sky2 with ⟨_, _, _, oe, vs, x1, _, x2, x3⟩ | fl | hd
        · rw [he9] at x1
          cases x1
          rw [hd9] at x2
          cases x2
          rw [h19] at x3
          cases x3
        · exact HandSPX.setFlight_upZ fl fun h10 hh up10 => wpAny_throw (fin h10 up10 hh)
        · exact HandSPX.setFlight_onZ hd fun h10 hh up10 => wpAny_throw (fin h10 up10 hh)
      first
        | exact wpAny_bind (wpAny_pure (wpAny_bind go))
        | exact wpAny_bind go
  · have ex_ : ∀ {σ5 : St} {H5 : Hp} {Q : Hp → Prop} {R : Shared → Prop}, Inv X pins σ5 H5 s4 → spX [.ref a, .non, .non, .non] H5 (fun _ H6 => Q H6) E0 → (∀ s6 H6, Inv X pins σ5 H6 s6 → Q H6 → R s6) →
        wpAny (model X.prog X.w) X.A (call (.ref fx) [.ref a, .none, .none, .none]) (fun _ s6 => R s6) X.xe s4 := fun {σ5 H5 Q R} J q hR =>
      thn (run_fnq FX rX bX passL J r4 q) fun u6 s6 ⟨v6, H6, J6, _, q6⟩ => hR s6 H6 J6 q6
    match fl, hsp with
    | .next, ⟨σ5, H5, J5, q5⟩ => exact ex_ (J5.ofTry ok) q5 fun s6 H6 J6 q6 => ⟨σ5, H6, J6, q6⟩
    | .brk, ⟨σ5, H5, J5, q5⟩ => exact ex_ (J5.ofTry ok) q5 fun s6 H6 J6 q6 => ⟨σ5, H6, J6, q6⟩
    | .cont, ⟨σ5, H5, J5, q5⟩ => exact ex_ (J5.ofTry ok) q5 fun s6 H6 J6 q6 => ⟨σ5, H6, J6, q6⟩
    | .ret u5, ⟨v5, σ5, H5, J5, rv5, q5⟩ => exact ex_ (J5.ofTry ok) q5 fun s6 H6 J6 q6 => ⟨v5, σ5, H6, J6, rv5, q6⟩
end
end Ru

set_option Elab.async false
set_option linter.all false
set_option maxRecDepth 100000
set_option maxHeartbeats 4000000
/-! Rules of our own, 4: several except clauses, some of them with a name. -/
namespace Ru
open PySem PySem.Spec PyProof.Rows L2
/-- a clause: its class, its name's slot, its suite's reading -/
abbrev Cl := Value × Option Nat × (Addr → Value → Option Addr → TS)
/-- behind a suite the clause's name is gone -/
def endsAt (o : Option Nat) (D : Ends) : Ends := match o with
  | none => D
  | some i => { nx := fun σ H => D.nx (σ.set i none) H, rt := D.rt, bk := fun σ H => D.bk (σ.set i none) H, ct := fun σ H => D.ct (σ.set i none) H }
def setAt (o : Option Nat) (a : Addr) (σ : St) : St := match o with
  | none => σ
  | some i => σ.set i (some (.ref a))
def wCls (K : PySem.W.Frag) (Wout : WX) (D : Ends) : List Cl → WX
  | [] => Wout
  | (c, o, ts) :: r => fun cls d σ H => ∃ b, PySem.W.exmOne K cls c = some b ∧ (b = true → ∀ a, H a = none → ts a cls d (endsAt o D) (setAt o a σ) H) ∧ (b = false → wCls K Wout D r cls d σ H)
inductive ClsOk (X : Cx) : List ExceptHandler → List Cl → Prop
  | nil : ClsOk X [] []
  | cons {x : Str} {nm : Option Str} {o : Option Nat} {c : Value} {ts : Addr → Value → Option Addr → TS} {b0 : Stmt} {suite : List Stmt} {np pos' : Pos} {hds : List ExceptHandler} {l : List Cl} (hc : Names X x c)
      (hn : (nm = none ∧ o = none) ∨ ∃ n i, nm = some n ∧ o = some i ∧ X.N[i]? = some n ∧ X.env.kindOf n = some .local)
      (hsu : ∀ (a : Addr) (oe : Obj) (cls : Value) (d : Option Addr) (pn : List (Addr × Obj)), Zc cls d oe → (∃ vs, oe.data = .fields vs) → PSs (X.suite a ((a, oe) :: pn)) (b0 :: suite) (ts a cls d)) (r : ClsOk X hds l) :
      ClsOk X (.ExceptHandler (some (.Name x np)) nm (b0 :: suite) pos' :: hds) ((c, o, ts) :: l)
section
variable {X : Cx} {body : List Stmt} {h0 : ExceptHandler} {hds : List ExceptHandler} {l : List Cl} {pos : Pos} {tb : WX → TS} {Wout : WX}
theorem ps_try_cls (hs : X.stack = X.env :: X.outer) (hf : X.env.frame = some X.env.locals) (hN : X.N.Nodup) (tk : Takes X Wout)
    (hb : ∀ (W : WX) (pn : List (Addr × Obj)) (xe : Value → Shared → Prop), Takes (X.tr pn xe) W → PSs (X.tr pn xe) body (tb W))
    (hh : ClsOk X (h0 :: hds) l) : PS X (.Try body (h0 :: hds) [] [] pos) (fun D σ H => tb (wCls X.K Wout D l) D σ H) := by
  refine ⟨fun pins s σ H D I h => ?_⟩
  have ok := I.ok
  have hfr : X.A.frames = some (X.env :: X.outer) := by rw [ok.frames, hs]
  refine wpAny_Try_except (wpAny_mono ((hb (wCls X.K Wout D l) (X.pn ++ pins) (fun e s1 => wpAny (model X.prog X.w) X.A (noteFrame e X.env) (fun _ s2 => wpAny (model X.prog X.w) X.A (setFlight e none) (fun _ s3 =>
    wpAny (model X.prog X.w) X.A (handleBy e X.env (h0 :: hds)) (SP X pins D) X.xe s3) X.xe s2) X.xe s1) (fun u s' xx => ?_)).run [] s σ H D (I.toTry _) h) (fun f s1 hsp => ?_) (fun e s1 he => he))
  · obtain ⟨a, B, sI, pins', σ', H', cls, d, rfl, J', nb, up, sky, na, os, ag, w⟩ := xx
    have J : Inv X pins σ' H' sI := J'.ofTry ok
    have sky' : Sky B (X.env :: X.outer) a (Zc cls d) X.env.locals s'.heap := by rw [← hs]; exact sky
    show wpAny (model X.prog X.w) X.A (noteFrame (.ref a) X.env) _ _ _
    refine Sky.land Zc.steady hfr hf sky' fun h3 fl3 up3 => ?_
    have J3 : Inv X pins σ' H' { s' with heap := h3 } := J.landed nb fl3.1 (up.trans up3) os ag
    obtain ⟨oe3, vs3, he3, hz3, hd3⟩ := fl3.there
    have nfr : a ∉ frs (X.env :: X.outer) := fun hm => by
      obtain ⟨_, o', e', hnf⟩ := fl3.2.2.1.mem hm
      rw [he3] at e'
      cases e'
      exact hnf _ hd3
    have nL : a ≠ X.env.locals := fun z => nfr (List.mem_filterMap.mpr ⟨X.env, List.mem_cons_self, by rw [hf, z]⟩)
    have nF : a ∉ X.fs := fun hm => by
      obtain ⟨e, he, q⟩ := List.mem_filterMap.mp hm
      exact nfr (List.mem_filterMap.mpr ⟨e, List.mem_cons_of_mem _ he, q⟩)
    have S3 := J3.suite he3 hd3 na nL nF
    have go : ∀ {hds' : List ExceptHandler} {l' : List Cl}, ClsOk X hds' l' → wCls X.K Wout D l' cls d σ' H' → wpAny (model X.prog X.w) X.A (handleBy (.ref a) X.env hds') (SP X pins D) X.xe { s' with heap := h3 } := by
      intro hds' l' hk
      induction hk with
      | nil =>
        intro w
        refine wpAny_handleBy_nil ?_
        obtain ⟨_, _, _, oe, vs, T, oT, ts', he, _, hd, h1, _⟩ := id fl3
        unfold PySem.passOn
        refine wpAny_bind (wpAny_field he hd h1 ?_)
        rw [if_neg (show ¬ ((Value.ref T == Value.none) = true) from by simp)]
        have fin : wpAny (model X.prog X.w) X.A (setFlight (.ref a) X.env.frame) (fun _ s4 => wpAny (model X.prog X.w) X.A (throw (.ref a) : Sem Flow) (SP X pins D) X.xe s4) X.xe { s' with heap := h3 } := by
          rw [hf]
          exact HandSPX.setFlight_upZ fl3 fun h4 hh4 up4 => wpAny_throw (tk _ _ ⟨a, B, sI, pins, σ', H', cls, d, rfl, J, nb, (up.trans up3).trans up4, .inr (.inr (by rw [hs]; exact hh4)), na, os, ag, w⟩)
        first
          | exact wpAny_bind (wpAny_pure (wpAny_bind fin))
          | exact wpAny_bind fin
      | @cons x nm o c ts b0 suite np pos' hds2 l2 hc hn hsu r ih =>
        intro w
        obtain ⟨b, hb1, hyes, hno⟩ := w
        have LT : PySem.W.Looks (model X.prog X.w) h3 (typeOf (.ref a)) cls := fun A Q E s k q => wpAny_typeOf_ref (k _ _ he3) (by rw [hz3.1]; exact q)
        have LM := PySem.W.exm_one (M := model X.prog X.w) (J3.kIn) LT hb1
        have test : ∀ {Q : Value → Shared → Prop} {E : Value → Shared → Prop}, Q c { s' with heap := h3 } → wpAny (model X.prog X.w) (X.A.mark (some (.ref a))) (eval (.Name x np) X.env) Q E { s' with heap := h3 } := fun {Q E} q => by
          obtain ⟨hg, hdbg, hm | ⟨hm, hv, hnn⟩⟩ := hc
          · exact ld_glob (X := X.suite a ((a, oe3) :: (X.pn ++ pins))) S3 hg hm q hdbg
          · exact ld_blt (X := X.suite a ((a, oe3) :: (X.pn ++ pins))) S3 hg hm hv q hnn hdbg
        refine wpAny_handleBy_cons (codeAny_handlers_test (test (LM.here ?_))) (by intro q; cases q)
        cases b with
        | false =>
          show wpAny _ X.A (handleBy (.ref a) X.env hds2) _ _ _
          exact ih (hno rfl)
        | true =>
          rcases hn with ⟨rfl, rfl⟩ | ⟨n, i, rfl, rfl, hi, hln⟩
          · refine codeAny_handlers_suite (HandSPX.lands_againZ fl3 fun h4 fl4 up4 => ?_)
            have J4 : Inv X pins σ' H' { s' with heap := h4 } := J.landed nb fl4.1 ((up.trans up3).trans up4) os ag
            obtain ⟨oe4, vs4, he4, hz4, hd4⟩ := fl4.there
            refine wpAny_mono ((hsu a oe4 cls d (X.pn ++ pins) hz4 ⟨_, hd4⟩).run [] _ _ H' _ (J4.suite he4 hd4 na nL nF) (hyes rfl a na)) (fun f s6 hsp => ?_) (fun _ _ z => False.elim z)
            match f, hsp with
            | .next, ⟨σ6, H6, S6, q6⟩ => exact ⟨_, _, S6.unsuite ok, q6⟩
            | .brk, ⟨σ6, H6, S6, q6⟩ => exact ⟨_, _, S6.unsuite ok, q6⟩
            | .cont, ⟨σ6, H6, S6, q6⟩ => exact ⟨_, _, S6.unsuite ok, q6⟩
            | .ret u, ⟨v6, σ6, H6, S6, r6, q6⟩ => exact ⟨_, _, _, S6.unsuite ok, r6, q6⟩
          · refine codeAny_handlers_suite_as (HandSPX.lands_againZ fl3 fun h4 fl4 up4 => ?_)
            have J4 : Inv X pins σ' H' { s' with heap := h4 } := J.landed nb fl4.1 ((up.trans up3).trans up4) os ag
            obtain ⟨oe4, vs4, he4, hz4, hd4⟩ := fl4.there
            refine store_ok (X := X.suite a ((a, oe4) :: (X.pn ++ pins))) (v := .ref a) (J4.suite he4 hd4 na nL nF) hN hi (.inl hln) rfl (fun s5 S5 => ?_) (.inr hln)
            refine wpAny_mono ((hsu a oe4 cls d (X.pn ++ pins) hz4 ⟨_, hd4⟩).run [] s5 _ H' _ S5 (hyes rfl a na)) (fun f s6 hsp => ?_) (fun _ _ z => False.elim z)
            have end_ : ∀ {σ6 : St} {H6 : Hp} {Q : Shared → Prop}, Inv (X.suite a ((a, oe4) :: (X.pn ++ pins))) [] σ6 H6 s6 → (∀ s7, Inv X pins (σ6.set i none) H6 s7 → Q s7) →
                wpAny (model X.prog X.w) X.A (do bindName X.env n .none; unbindBehindTheSuite X.env n pos') (fun _ s7 => Q s7) X.xe s6 := fun {σ6 H6 Q} S6 hq => gone_ok (S6.unsuite ok) hN hi hln hq
            match f, hsp with
            | .next, ⟨σ6, H6, S6, q6⟩ => exact end_ S6 fun s7 J7 => ⟨_, _, J7, q6⟩
            | .brk, ⟨σ6, H6, S6, q6⟩ => exact end_ S6 fun s7 J7 => ⟨_, _, J7, q6⟩
            | .cont, ⟨σ6, H6, S6, q6⟩ => exact end_ S6 fun s7 J7 => ⟨_, _, J7, q6⟩
            | .ret u, ⟨v6, σ6, H6, S6, r6, q6⟩ => exact end_ S6 fun s7 J7 => ⟨_, _, _, J7, r6, q6⟩
    exact go hh w
  · match f, hsp with
    | .next, ⟨σ', H', J', q⟩ => exact wpAny_execs_nil ⟨σ', H', J'.ofTry ok, q⟩
    | .brk, ⟨σ', H', J', q⟩ => exact ⟨σ', H', J'.ofTry ok, q⟩
    | .cont, ⟨σ', H', J', q⟩ => exact ⟨σ', H', J'.ofTry ok, q⟩
    | .ret u, ⟨v, σ', H', J', r, q⟩ => exact ⟨v, σ', H', J'.ofTry ok, r, q⟩
end
end Ru

set_option Elab.async false
set_option linter.all false
set_option maxRecDepth 100000
set_option maxHeartbeats 4000000
/-! Rules of our own, 5: Base.__init__(self, ..) of an own error class; len of an own instance. -/
namespace Ru
open PySem PySem.Spec PyProof.Rows L2
section
variable {X : Cx} {e : Expr} {es : List Expr} {ta : TA} {p1 p2 pos : Pos} {C : Addr} {x : Str}
/-- Base.__init__(self, ..), Base an own class over ValueError that has no __init__ of its own -/
theorem pe_baseinit {pl : Sem Bool} (hg : Gl X x) (hm : X.mg x = some (.ref C)) (rd : PySem.W.readsIn X.K C (.type "type") = true) (ga : PySem.W.specialIn X.K (.ref C) "__getattribute__" = some (some (.builtin "type.__getattribute__")))
    (vV : PySem.W.findCls X.K (.ref C) (.type "type") "__init__" = some (.val (.builtin "ValueError.__init__"))) (ha : PA X (e :: es) ta) (hdb : (x == ("__debug__" : Str)) = false := by decide)
    (hc : eval (.Call (.Attribute (.Name x p1) "__init__" p2) (e :: es) [] pos) X.env = (do
      let ov ← eval (.Name x p1) X.env
      standAt p2.atName
      let fa ← holding [ov] (getMethod ov "__init__" pl)
      callWith pos fa.1 fa.2 (backTo pos (starEach (e :: es) X.env)) (backToKw pos (keywordEach [] X.env))) := by rfl)
    (he : starEach (e :: es) X.env = (false, eval e X.env) :: starEach es X.env := by rfl) (hpl : (backTo pos (starEach es X.env)).any (·.1) = false := by rfl) :
    PE X (.Call (.Attribute (.Name x p1) "__init__" p2) (e :: es) [] pos) (tVeI X.K ta) := by
  refine ⟨fun pins s σ H Q I h => ?_⟩
  refine PySem.W.methodCall_KW (ld_glob I hg hm ?_ hdb) hc
  refine PySem.W.method_cls I.kIn ga (PySem.W.cls_value I.kIn rd vV (by decide +kernel) ?_)
  show wpAny _ _ (callWith pos (Value.builtin "ValueError.__init__") [] (backTo pos (starEach (e :: es) X.env)) []) _ _ _
  refine PyProof.Rows.callWith_method1 (thn (ha.run pos pins _ σ H _ (I.tok _) h) fun us s1 ⟨vs, H1, I1, r1, a, C1, ws, ev, hl, T, ea, q⟩ => ?_) he hpl
  subst ev
  cases r1 with
  | @cons _ u0 _ ur ra rw' =>
    obtain rfl : u0 = Value.ref a := ra
    refine oinit_ok T I1 ea ?_ fun s' J => ⟨.non, H1, J, rfl, q⟩
    rw [← Paired.length rw', sizeLine_eq]
    omega
end
section
variable {X : Cx} {C fl : Addr} {k : Nat} {fd : FuncData} {ps : List Str} {sp : Sp}
/-- len(o), o an instance of an own class with __len__ -/
theorem call_len_own (hl : PySem.W.findIn X.K (.ref C) "__len__" = some (some (.ref fl))) (hf : PySem.W.isFn X.K (.ref fl) = true) (F : FnOk X.prog X.w X.K X.mg X.base (L2.CX X.prog X.w) k fl fd ps sp) (hr : Room (k + 1) X.A) (hb : Binds X.K fd ps []) :
    CallR X (.builtin "len") (fun xs H Q => ∃ a dx fs, xs = [.ref a] ∧ H a = some (.ins C dx fs) ∧ sp [.ref a] H (fun v H' => ∃ n : Nat, v = .int n ∧ n < 2 ^ 60 ∧ Q (.int n) H') E0) := by
  intro pins s σ H vs us Q I r h
  obtain ⟨a, dx, fs, rfl, ea, q⟩ := h
  cases r with
  | cons r0 rn =>
    rename_i u0 ur
    cases rn
    obtain rfl : u0 = Value.ref a := r0
    obtain ⟨mA, O, _, _, _, _⟩ := ins_get I.hok ea
    obtain ⟨od, Io, _⟩ := O.look
    obtain ⟨m, fr⟩ := I.fr
    refine PySem.W.len_K fr I.ok.mod.kin Io hl hf ?_
    have b := hb s [Value.ref a] I.kIn (F.len _ _ _ _ q)
    have e1 : Env0 X.prog X.w X.K X.mg X.base X.A.in1 X.stack s H := I.env0.in1
    refine wpAny_call (codeAny_mono (F.run X.A.in1 X.stack s H ⟨[.ref a], []⟩ [.ref a] [.ref a] _ E0 hr.in1 e1 b (.cons rfl .nil) q) fun r s' hq => ?_)
    match r, hq with
    | .error e, hq => exact (passL (X := X) pins σ H s e s' I hq : X.xe e s')
    | .ok (.ret u), hq =>
      obtain ⟨v, H', J, rv, n, ev, hn, q3⟩ := I.after hq
      subst ev
      obtain ⟨t, rfl⟩ := rv
      refine ⟨⟨by omega, by omega⟩, ?_⟩
      exact ⟨.int n, H', J.tok _, ⟨_, rfl⟩, q3⟩
end
end Ru

set_option Elab.async false
set_option linter.all false
set_option maxRecDepth 100000
set_option maxHeartbeats 4000000
/-! Rules of our own, 6: objects that nobody changes are tracked for the length of a call, and let go behind it. -/
namespace Ru
open PySem PySem.Spec PyProof.Rows L2
abbrev Zs := List (Addr × Obj)
/-- the objects of Z are tracked, each as it is -/
def frz (Z : Zs) (H : Hp) : Hp := fun b => match Z.lookup b with
  | some o => some (.frz o (.own b))
  | none => H b
/-- .. and let go -/
def thaw (Z : Zs) (H : Hp) : Hp := fun b => match Z.lookup b with
  | some _ => none
  | none => H b
def ZIn (Z : Zs) (h : Heap) : Prop := ∀ b o, Z.lookup b = some o → h.get? b = some o
def ZOut (Z : Zs) (H : Hp) : Prop := ∀ b o, Z.lookup b = some o → H b = none
def ZFr (Z : Zs) (H : Hp) : Prop := ∀ b o, Z.lookup b = some o → H b = some (.frz o (.own b))
def ZNo (Z : Zs) (l : List Addr) : Prop := ∀ b o, Z.lookup b = some o → b ∉ l
section
variable {Z : Zs} {H : Hp} {b : Addr} {o : Obj}
theorem frz_in (e : Z.lookup b = some o) : frz Z H b = some (.frz o (.own b)) := by unfold frz; rw [e]
theorem frz_no (e : Z.lookup b = none) : frz Z H b = H b := by unfold frz; rw [e]
theorem thaw_in (e : Z.lookup b = some o) : thaw Z H b = none := by unfold thaw; rw [e]
theorem thaw_no (e : Z.lookup b = none) : thaw Z H b = H b := by unfold thaw; rw [e]
theorem ZFr.of : ZFr Z (frz Z H) := fun _ _ e => frz_in e
theorem ZOut.of : ZOut Z (thaw Z H) := fun _ _ e => thaw_in e
theorem ZOut.no (z : ZOut Z H) {u : HO} (e : H b = some u) : Z.lookup b = none := by
  cases q : Z.lookup b with
  | none => rfl
  | some o => rw [z b o q] at e; cases e
theorem ZFr.no (z : ZFr Z H) (e : H b = none) : Z.lookup b = none := by
  cases q : Z.lookup b with
  | none => rfl
  | some o => rw [z b o q] at e; cases e
theorem ZFr.no2 (z : ZFr Z H) {u : HO} (e : H b = some u) (hu : ∀ o x, u ≠ .frz o x) : Z.lookup b = none := by
  cases q : Z.lookup b with
  | none => rfl
  | some o => rw [z b o q] at e; cases e; exact (hu _ _ rfl).elim
theorem thaw_frz (z : ZOut Z H) : thaw Z (frz Z H) = H := by
  funext b
  cases q : Z.lookup b with
  | none => rw [thaw_no q, frz_no q]
  | some o => rw [thaw_in q, z b o q]
theorem frz_thaw (z : ZFr Z H) : frz Z (thaw Z H) = H := by
  funext b
  cases q : Z.lookup b with
  | none => rw [frz_no q, thaw_no q]
  | some o => rw [frz_in q, z b o q]
theorem thaw_none (e : H b = none) : thaw Z H b = none := by
  cases q : Z.lookup b with
  | none => rw [thaw_no q, e]
  | some o => exact thaw_in q
theorem thaw_some {u : HO} (e : H b = some u) (hz : Z.lookup b = none) : thaw Z H b = some u := by rw [thaw_no hz, e]
theorem of_thaw {u : HO} (e : thaw Z H b = some u) : H b = some u := by
  cases q : Z.lookup b with
  | none => rw [thaw_no q] at e; exact e
  | some o => rw [thaw_in q] at e; cases e
end
section
variable {P : Program} {w : World} {Z : Zs} {H H3 : Hp} {h h' B : Heap}
theorem frz_ok (x : HOk P w H h) (zi : ZIn Z h) (zo : ZOut Z H) : HOk P w (frz Z H) h := fun b u e => by
  cases q : Z.lookup b with
  | some o =>
    rw [frz_in q] at e
    cases e
    exact ⟨zi b o q, ⟨o, zi b o q⟩⟩
  | none =>
    rw [frz_no q] at e
    have up : ∀ c v, H c = some v → frz Z H c = some v := fun c v r => by rw [frz_no (zo.no r), r]
    exact (x b u e).stay (fun _ _ _ r => r) (fun c r => up c _ r) fun c xs r => up c _ r
theorem thaw_ok (x : HOk P w H h) (zf : ZFr Z H) : HOk P w (thaw Z H) h := fun b u e =>
  (x b u (of_thaw e)).stay (fun _ _ _ r => r) (fun c r => thaw_some r (zf.no2 r fun _ _ z => nomatch z)) fun c xs r => thaw_some r (zf.no2 r fun _ _ z => nomatch z)
theorem zin_of (x : HOk P w H h) (zf : ZFr Z H) : ZIn Z h := fun b o q => by
  obtain ⟨e, _⟩ := x b _ (zf b o q)
  exact e
theorem un_frz {fs ex : List Addr} (u : Un fs ex (frz Z H) H3 h h') (hok : HOk P w H3 h') (zi : ZIn Z h) (zo : ZOut Z H) : Un fs ex H (thaw Z H3) h h' := by
  have fr3 : ZFr Z H3 := fun b o q => u.frzs b o _ (frz_in q)
  have z' := zin_of hok fr3
  have up : ∀ c v, H c = some v → frz Z H c = some v := fun c v r => by rw [frz_no (zo.no r), r]
  refine ⟨fun b o e n hb hx => ?_, fun b o e n hb hx => ?_, fun b o e n hx => ?_, u.there, fun b xs e => ?_, fun b o x e => ?_, fun b ps e => ?_⟩
  · cases q : Z.lookup b with
    | some o' =>
      have z1 := zi b o' q
      rw [e] at z1
      cases z1
      exact z' b o q
    | none => exact u.keep b o e (by rw [frz_no q]; exact n) hb hx
  · cases q : Z.lookup b with
    | some o' =>
      have z1 := zi b o' q
      rw [e] at z1
      cases z1
      exact ⟨o.slots, z' b o q⟩
    | none => exact u.slot b o e (by rw [frz_no q]; exact n) hb hx
  · cases q : Z.lookup b with
    | some o' => exact thaw_in q
    | none => exact thaw_none (u.free b o e (by rw [frz_no q]; exact n) hx)
  · exact thaw_some (u.tups b xs (up b _ e)) (zo.no e)
  · exact thaw_some (u.frzs b o x (up b _ e)) (zo.no e)
  · obtain ⟨m, r⟩ := u.tbls b ps (up b _ e)
    exact ⟨m, thaw_some r (zo.no e)⟩
theorem un_thaw {fs ex : List Addr} (u : Un fs ex (thaw Z H) H3 h h') (hok : HOk P w H3 h') (zf : ZFr Z H) (zi : ZIn Z h) (nf : ZNo Z fs) (nx : ZNo Z ex) : Un fs ex H (frz Z H3) h h' ∧ HOk P w (frz Z H3) h' := by
  have z3 : ZOut Z H3 := fun b o q => u.free b o (zi b o q) (thaw_in q) (nx b o q)
  have z' : ZIn Z h' := fun b o q => u.keep b o (zi b o q) (thaw_in q) (nf b o q) (nx b o q)
  have dn : ∀ c v, H c = some v → Z.lookup c = none → thaw Z H c = some v := fun c v r q => thaw_some r q
  refine ⟨⟨fun b o e n hb hx => u.keep b o e (thaw_none n) hb hx, fun b o e n hb hx => u.slot b o e (thaw_none n) hb hx, fun b o e n hx => ?_, u.there, fun b xs e => ?_, fun b o x e => ?_, fun b ps e => ?_⟩, frz_ok hok z' z3⟩
  · rw [frz_no (zf.no n)]
    exact u.free b o e (thaw_none n) hx
  · have q := zf.no2 e fun _ _ z => nomatch z
    rw [frz_no q]
    exact u.tups b xs (dn b _ e q)
  · cases q : Z.lookup b with
    | some o' =>
      have r := zf b o' q
      rw [e] at r
      cases r
      exact frz_in q
    | none =>
      rw [frz_no q]
      exact u.frzs b o x (dn b _ e q)
  · have q := zf.no2 e fun _ _ z => nomatch z
    obtain ⟨m, r⟩ := u.tbls b ps (dn b _ e q)
    exact ⟨m, by rw [frz_no q]; exact r⟩
theorem ub_frz {fs : List Addr} (u : UB fs (frz Z H) H3 h B h') (hok : HOk P w H3 B) (zi : ZIn Z h) (zo : ZOut Z H) : UB fs H (thaw Z H3) h B h' := by
  have fr3 : ZFr Z H3 := fun b o q => u.frzs b o _ (frz_in q)
  have z' := zin_of hok fr3
  have up : ∀ c v, H c = some v → frz Z H c = some v := fun c v r => by rw [frz_no (zo.no r), r]
  refine ⟨fun b o e n hb => ?_, u.slot, fun b o e n => ?_, u.there, fun b xs e => thaw_some (u.tups b xs (up b _ e)) (zo.no e), fun b o x e => thaw_some (u.frzs b o x (up b _ e)) (zo.no e), fun b ps e => ?_⟩
  · cases q : Z.lookup b with
    | some o' =>
      have z1 := zi b o' q
      rw [e] at z1
      cases z1
      exact z' b o q
    | none => exact u.keep b o e (by rw [frz_no q]; exact n) hb
  · cases q : Z.lookup b with
    | some o' => exact thaw_in q
    | none => exact thaw_none (u.free b o e (by rw [frz_no q]; exact n))
  · obtain ⟨m, r⟩ := u.tbls b ps (up b _ e)
    exact ⟨m, thaw_some r (zo.no e)⟩
theorem ub_thaw {fs : List Addr} (u : UB fs (thaw Z H) H3 h B h') (hok : HOk P w H3 B) (zf : ZFr Z H) (zi : ZIn Z h) (nf : ZNo Z fs) : UB fs H (frz Z H3) h B h' ∧ HOk P w (frz Z H3) B ∧ ZIn Z B := by
  have z3 : ZOut Z H3 := fun b o q => u.free b o (zi b o q) (thaw_in q)
  have z' : ZIn Z B := fun b o q => u.keep b o (zi b o q) (thaw_in q) (nf b o q)
  have dn : ∀ c v, H c = some v → Z.lookup c = none → thaw Z H c = some v := fun c v r q => thaw_some r q
  refine ⟨⟨fun b o e n hb => u.keep b o e (thaw_none n) hb, u.slot, fun b o e n => ?_, u.there, fun b xs e => ?_, fun b o x e => ?_, fun b ps e => ?_⟩, frz_ok hok z' z3, z'⟩
  · rw [frz_no (zf.no n)]
    exact u.free b o e (thaw_none n)
  · have q := zf.no2 e fun _ _ z => nomatch z
    rw [frz_no q]
    exact u.tups b xs (dn b _ e q)
  · cases q : Z.lookup b with
    | some o' =>
      have r := zf b o' q
      rw [e] at r
      cases r
      exact frz_in q
    | none =>
      rw [frz_no q]
      exact u.frzs b o x (dn b _ e q)
  · have q := zf.no2 e fun _ _ z => nomatch z
    obtain ⟨m, r⟩ := u.tbls b ps (dn b _ e q)
    exact ⟨m, by rw [frz_no q]; exact r⟩
end
section
variable {P : Program} {w : World} {K : PySem.W.Frag} {mg : Str → Option Value} {base : Heap} {A : Around} {outer : List Env} {s s' : Shared} {Z : Zs} {H : Hp} {Q : VK} {E : XK} {u : Value}
theorem env0_frz (e : Env0 P w K mg base A outer s H) (zi : ZIn Z s.heap) (zo : ZOut Z H) (nb : ∀ b o, Z.lookup b = some o → base.get? b = none) (nf : ZNo Z (frs outer)) : Env0 P w K mg base A outer s (frz Z H) :=
  ⟨e.frames, e.mod, fun b o q => ⟨(e.bs b o q).1, by
    cases r : Z.lookup b with
    | some o' => rw [nb b o' r] at q; cases q
    | none => rw [frz_no r]; exact (e.bs b o q).2⟩, e.bsz, e.funs, fun b hb => by
    cases r : Z.lookup b with
    | some o' => exact absurd hb (nf b o' r)
    | none => rw [frz_no r]; exact e.frf b hb, frz_ok e.hok zi zo, e.bare⟩
theorem env0_thaw (e : Env0 P w K mg base A outer s H) (zf : ZFr Z H) : Env0 P w K mg base A outer s (thaw Z H) :=
  ⟨e.frames, e.mod, fun b o q => ⟨(e.bs b o q).1, thaw_none (e.bs b o q).2⟩, e.bsz, e.funs, fun b hb => thaw_none (e.frf b hb), thaw_ok e.hok zf, e.bare⟩
theorem ce_frz (c : CE outer P w (frz Z H) s (fun v H3 => Q v (thaw Z H3)) u s') (zi : ZIn Z s.heap) (zo : ZOut Z H) : CE outer P w H s Q u s' := by
  obtain ⟨v, H3, os, bare, un, hok, r, q⟩ := c
  have fr3 : ZFr Z H3 := fun b o q => un.frzs b o _ (frz_in q)
  exact ⟨v, thaw Z H3, os, bare, un_frz un hok zi zo, thaw_ok hok fr3, r, q⟩
theorem ce_thaw (c : CE outer P w (thaw Z H) s (fun v H3 => ZOut Z H3 → Q v (frz Z H3)) u s') (e0 : Env0 P w K mg base A outer s H) (zf : ZFr Z H) : CE outer P w H s Q u s' := by
  obtain ⟨v, H3, os, bare, un, hok, r, q⟩ := c
  obtain ⟨un', hok'⟩ := un_thaw un hok zf (zin_of e0.hok zf) (fun b o q hb => absurd (zf b o q) (by rw [e0.frf b hb]; exact fun z => nomatch z)) (fun _ _ _ hb => nomatch hb)
  exact ⟨v, frz Z H3, os, bare, un', hok', r, q fun b o z => un.free b o (zin_of e0.hok zf b o z) (thaw_in z) (fun hb => nomatch hb)⟩
theorem cx_frz (c : L2.CX P w outer (frz Z H) s (fun cls d H3 => E cls d (thaw Z H3)) u s') (zi : ZIn Z s.heap) (zo : ZOut Z H) : L2.CX P w outer H s E u s' := by
  obtain ⟨a, B, H3, cls, d, rfl, fl, hok, ub, na, os, ag, q⟩ := c
  have fr3 : ZFr Z H3 := fun b o q => ub.frzs b o _ (frz_in q)
  exact ⟨a, B, thaw Z H3, cls, d, rfl, fl, thaw_ok hok fr3, ub_frz ub hok zi zo, thaw_none na, os, ag, q⟩
theorem cx_thaw (c : L2.CX P w outer (thaw Z H) s (fun cls d H3 => ZOut Z H3 → E cls d (frz Z H3)) u s') (e0 : Env0 P w K mg base A outer s H) (zf : ZFr Z H) : L2.CX P w outer H s E u s' := by
  obtain ⟨a, B, H3, cls, d, rfl, fl, hok, ub, na, os, ag, q⟩ := c
  obtain ⟨ub', hok', zB⟩ := ub_thaw ub hok zf (zin_of e0.hok zf) (fun b o q hb => absurd (zf b o q) (by rw [e0.frf b hb]; exact fun z => nomatch z))
  refine ⟨a, B, frz Z H3, cls, d, rfl, fl, hok', ub', ?_, os, ag, q fun b o z => ub.free b o (zin_of e0.hok zf b o z) (thaw_in z)⟩
  cases r : Z.lookup a with
  | none => rw [frz_no r]; exact na
  | some o => exact absurd (zB a o r) (by rw [fl.2.1]; exact fun z => nomatch z)
end
end Ru

set_option Elab.async false
set_option linter.all false
set_option maxRecDepth 100000
set_option maxHeartbeats 4000000
/-! Rules of our own, 7: a lambda with parameters that is handed to a method: what it is worth, as a promise that the method takes. -/
namespace Ru
open PySem PySem.Spec PyProof.Rows L2 LamX NdefX

/-- a function object at f that may be called with one value, wherever G holds -/
def Act (P : Program) (w : World) (K : PySem.W.Frag) (mg : Str → Option Value) (base : Heap) (k : Nat) (f : Addr) (G : Hp → Prop) (sp : Sp) : Prop :=
  (∀ (H : Hp) (h : Heap), HOk P w H h → G H → PySem.W.FnAt f h) ∧ ∀ (A : Around) (outer : List Env) (s : Shared) (H : Hp) (u : Value) (v : V) (Q : VK) (E : XK), Room k A → Env0 P w K mg base A outer s H → G H → RelV v u → sp [v] H Q E →
    codeAny (model P w) A (.call (.ref f) ⟨[u], []⟩) (CR (L2.CX P w) outer P w H s Q E) s
/-- what must stand for it -/
def ActG (Z : Zs) (c' : Addr) (q : Str) (H : Hp) : Prop := ZFr Z H ∧ H c' = some (CodeO c' q)
theorem ActG.same {Z : Zs} {c' : Addr} {q : Str} {H H' : Hp} (g : ActG Z c' q H) (e : Same H H') : ActG Z c' q H' := ⟨fun b o z => e _ _ (g.1 b o z), e _ _ g.2⟩
/-- the words of a lambda that is made in X -/
abbrev lamNF (X : Cx) (params : Arguments) (scope : Scope) (c' : Addr) : NF := ⟨"<lambda>", X.env.qual ++ "<lambda>", params, [], scope, cloFrom X.env.cells scope.names [], c'⟩
abbrev lamObj (F : NF) (body : Expr) (pm ctv : Value) : Obj := PySem.W.kla_obj "<lambda>" F.qual F.params body F.scope F.cl pm F.c ctv
section
variable {P : Program} {w : World} {K : PySem.W.Frag} {mg : Str → Option Value} {base : Heap}
theorem act_of {F : NF} {body : Expr} {pm ctv : Value} {N fr : List Str} {x : Str} {ws : List (Option V)} {Z : Zs} {f : Addr} {h0 : Heap} {H0 : Hp} {k : Nat} {tb : XK → TE} (S : NScope N [x] fr F.scope)
    (hb : ∀ u : Value, bindArgs (PySem.W.kla_fn "<lambda>" F.qual F.params body F.scope F.cl pm (.ref F.c) ctv) ⟨[u], []⟩ = pure [(x, u)]) (hf : Z.lookup f = some (lamObj F body pm ctv)) (C : CellsAt F.cl fr ws h0 H0) (zi0 : ZIn Z h0)
    (hc : ∀ y c, F.cl.lookup y = some c → ∃ o, Z.lookup c = some o)
    (hbody : ∀ (A : Around) (outer : List Env) (s : Shared) (H : Hp) (E : XK), Room k (A.deeper (envF F f s.heap.objs.size)) → PE (ncx (L2.CX P w) P w K mg base N F f A outer s H E) body (tb E)) :
    Act P w K mg base (k + 1) f (ActG Z F.c F.qual) (fun vs H Q E => tb (fun cls d H' => ZOut Z H' → E cls d (frz Z H')) (startF N vs ws) (thaw Z H) (fun v H' => ZOut Z H' → Q v (frz Z H'))) := by
  refine ⟨fun H h hok g => ⟨_, _, _, _, zin_of hok g.1 f _ hf⟩, fun A outer s H u v Q E hr e0 g rv q => ?_⟩
  obtain ⟨zf, hco⟩ := g
  have zi := zin_of e0.hok zf
  have ho := zi f _ hf
  have lim : s.heap.NoLimit := e0.mod.nolimit.keeps fun b o e => (e0.bs b o e).1
  have e1 := env0_thaw e0 zf
  have cellK : ∀ {y c v}, F.cl.lookup y = some c → h0.IsCell c v → s.heap.IsCell c v := fun {y c v} e ⟨o, h1, h2⟩ => by
    obtain ⟨o', z⟩ := hc y c e
    have z1 := zi0 c o' z
    rw [h1] at z1
    cases z1
    exact ⟨o, zi c o z, h2⟩
  have C1 : CellsAt F.cl fr ws s.heap (thaw Z H) := ⟨C.len, fun y c e => by
      obtain ⟨o', z⟩ := hc y c e
      obtain ⟨_, v, q⟩ := C.all y c e
      exact ⟨thaw_in z, v, cellK e q⟩, C.inj, fun i y e => by
      obtain ⟨c, e1, q⟩ := C.has i y e
      exact ⟨c, e1, fun v ev => by
        obtain ⟨u, r, z⟩ := q v ev
        exact ⟨u, r, cellK e1 z⟩⟩⟩
  have main : codeAny (model P w) A (.call (.ref f) ⟨[u], []⟩) (CR (L2.CX P w) outer P w (thaw Z H) s (fun v H' => ZOut Z H' → Q v (frz Z H')) (fun cls d H' => ZOut Z H' → E cls d (frz Z H'))) s := by
    refine PySem.W.kla_callFunE hr.depth ho rfl S.co S.gen rfl (codeO_at e0.hok hco) ?_
    rw [hb u]
    refine wpAny_pure (wpAny_newFunctionEnv S.nocell (fun y hy => by rw [List.mem_singleton.mp hy]; exact S.par x (List.mem_singleton.mpr rfl)) (fun h1 hns hsb => ⟨lim.fresh _ hsb, ?_⟩) S.kind)
    show codeAny _ _ (.expr body (envF F f s.heap.objs.size)) _ _
    have kp : ∀ b o, s.heap.get? b = some o → h1.get? b = some o := fun b o e => hsb.extBut b o (Nat.ne_of_lt (Heap.lt_size e)) (Heap.get?_push_of_some _ e)
    have I : Inv (ncx (L2.CX P w) P w K mg base N F f A outer s (thaw Z H) (fun cls d H' => ZOut Z H' → E cls d (frz Z H'))) [] (startF N [v] ws) (thaw Z H) { s with heap := h1, toks := s.toks + [(x, u)].length } :=
      inv_startN (us := [u]) S hr.hd e1 rfl (.cons rv .nil) C1 hns kp
    refine PySem.W.kla_codeExpr (wpAny_mono ((hbody A outer s (thaw Z H) _ (hr.deeper _)).run [] _ _ _ _ I q) (fun u' s' hq => ?_) fun e s' hq => hq)
    obtain ⟨v', H', J, rv', q'⟩ := hq
    exact ⟨v', H', J.os, J.bare, J.base, J.hok, rv', q'⟩
  refine codeAny_mono main fun r s' hq => ?_
  match r, hq with
  | .error e, hq => exact cx_thaw hq e0 zf
  | .ok (.ret u'), hq => exact ce_thaw hq e0 zf
end
/-! ### the lambda is made -/
section
variable {X : Cx} {pins : List (Addr × Obj)} {σ : St} {H : Hp} {s : Shared}
/-- its code object is new, or found in the table; the function object is new -/
theorem lam_new {T : List (Addr × Str)} {c P : Addr} {params : Arguments} {body : Expr} {scope : Scope} {pos : Pos} {E : Value → Shared → Prop} {Q : Value → Shared → Prop} (I : Inv X pins σ H s) (TB : TabB X.base X.mg c P) (hcode : X.env.code = .ref c)
    (hm : (P, X.env.qual ++ "<lambda>") ∈ T) (hu : ∀ p ∈ T, p.1 = P → p.2 = X.env.qual ++ "<lambda>") (hT : Tabs T H) (hdef : defaultsOf params X.env = ([], [])) (hfree : ∀ y ∈ scope.names, y.2 = .free → ∃ c, X.env.cells.lookup y.1 = some c)
    (h : ∀ (f c' : Addr) (pm ctv : Value) (H1 : Hp) (s' : Shared), Inv X pins σ H1 s' → (∀ b o, b ≠ P → H b = some o → H1 b = some o) → Tabs T H1 → s.heap.objs.size ≤ f → s'.heap.get? f = some (lamObj (lamNF X params scope c') body pm ctv) → H1 f = none → H1 c' = some (CodeO c' (X.env.qual ++ "<lambda>")) → Q (.ref f) s') :
    wpAny (model X.prog X.w) X.A (eval (.Lambda params body scope pos) X.env) Q E s := by
  obtain ⟨ps, hP, ht, ha⟩ := hT _ hm
  have bP : s.heap.BuiltinsAt X.mg P := TB.bm.keeps I.bk
  have hP' : s.heap.get? P = some { cls := .none, data := .fields ps } := I.hok P _ hP
  refine PySem.W.kla_eval hdef ?_
  cases hc : codeAmong pos ps.toList with
  | some cv =>
    obtain ⟨c', e, hco⟩ := ha pos cv hc
    subst e
    refine PySem.W.kla_makeFunctionHit (mg := X.mg) (c := c) (P := P) (ps := ps) (closure_ok hfree) I.ok.glob (I.mod.glob.keeps I.bk) hcode (TB.code.keeps I.bk) hP' ht hc bP fun ctv h' tk hx hsz => ?_
    exact h h'.objs.size c' _ ctv H _ (I.kept fun b o e => Heap.get?_push_of_some _ (hx b o e)) (fun _ _ _ e => e) hT hsz (Heap.get?_push_size _ rfl) (I.hok.fresh hsz) hco
  | none =>
    refine PySem.W.kla_makeFunction (mg := X.mg) (c := c) (P := P) (ps := ps) (closure_ok hfree) I.ok.glob (I.mod.glob.keeps I.bk) hcode (TB.code.keeps I.bk) hP' ht hc TB.gP bP fun c' ctv h' tk hx hge hlt hrec htb => ?_
    obtain ⟨c2, oc, vs, t, e2, hoc, hd, hv⟩ := hrec
    cases e2
    have hsz : s.heap.objs.size ≤ h'.objs.size := Nat.le_trans hge (Nat.le_of_lt hlt)
    have nC : H c' = none := I.hok.fresh hge
    have I1 := inv_table (t' := tk) (more := #[rawInt pos.line, rawInt pos.col, .ref c']) (h' := h'.push (lamObj (lamNF X params scope c') body ((X.mg "__name__").getD .none) ctv)) I hP
      (fun b o hb e => Heap.get?_push_of_some _ (hx b o hb e)) (Heap.get?_push_of_some _ htb) hge ⟨oc, vs, t, Heap.get?_push_of_some _ hoc, hd, hv⟩
    generalize eG : upd (upd H P (.tbl (ps ++ #[rawInt pos.line, rawInt pos.col, .ref c']))) c' (CodeO c' (X.env.qual ++ "<lambda>")) = G at I1
    have gc : G c' = some (CodeO c' (X.env.qual ++ "<lambda>")) := by rw [← eG]; exact upd_same
    have gP : G P = some (.tbl (ps ++ #[rawInt pos.line, rawInt pos.col, .ref c'])) := by rw [← eG, upd_ne (ne_of_none hP nC)]; exact upd_same
    have hE : ExtN H G := fun b o e n => by
      rw [← eG, upd_ne (ne_of_none e nC), upd_ne (fun z => n ps (Option.some.inj (e.symm.trans (by rw [z]; exact hP))))]
      exact e
    have nf : G h'.objs.size = none := by
      have n1 : h'.objs.size ≠ P := Nat.ne_of_gt (Nat.lt_of_lt_of_le (Heap.lt_size hP') hsz)
      rw [← eG, upd_ne (Nat.ne_of_gt hlt), upd_ne n1]
      exact I.hok.fresh hsz
    have eL : (ps ++ #[rawInt pos.line, rawInt pos.col, .ref c']).toList = ps.toList ++ [rawInt pos.line, rawInt pos.col, .ref c'] := by simp
    refine h h'.objs.size c' _ ctv G _ I1 (fun b o n e => by rw [← eG, upd_ne (ne_of_none e nC), upd_ne n]; exact e) (fun p hp => ?_) hsz (Heap.get?_push_size _ rfl) nf gc
    by_cases hb : p.1 = P
    · rw [hu p hp hb, hb]
      refine ⟨_, gP, by rw [eL]; exact PySem.TriplesOk_snoc _ _ _ _ ht, fun p' cv hcv => ?_⟩
      rw [eL] at hcv
      rcases among_app _ ht hcv with z | z
      · obtain ⟨c0, e1, e2⟩ := ha p' cv z
        exact ⟨c0, e1, hE _ _ e2 codeO_ne⟩
      · exact ⟨c', z, gc⟩
    · obtain ⟨ps', a1, a2, a3⟩ := hT p hp
      refine ⟨ps', by rw [← eG, upd_ne (ne_of_none a1 nC), upd_ne hb]; exact a1, a2, fun p' cv hcv => ?_⟩
      obtain ⟨c0, e1, e2⟩ := a3 p' cv hcv
      exact ⟨c0, e1, hE _ _ e2 codeO_ne⟩
end
end Ru

set_option Elab.async false
set_option linter.all false
set_option maxRecDepth 100000
set_option maxHeartbeats 4000000
/-! Rules of our own, 8: o.m(lambda x: e), x(e) where x holds such a lambda. -/
namespace Ru
open PySem PySem.Spec PyProof.Rows L2 LamX NdefX
/-- the reading of o.m(lambda ..): the method's promise at the receiver and at a new function object f that keeps the promise of its body, the slots js being what it captured -/
def tMethLam (Pt : Addr) (P : Program) (w : World) (K : PySem.W.Frag) (mg : Str → Option Value) (base : Heap) (C : Addr) (m : Str) (T : List (Addr × Str)) (q : Str) (k : Nat) (N : List Str) (js : List Nat) (tb : XK → TE) (sp : Sp) (E : St → XK) (to : TE) : TE := fun σ H Q =>
  to σ H fun x H1 => ∃ a dx fs, x = .ref a ∧ H1 a = some (.ins C dx fs) ∧ fs.lookup m = none ∧ Tabs T H1 ∧
    ∀ (f c' : Addr) (Z : Zs) (H2 : Hp), (∀ b o, b ≠ Pt → H1 b = some o → H2 b = some o) → Tabs T H2 → ZOut Z H2 → ActG Z c' q (frz Z H2) →
      Act P w K mg base (k + 1) f (ActG Z c' q) (fun vs H' Q' E' => tb (fun cls d H3 => ZOut Z H3 → E' cls d (frz Z H3)) (startF N vs (js.map (slotAt σ))) (thaw Z H') (fun v H3 => ZOut Z H3 → Q' v (frz Z H3))) →
        sp [.ref a, .ref f] (frz Z H2) (fun v H3 => Q v (thaw Z H3)) (fun cls d H3 => E σ cls d (thaw Z H3))
theorem mem_of_lk {b : Addr} {o : Obj} : ∀ {l : Zs}, l.lookup b = some o → (b, o) ∈ l
  | [], e => nomatch (show (none : Option Obj) = some o from e)
  | (c, u) :: r, e => by
    rw [List.lookup_cons] at e
    cases h : b == c with
    | true =>
      rw [h] at e
      rw [beq_iff_eq.mp h, ← Option.some.inj e]
      exact List.mem_cons_self
    | false =>
      rw [h] at e
      exact List.mem_cons_of_mem _ (mem_of_lk e)
theorem lk_of_mem {b : Addr} {o : Obj} : ∀ {l : Zs}, (b, o) ∈ l → ∃ u, l.lookup b = some u
  | (c, u) :: r, hm => by
    rw [List.lookup_cons]
    cases h : b == c with
    | true => exact ⟨u, rfl⟩
    | false =>
      rcases List.mem_cons.mp hm with e | hm
      · injection e with e1 _
        rw [e1] at h
        simp at h
      · exact lk_of_mem hm
/-- the objects at some cells -/
def zOf (l : List (Str × Addr)) (h : Heap) : Zs := l.filterMap fun p => (h.get? p.2).map fun u => (p.2, u)
theorem zOf_look {l : List (Str × Addr)} {h : Heap} {b : Addr} {o : Obj} (e : (zOf l h).lookup b = some o) : ∃ y, (y, b) ∈ l ∧ h.get? b = some o := by
  obtain ⟨p, hp, q⟩ := List.mem_filterMap.mp (mem_of_lk e)
  cases hg : h.get? p.2 with
  | none => rw [hg] at q; cases q
  | some u =>
    rw [hg] at q
    have q' : (p.2, u) = (b, o) := Option.some.inj q
    injection q' with q1 q2
    subst q1 q2
    exact ⟨p.1, hp, hg⟩
theorem zOf_has {l : List (Str × Addr)} {h : Heap} {y : Str} {b : Addr} {u : Obj} (hm : (y, b) ∈ l) (hg : h.get? b = some u) : ∃ o, (zOf l h).lookup b = some o :=
  lk_of_mem (o := u) (List.mem_filterMap.mpr ⟨(y, b), hm, by simp [hg]⟩)
section
variable {X : Cx} {C g : Addr} {k kb : Nat} {fd : FuncData} {ps : List Str} {sp : Sp} {E : St → XK} {o : Expr} {to : TE} {m : Str} {apos pos lpos : Pos} {params : Arguments} {body : Expr} {scope : Scope} {c P : Addr} {T : List (Addr × Str)} {N fr : List Str} {x : Str} {js : List Nat} {tb : XK → TE}
theorem pe_methLam {pl : Sem Bool} (he : PE X o to) (cl : Cls X.K C) (hm : Meth X.K C m g) (F : FnOk X.prog X.w X.K X.mg X.base (L2.CX X.prog X.w) k g fd ps sp) (hr : Room k X.A) (hb : Binds X.K fd ps []) (hx : ∀ σ, PassesAt (L2.CX X.prog X.w) X σ (E σ))
    (TB : TabB X.base X.mg c P) (hcode : X.env.code = .ref c) (hT : (P, X.env.qual ++ "<lambda>") ∈ T) (hu : ∀ p ∈ T, p.1 = P → p.2 = X.env.qual ++ "<lambda>") (hdef : defaultsOf params X.env = ([], []))
    (hfn : ∀ y c, X.env.cells.lookup y = some c → X.fn y = true) (S : NScope N [x] fr scope) (hfree : ∀ y ∈ scope.names, y.2 = .free → X.env.scope.names.lookup y.1 = some .cell ∨ X.env.scope.names.lookup y.1 = some .free) (hfr : ∀ y ∈ fr, (y, NameKind.free) ∈ scope.names)
    (hjs : js.map (fun j => X.N[j]?) = fr.map some)
    (hbd : ∀ (c' : Addr) (pm ctv u : Value), bindArgs (PySem.W.kla_fn "<lambda>" (X.env.qual ++ "<lambda>") params body scope (cloFrom X.env.cells scope.names []) pm (.ref c') ctv) ⟨[u], []⟩ = pure [(x, u)])
    (hbody : ∀ (f c' : Addr) (A : Around) (outer : List Env) (s : Shared) (H : Hp) (E' : XK), Room kb (A.deeper (envF (lamNF X params scope c') f s.heap.objs.size)) → PE (ncx (L2.CX X.prog X.w) X.prog X.w X.K X.mg X.base N (lamNF X params scope c') f A outer s H E') body (tb E'))
    (hst : starEach [.Lambda params body scope lpos] X.env = (false, eval (.Lambda params body scope lpos) X.env) :: starEach [] X.env := by rfl) (hpl : (backTo pos (starEach [] X.env)).any (·.1) = false := by rfl)
    (ht : eval (.Call (.Attribute o m apos) [.Lambda params body scope lpos] [] pos) X.env = (do
      let ov ← eval o X.env
      standAt apos.atName
      let fa ← holding [ov] (getMethod ov m pl)
      callWith pos fa.1 fa.2 (backTo pos (starEach [.Lambda params body scope lpos] X.env)) (backToKw pos (keywordEach [] X.env))) := by rfl) :
    PE X (.Call (.Attribute o m apos) [.Lambda params body scope lpos] [] pos) (tMethLam P X.prog X.w X.K X.mg X.base C m T (X.env.qual ++ "<lambda>") kb N js tb sp E to) := by
  refine ⟨fun pins s σ H Q I h => ?_⟩
  refine PySem.W.methodCall_KW (pl := pl) (thn (he.run pins s σ H _ I h) fun u s1 ⟨x1, H1, I1, rx, a, dx, fs, ex, ea, l, hTb, q⟩ => ?_) ht
  subst ex
  obtain rfl : u = Value.ref a := rx
  refine getmeth_ok I1 ea cl hm l ?_
  refine PySem.W.callWith_K (first := [.ref a]) (h₀ := X.base) I.ok.mod.kin hm.kp ?_ hst hpl
  rw [hst]
  show wpAny _ _ (spliced ((false, eval (.Lambda params body scope lpos) X.env) :: backTo pos (starEach [] X.env))) _ _ s1
  have hfree' : ∀ y ∈ scope.names, y.2 = .free → ∃ c, X.env.cells.lookup y.1 = some c := fun y hy e => (hfree y hy e).elim (fun z => I.ok.has _ (.inl z)) fun z => I.ok.has _ (.inr z)
  refine Calls.spliced_cons (lam_new I1 TB hcode hT hu hTb hdef hfree' fun f c' pm ctv H2 s2 I2 eN T2 hsz hof nf hco => ?_)
  refine Calls.spliced_nil ⟨I2.kIn, ?_⟩
  show wpAny _ _ (call (.ref g) [.ref a, .ref f]) _ _ _
  -- the objects that stand by
  have inCl : ∀ {y b}, (y, b) ∈ cloFrom X.env.cells scope.names [] → X.env.cells.lookup y = some b := fun {y b} hm => by
    rcases cloFrom_mem hm with hm | ⟨h1, h2⟩
    · cases hm
    · obtain ⟨c1, hc⟩ := hfree' _ h1 rfl
      have hc : X.env.cells.lookup y = some c1 := hc
      rw [h2, hc]
      rfl
  have zl : ∀ {b : Addr} {u : Obj}, (((f, lamObj (lamNF X params scope c') body pm ctv) :: zOf (cloFrom X.env.cells scope.names []) s2.heap : Zs)).lookup b = some u → (b = f ∧ s2.heap.get? f = some u) ∨ ∃ y, X.env.cells.lookup y = some b ∧ s2.heap.get? b = some u := fun {b u} e => by
    rw [List.lookup_cons] at e
    cases hbf : b == f with
    | true =>
      rw [hbf] at e
      rw [← Option.some.inj e]
      exact .inl ⟨beq_iff_eq.mp hbf, hof⟩
    | false =>
      rw [hbf] at e
      obtain ⟨y, h1, h2⟩ := zOf_look e
      exact .inr ⟨y, inCl h1, h2⟩
  generalize eZ : (((f, lamObj (lamNF X params scope c') body pm ctv) :: zOf (cloFrom X.env.cells scope.names []) s2.heap : Zs)) = Z at zl
  have zf : Z.lookup f = some (lamObj (lamNF X params scope c') body pm ctv) := by rw [← eZ]; simp
  have zi : ZIn Z s2.heap := fun b u e => by
    rcases zl e with ⟨rfl, z⟩ | ⟨y, _, z⟩
    · exact z
    · exact z
  have zo : ZOut Z H2 := fun b u e => by
    rcases zl e with ⟨rfl, _⟩ | ⟨y, z, _⟩
    · exact nf
    · exact I2.freeC y b z
  have big : ∀ b u, Z.lookup b = some u → X.s_0.heap.objs.size ≤ b := fun b u e => by
    rcases zl e with ⟨rfl, _⟩ | ⟨y, z, _⟩
    · exact Nat.le_trans I1.sz hsz
    · exact I2.ok.cab y b (hfn y b z) z
  have nb : ∀ b u, Z.lookup b = some u → X.base.get? b = none := fun b u e => Heap.get?_none_of_le (Nat.le_trans I2.ok.bsz (big b u e))
  have nfr : ZNo Z (frs X.stack) := fun b u e hbm => by
    rcases List.mem_cons.mp (I2.stkSub b hbm) with z | z
    · rcases zl e with ⟨rfl, _⟩ | ⟨y, z2, _⟩
      · have := I1.lt
        rw [← z] at this
        exact absurd (Nat.lt_of_lt_of_le this hsz) (Nat.lt_irrefl _)
      · exact I2.cne y b z2 z
    · obtain ⟨_, o2, e2, _⟩ := I2.ok.funs.mem z
      exact absurd (Nat.lt_of_lt_of_le (Heap.lt_size e2) (big b u e)) (Nat.lt_irrefl _)
  have e0 := env0_frz (Z := Z) I2.env0 zi zo nb nfr
  have gA : ActG Z c' (X.env.qual ++ "<lambda>") (frz Z H2) := ⟨ZFr.of, by rw [frz_no (zo.no hco)]; exact hco⟩
  have cp : Caps X (cloFrom X.env.cells scope.names []) fr js := Caps.made I2.ok hfree hfr hjs
  have hcz : ∀ y b, (cloFrom X.env.cells scope.names []).lookup y = some b → ∃ u, Z.lookup b = some u := fun y b e => by
    have hm := PySem.mem_of_lookup e
    obtain ⟨v, ou, ho, _⟩ := I2.cell y b (inCl hm)
    obtain ⟨u, z⟩ := zOf_has hm ho
    by_cases hbf : b = f
    · exact ⟨_, by rw [hbf]; exact zf⟩
    · refine ⟨u, ?_⟩
      have : (b == f) = false := by simpa using hbf
      rw [← eZ, List.lookup_cons, this]
      exact z
  have hact := act_of (P := X.prog) (w := X.w) (K := X.K) (mg := X.mg) (base := X.base) (F := lamNF X params scope c') (body := body) (tb := tb) S (fun u => hbd c' pm ctv u) zf (cells_of I2 cp) zi hcz (hbody f c')
  have hsp := q f c' Z H2 eN T2 zo gA hact
  have b := hb s2 [.ref a, .ref f] I2.kIn (by rw [List.append_nil]; exact F.len _ _ _ _ hsp)
  rw [List.append_nil] at b
  refine wpAny_call (codeAny_mono (F.run X.A X.stack s2 (frz Z H2) ⟨[.ref a, .ref f], []⟩ [.ref a, .ref f] _ _ _ hr e0 b (.cons (show RelV (.ref a) (.ref a) from rfl) (.cons (show RelV (.ref f) (.ref f) from rfl) .nil)) hsp) fun r s' hq => ?_)
  match r, hq with
  | .error e, hq => exact hx σ pins H2 s2 e s' I2 (cx_frz hq zi zo)
  | .ok (.ret u), hq => exact I2.after (ce_frz hq zi zo)
end
/-- x(e), x a slot that holds such an object -/
def tCallAct (i : Nat) (f : Addr) (G : Hp → Prop) (sp : Sp) (E : XK) (te : TE) : TE := fun σ H Q => σ[i]? = some (some (.ref f)) ∧ G H ∧ te σ H fun v H1 => G H1 ∧ sp [v] H1 Q E
section
variable {X : Cx} {k i : Nat} {f : Addr} {G : Hp → Prop} {sp : Sp} {E : XK} {x : Str} {e : Expr} {te : TE} {p pos : Pos}
theorem pe_callAct (F : Act X.prog X.w X.K X.mg X.base k f G sp) (hr : Room k X.A) (hN : X.N[i]? = some x) (hv : Vis X.env.scope x) (hx : Passes (L2.CX X.prog X.w) X E) (he : PE X e te) (hd : (x == ("__debug__" : Str)) = false := by decide) (hcd : (x == ("__classdict__" : Str)) = false := by decide)
    (hst : starEach [e] X.env = (false, eval e X.env) :: starEach [] X.env := by rfl) (hpl : (backTo pos (starEach [] X.env)).any (·.1) = false := by rfl) : PE X (.Call (.Name x p) [e] [] pos) (tCallAct i f G sp E te) := by
  refine ⟨fun pins s σ H Q I h => ?_⟩
  obtain ⟨hs, hg, ht⟩ := h
  refine wpAny_Call_Name_kw (thn ((pe_var (pos := p) hN hv hd hcd).run pins s σ H (fun v H1 => v = .ref f ∧ H1 = H) I ⟨.ref f, hs, rfl, rfl⟩) fun u s1 ⟨v, H1, I1, r1, ev, eH⟩ => ?_)
  subst ev eH
  obtain rfl : u = Value.ref f := r1
  refine PySem.W.callWith_F (first := []) (F.1 _ _ I1.hok hg) (thn ((pa_cons he pa_nil hst).run pos pins s1 σ _ (fun vs H2 => ∃ v, vs = [v] ∧ G H2 ∧ sp [v] H2 Q E) I1 ?_) fun us s2 ⟨vs, H2, I2, r, v, ev, hg2, q⟩ => ⟨F.1 _ _ I2.hok hg2, ?_⟩) hst hpl
  · have e1 : ∀ (t : TE) (σ : St) (H : Hp) (R R' : VK), R = R' → t σ H R → t σ H R' := fun t σ H R R' e z => e ▸ z
    refine e1 te σ _ _ _ ?_ ht
    funext v H1
    apply propext
    exact ⟨fun z => ⟨v, rfl, z⟩, fun ⟨v', e, z⟩ => by cases e; exact z⟩
  · subst ev
    obtain ⟨u0, eu, rv⟩ := vals1 r
    subst eu
    refine wpAny_call (codeAny_mono (F.2 X.A X.stack s2 H2 u0 v Q E hr I2.env0 hg2 rv q) fun r s' hq => ?_)
    match r, hq with
    | .error er, hq => exact hx pins σ H2 s2 er s' I2 hq
    | .ok (.ret u), hq => exact I2.after hq
end
end Ru

set_option Elab.async false
set_option linter.all false
set_option maxRecDepth 100000
set_option maxHeartbeats 4000000
/-! What stands in the abstract heap: matrices, drafts, rows, histories; what calls leave. -/
namespace Mr
open PySem PySem.Spec PyProof.Rows L2 Ru Tx
abbrev St := L2.St
abbrev start := L2.start
/-! ### the part of the heap that stays: M, what is changed, and what is frozen left out -/
def im (M : List Addr) (H : Hp) : Hp := fun a => if a ∈ M then none else match H a with
  | some (.frz _ _) => none
  | o => o
def notFrz : HO → Bool
  | .frz _ _ => false
  | _ => true
theorem im_some {M : List Addr} {H : Hp} {a : Addr} {o : HO} (e : im M H a = some o) : H a = some o ∧ a ∉ M ∧ notFrz o = true := by
  unfold im at e
  by_cases h : a ∈ M
  · rw [if_pos h] at e; cases e
  · rw [if_neg h] at e
    cases q : H a with
    | none => rw [q] at e; cases e
    | some u =>
      rw [q] at e
      cases u <;> first | (cases e; done) | exact ⟨e, h, by rw [← Option.some.inj e]; rfl⟩
theorem im_at {M : List Addr} {H : Hp} {a : Addr} {o : HO} (e : im M H a = some o) : H a = some o := (im_some e).1
theorem im_of {M : List Addr} {H : Hp} {a : Addr} {o : HO} (h : a ∉ M) (e : H a = some o) (f : notFrz o = true) : im M H a = some o := by
  unfold im
  rw [if_neg h, e]
  cases o <;> first | rfl | cases f
/-- what a call leaves: all but N as it was; what was tracked is tracked -/
structure Ext (N : List Addr) (H H' : Hp) : Prop where
  keep : ∀ a o, a ∉ N → H a = some o → H' a = some o
  tr : ∀ a, H a ≠ none → H' a ≠ none
theorem Ext.refl {N : List Addr} (H : Hp) : Ext N H H := ⟨fun _ _ _ e => e, fun _ e => e⟩
theorem Ext.trans {N : List Addr} {H H1 H2 : Hp} (a : Ext N H H1) (b : Ext N H1 H2) : Ext N H H2 := ⟨fun x o n e => b.keep x o n (a.keep x o n e), fun x e => b.tr x (a.tr x e)⟩
theorem Ext.wide {N N' : List Addr} {H H' : Hp} (a : Ext N H H') (h : ∀ x ∈ N, x ∈ N') : Ext N' H H' := ⟨fun x o n e => a.keep x o (fun z => n (h x z)) e, a.tr⟩
theorem Ext.any {N : List Addr} {H H' : Hp} (a : Ext [] H H') : Ext N H H' := a.wide fun _ z => nomatch z
theorem Ext.new {N : List Addr} {H : Hp} {p : Addr} {o : HO} (h : H p = none) : Ext N H (upd H p o) := ⟨fun a u _ e => by rw [upd_ne (ne_of_none e h)]; exact e, fun a e => by
  by_cases z : a = p
  · rw [z, upd_same]; exact fun q => nomatch q
  · rw [upd_ne z]; exact e⟩
theorem Ext.put {N : List Addr} {H : Hp} {p : Addr} {o : HO} (h : p ∈ N) : Ext N H (upd H p o) := ⟨fun a u n e => by rw [upd_ne (fun z => n (by rw [z]; exact h))]; exact e, fun a e => by
  by_cases z : a = p
  · rw [z, upd_same]; exact fun q => nomatch q
  · rw [upd_ne z]; exact e⟩
theorem Ext.over {N : List Addr} {H H1 : Hp} {p : Addr} {o : HO} (e : Ext N H H1) (h : H p = none) : Ext N H (upd H1 p o) := ⟨fun a u n q => by rw [upd_ne (ne_of_none q h)]; exact e.keep a u n q, fun a q => by
  by_cases z : a = p
  · rw [z, upd_same]; exact fun q => nomatch q
  · rw [upd_ne z]; exact e.tr a q⟩
theorem Ext.none_of {N : List Addr} {H H1 : Hp} (e : Ext N H H1) {p : Addr} (h : H1 p = none) : H p = none := by
  cases q : H p with
  | none => rfl
  | some o => exact absurd h (e.tr p (by rw [q]; exact fun z => nomatch z))
theorem Ext.same {H H' : Hp} (a : Ext [] H H') : Same H H' := fun b o e => a.keep b o (fun z => nomatch z) e
theorem Ext.of {H H' : Hp} (a : Same H H') : Ext [] H H' := ⟨fun b o _ e => a b o e, fun b e => by
  cases q : H b with
  | none => exact absurd q e
  | some o => rw [a b o q]; exact fun z => nomatch z⟩
theorem Ext.im {N M : List Addr} {H H' : Hp} (a : Ext N H H') (h : ∀ x ∈ N, x ∈ M) : Same (im M H) (im M H') := fun b o e => by
  obtain ⟨e1, e2, e3⟩ := im_some e
  exact im_of e2 (a.keep b o (fun z => e2 (h b z)) e1) e3
/-- the changed ones are tracked -/
def Tr (M : List Addr) (H : Hp) : Prop := ∀ x ∈ M, H x ≠ none
theorem Tr.ext {M N : List Addr} {H H' : Hp} (t : Tr M H) (e : Ext N H H') : Tr M H' := fun x hx => e.tr x (t x hx)
theorem Tr.no {M : List Addr} {H : Hp} (t : Tr M H) {p : Addr} (h : H p = none) : p ∉ M := fun z => t p z h
theorem im_new {M : List Addr} {H : Hp} {p : Addr} {o : HO} (t : Tr M H) (h : H p = none) (f : notFrz o = true) : im M (upd H p o) p = some o := im_of (t.no h) upd_same f
theorem im_frz {M : List Addr} {H : Hp} {Z : Zs} (z : ZOut Z H) : im M (frz Z H) = im M H := by
  funext a
  unfold im
  by_cases h : a ∈ M
  · rw [if_pos h, if_pos h]
  · rw [if_neg h, if_neg h]
    cases q : Z.lookup a with
    | none => rw [frz_no q]
    | some o => rw [frz_in q, z a o q]
theorem im_thaw {M : List Addr} {H : Hp} {Z : Zs} (z : ZFr Z H) : im M (thaw Z H) = im M H := by
  have := im_frz (M := M) (H := thaw Z H) (Z := Z) ZOut.of
  rw [frz_thaw z] at this
  exact this.symm
theorem ext_frz {N : List Addr} {H H' : Hp} {Z : Zs} (z : ZOut Z H) (e : Ext N (frz Z H) H') (zf : ZFr Z H') : Ext N H (thaw Z H') := ⟨fun a o n h => by
    have q := z.no h
    rw [thaw_no q]
    exact e.keep a o n (by rw [frz_no q]; exact h), fun a h => by
    cases h2 : H a with
    | none => exact absurd h2 h
    | some u =>
      have q := z.no h2
      rw [thaw_no q]
      exact e.tr a (by rw [frz_no q]; exact h)⟩
/-! ### data -/
abbrev Mat := List (List Int)
/-- a row's data: its arrows' codes, its prime, its sizes, its matrices -/
structure Dr where
  pat : List Nat
  pr : Int
  szs : List Int
  maps : List Mat
def pS (l : List Nat) : Str := ⟨l.toArray⟩
section
variable (G : Hp)
def IsMat (a : Addr) (m : Mat) : Prop := ∃ rs : List Addr, G a = some (.lst (rs.map V.ref)) ∧ Paired (fun r v => G r = some (.tup (v.map V.int))) rs m
def IsMats (a : Addr) (ms : List Mat) : Prop := ∃ xs : List Addr, G a = some (.lst (xs.map V.ref)) ∧ Paired (IsMat G) xs ms
def IsDr (a : Addr) (d : Dr) : Prop := ∃ sA mA, G a = some (.lst [.str (pS d.pat), .int d.pr, .ref sA, .ref mA]) ∧ G sA = some (.lst (d.szs.map V.int)) ∧ IsMats G mA d.maps
def rowF (pat : Str) (pr : Int) (t m : Addr) : List (Str × V) := [("own_pattern", .str pat), ("own_prime", .int pr), ("own_sizes", .ref t), ("own_maps", .ref m)]
def IsRw (C : Addr) (a : Addr) (d : Dr) : Prop := ∃ dx tA mA, G a = some (.ins C dx (rowF (pS d.pat) d.pr tA mA)) ∧ G tA = some (.tup (d.szs.map V.int)) ∧ IsMats G mA d.maps
def IsDrs (a : Addr) (ds : List Dr) : Prop := ∃ xs : List Addr, G a = some (.lst (xs.map V.ref)) ∧ Paired (IsDr G) xs ds
def IsRws (C : Addr) (a : Addr) (ds : List Dr) : Prop := ∃ xs : List Addr, G a = some (.tup (xs.map V.ref)) ∧ Paired (IsRw G C) xs ds
structure Hist where
  past : List Dr
  here : Dr
  later : List Dr
def IsLs (a : Addr) (h : Hist) : Prop := ∃ x y z, G a = some (.lst [.ref x, .ref y, .ref z]) ∧ IsDrs G x h.past ∧ IsDr G y h.here ∧ IsDrs G z h.later
def IsSt (C : Addr) (t : Addr) (h : Hist) : Prop := ∃ x y z, G t = some (.tup [.ref x, .ref y, .ref z]) ∧ IsRws G C x h.past ∧ IsRw G C y h.here ∧ IsRws G C z h.later
end
section
variable {G G' : Hp} {a C : Addr} (s : Same G G')
include s
theorem IsMat.mono {m : Mat} (h : IsMat G a m) : IsMat G' a m := by
  obtain ⟨rs, e, p⟩ := h
  exact ⟨rs, s _ _ e, Paired.mapP p fun r v q => s _ _ q⟩
theorem IsMats.mono {ms : List Mat} (h : IsMats G a ms) : IsMats G' a ms := by
  obtain ⟨rs, e, p⟩ := h
  exact ⟨rs, s _ _ e, Paired.mapP p fun r v q => q.mono s⟩
theorem IsDr.mono {d : Dr} (h : IsDr G a d) : IsDr G' a d := by
  obtain ⟨x, y, e1, e2, e3⟩ := h
  exact ⟨x, y, s _ _ e1, s _ _ e2, e3.mono s⟩
theorem IsRw.mono {d : Dr} (h : IsRw G C a d) : IsRw G' C a d := by
  obtain ⟨dx, x, y, e1, e2, e3⟩ := h
  exact ⟨dx, x, y, s _ _ e1, s _ _ e2, e3.mono s⟩
theorem IsDrs.mono {ds : List Dr} (h : IsDrs G a ds) : IsDrs G' a ds := by
  obtain ⟨rs, e, p⟩ := h
  exact ⟨rs, s _ _ e, Paired.mapP p fun r v q => q.mono s⟩
theorem IsRws.mono {ds : List Dr} (h : IsRws G C a ds) : IsRws G' C a ds := by
  obtain ⟨rs, e, p⟩ := h
  exact ⟨rs, s _ _ e, Paired.mapP p fun r v q => q.mono s⟩
theorem IsLs.mono {h : Hist} (x : IsLs G a h) : IsLs G' a h := by
  obtain ⟨x, y, z, e, p, q, r⟩ := x
  exact ⟨x, y, z, s _ _ e, p.mono s, q.mono s, r.mono s⟩
theorem IsSt.mono {h : Hist} (x : IsSt G C a h) : IsSt G' C a h := by
  obtain ⟨x, y, z, e, p, q, r⟩ := x
  exact ⟨x, y, z, s _ _ e, p.mono s, q.mono s, r.mono s⟩
end
/-! ### what is changed -/
def stF (t : Addr) : List (Str × V) := [("state", .ref t)]
/-- the stream at p bears the history h -/
def IsStream (CR CS : Addr) (M : List Addr) (H : Hp) (p : Addr) (h : Hist) : Prop := ∃ dx t, H p = some (.ins CS dx (stF t)) ∧ IsSt (im M H) CR t h
/-- the box at b has counted at most n turns -/
def IsBox (H : Hp) (b : Addr) (n : Nat) : Prop := ∃ g f c : Int, H b = some (.lst [.int g, .int f, .int c]) ∧ 0 ≤ f ∧ f < 2147483629 ∧ 0 ≤ c ∧ c ≤ n
theorem IsBox.more {H : Hp} {b : Addr} {n m : Nat} (x : IsBox H b n) (h : n ≤ m) : IsBox H b m := by
  obtain ⟨g, f, c, e, h1, h2, h3, h4⟩ := x
  exact ⟨g, f, c, e, h1, h2, h3, Int.le_trans h4 (by omega)⟩
theorem IsBox.ext {H H' : Hp} {b : Addr} {n : Nat} {N : List Addr} (x : IsBox H b n) (e : Ext N H H') (h : b ∉ N) : IsBox H' b n := by
  obtain ⟨g, f, c, e1, h1⟩ := x
  exact ⟨g, f, c, e.keep _ _ h e1, h1⟩
theorem IsStream.ext {CR CS : Addr} {M N : List Addr} {H H' : Hp} {p : Addr} {h : Hist} (x : IsStream CR CS M H p h) (e : Ext N H H') (hp : p ∉ N) (hN : ∀ x ∈ N, x ∈ M) : IsStream CR CS M H' p h := by
  obtain ⟨dx, t, e1, e2⟩ := x
  exact ⟨dx, t, e.keep _ _ hp e1, e2.mono (e.im hN)⟩
theorem IsBox.tr {H : Hp} {b : Addr} {n : Nat} (x : IsBox H b n) : H b ≠ none := by
  obtain ⟨g, f, c, e, _⟩ := x
  rw [e]
  exact fun z => nomatch z
theorem im_upd {M : List Addr} {H : Hp} {p a : Addr} {o : HO} (h : a ≠ p) : im M (upd H p o) a = im M H a := by
  unfold im
  rw [upd_ne h]
theorem IsBox.upd {H : Hp} {b p : Addr} {o : HO} {n : Nat} (x : IsBox H b n) (h : b ≠ p) : IsBox (upd H p o) b n := by
  obtain ⟨g, f, c, e1, h1⟩ := x
  exact ⟨g, f, c, by rw [upd_ne h]; exact e1, h1⟩
theorem ne_new {H : Hp} {b p : Addr} (hb : H b ≠ none) (hp : H p = none) : b ≠ p := fun z => hb (by rw [z]; exact hp)
def RowOk (p : Int) (w : Nat) (v : List Int) : Prop := v.length = w ∧ ∀ x ∈ v, 0 ≤ x ∧ x < p
def MatOk (p : Int) (h w : Nat) (m : Mat) : Prop := m.length = h ∧ ∀ v ∈ m, RowOk p w v
/-! ### a def's promise, ready for a call -/
def OkF (P : Program) (w : World) (K : PySem.W.Frag) (mg : Str → Option Value) (base : Heap) (k : Nat) (f : Addr) (ps : List Str) (sp : Sp) : Prop :=
  ∃ fd, PySem.W.keepIn K (.ref f) = true ∧ Binds K fd ps [] ∧ FnOk P w K mg base (L2.CX P w) k f fd ps sp
/-- a def of the text at f -/
abbrev DefAt (K : PySem.W.Frag) (x qual : Str) (st : Stmt) (f : Addr) : Prop := ∃ fd, FunD K x qual (defArgs st) (defBody st) (defScope st) [] [] f fd
section
variable {P : Program} {w : World} {K : PySem.W.Frag} {mg : Str → Option Value} {base : Heap}
theorem okf_of {x qual : Str} {st : Stmt} {f : Addr} {N ps : List Str} {k : Nat} {sp : Sp} (F : DefAt K x qual st f) (S : FnScope N ps (defScope st))
    (hb : ∀ (kV doc pm : Value) (an : Option Addr) (cdv ct : Value) (us : List Value), us.length = ps.length → bindArgs (PySem.W.fnOf x qual (defArgs st) (defBody st) (defScope st) .none kV doc pm an cdv ct) ⟨us, []⟩ = pure (ps.zip us))
    (len : ∀ vs H Q E, sp vs H Q E → vs.length = ps.length)
    (hbody : ∀ (cdv : Value) (A : Around) (outer : List Env) (s : Shared) (H : Hp) (vs : List V) (Q : VK) (E : XK), Room k (A.deeper (envOfC qual (defScope st) s.heap.objs.size f cdv)) → sp vs H Q E →
      ∃ t, PSs (cxOf (L2.CX P w) P w K mg base N qual (defScope st) f cdv A outer s H E) (defBody st) t ∧ t { nx := fun _ H' => Q .non H', rt := Q } (start N vs) H) : OkF P w K mg base (k + 1) f ps sp := by
  obtain ⟨fd, F⟩ := F
  exact ⟨fd, F.kp, F.bindsN hb, F.ok S len hbody⟩
theorem OkF.mono {j k : Nat} {f : Addr} {ps : List Str} {sp : Sp} (F : OkF P w K mg base j f ps sp) (h : j ≤ k) : OkF P w K mg base k f ps sp := by
  obtain ⟨fd, h1, h2, h3⟩ := F
  exact ⟨fd, h1, h2, h3.mono h⟩
end
end Mr

set_option Elab.async false
set_option linter.all false
set_option maxRecDepth 100000
set_option maxHeartbeats 4000000
/-! What the top has written, by names. Printed by gen_txt.py. -/
namespace Mr
open PySem PySem.Spec PyProof.Rows L2 Ru Tx
abbrev ga (K : PySem.W.Frag) (x : Str) : Addr := He.ga K x
abbrev ma (K : PySem.W.Frag) (C m : Str) : Addr := He.ma K (He.ga K C) m
/-- a property's getter -/
def pg (K : PySem.W.Frag) (C m : Str) : Addr := match PySem.W.recIn K (ma K C m) "property" with
  | some (.ref g :: _) => g
  | _ => 0
/-- what an own error class must have: to be made, to be raised, to be read -/
structure ExC (K : PySem.W.Frag) (C : Addr) (fI : Addr) : Prop where
  o : OexC K C
  x : XfC K C
  i : PySem.W.findIn K (.ref C) "__init__" = some (some (.ref fI))
  t : PySem.W.typeIn K (.ref fI) = some (.type "function")
structure Txt (w : World) (K : PySem.W.Frag) (mg : Str → Option Value) : Prop where
  b_isinstance : mg "isinstance" = none
  b_int : mg "int" = none
  b_bool : mg "bool" = none
  b_list : mg "list" = none
  b_tuple : mg "tuple" = none
  b_all : mg "all" = none
  b_str : mg "str" = none
  b_len : mg "len" = none
  b_enumerate : mg "enumerate" = none
  b_range : mg "range" = none
  b_max : mg "max" = none
  b_min : mg "min" = none
  b_KeyError : mg "KeyError" = none
  g_RowError : mg "RowError" = some (.ref (ga K "RowError"))
  g_InvalidNumber : mg "InvalidNumber" = some (.ref (ga K "InvalidNumber"))
  g_UnknownName : mg "UnknownName" = some (.ref (ga K "UnknownName"))
  g_NothingToUndo : mg "NothingToUndo" = some (.ref (ga K "NothingToUndo"))
  g_NothingToRedo : mg "NothingToRedo" = some (.ref (ga K "NothingToRedo"))
  g_PRIMES : mg "PRIMES" = some (.ref (ga K "PRIMES"))
  g_is_integer : mg "is_integer" = some (.ref (ga K "is_integer"))
  g_is_prime : mg "is_prime" = some (.ref (ga K "is_prime"))
  g_need_prime : mg "need_prime" = some (.ref (ga K "need_prime"))
  g_is_vector : mg "is_vector" = some (.ref (ga K "is_vector"))
  g_is_matrix : mg "is_matrix" = some (.ref (ga K "is_matrix"))
  g_reduced : mg "reduced" = some (.ref (ga K "reduced"))
  g_reduced_rows : mg "reduced_rows" = some (.ref (ga K "reduced_rows"))
  g_OTHER : mg "OTHER" = some (.ref (ga K "OTHER"))
  g_is_pattern : mg "is_pattern" = some (.ref (ga K "is_pattern"))
  g_need_pattern : mg "need_pattern" = some (.ref (ga K "need_pattern"))
  g_shape_of : mg "shape_of" = some (.ref (ga K "shape_of"))
  g_Row : mg "Row" = some (.ref (ga K "Row"))
  g_need_arrow : mg "need_arrow" = some (.ref (ga K "need_arrow"))
  g_need_place_size : mg "need_place_size" = some (.ref (ga K "need_place_size"))
  g_grown : mg "grown" = some (.ref (ga K "grown"))
  g_Trial : mg "Trial" = some (.ref (ga K "Trial"))
  g_Stream : mg "Stream" = some (.ref (ga K "Stream"))
  g_law_cell : mg "_law_cell" = some (.ref (ga K "_law_cell"))
  g_law_box : mg "_law_box" = some (.ref (ga K "_law_box"))
  g_law_take : mg "_law_take" = some (.ref (ga K "_law_take"))
  g_law_prime : mg "_law_prime" = some (.ref (ga K "_law_prime"))
  g_law_matrix : mg "_law_matrix" = some (.ref (ga K "_law_matrix"))
  g_law_shown : mg "_law_shown" = some (.ref (ga K "_law_shown"))
  g_law_cut : mg "_law_cut" = some (.ref (ga K "_law_cut"))
  g_law_longer : mg "_law_longer" = some (.ref (ga K "_law_longer"))
  g_law_step : mg "_law_step" = some (.ref (ga K "_law_step"))
  g_law_stands : mg "_law_stands" = some (.ref (ga K "_law_stands"))
  g_law_within : mg "_law_within" = some (.ref (ga K "_law_within"))
  g_law_tried : mg "_law_tried" = some (.ref (ga K "_law_tried"))
  g_law : mg "law" = some (.ref (ga K "law"))
  i_MA : ∃ t, mg "MOST_ARROWS" = some (.int 6 t)
  i_MS : ∃ t, mg "MOST_SIZE" = some (.int 6 t)
  t_PRIMES : ∀ H : Hp, SqT K H (ga K "PRIMES") (([2, 3, 5, 7, 11, 13] : List Int).map V.int)
  t_OTHER : ∃ es n, KDict K w (ga K "OTHER") es n
  k_OTHER1 : ∃ u, PySem.W.nsIn K (ga K "OTHER") ">" = some (some u)
  k_OTHER2 : ∃ u, PySem.W.nsIn K (ga K "OTHER") "<" = some (some u)
  d_is_integer : ∃ fd, FunD K "is_integer" "is_integer" (defArgs sIsInt) (defBody sIsInt) (defScope sIsInt) [V.non, V.non] [] (ga K "is_integer") fd
  d_is_prime : DefAt K "is_prime" "is_prime" sIsPrime (ga K "is_prime")
  d_need_prime : DefAt K "need_prime" "need_prime" sNeedPrime (ga K "need_prime")
  d_is_vector : DefAt K "is_vector" "is_vector" sIsVector (ga K "is_vector")
  d_is_matrix : DefAt K "is_matrix" "is_matrix" sIsMatrix (ga K "is_matrix")
  d_reduced : DefAt K "reduced" "reduced" sReduced (ga K "reduced")
  d_reduced_rows : DefAt K "reduced_rows" "reduced_rows" sReducedRows (ga K "reduced_rows")
  d_is_pattern : DefAt K "is_pattern" "is_pattern" sIsPattern (ga K "is_pattern")
  d_need_pattern : DefAt K "need_pattern" "need_pattern" sNeedPattern (ga K "need_pattern")
  d_shape_of : DefAt K "shape_of" "shape_of" sShapeOf (ga K "shape_of")
  d_need_arrow : DefAt K "need_arrow" "need_arrow" sNeedArrow (ga K "need_arrow")
  d_need_place_size : DefAt K "need_place_size" "need_place_size" sNeedPlaceSize (ga K "need_place_size")
  d_grown : DefAt K "grown" "grown" sGrown (ga K "grown")
  d_law_cell : DefAt K "_law_cell" "_law_cell" sCell (ga K "_law_cell")
  d_law_box : DefAt K "_law_box" "_law_box" sBox (ga K "_law_box")
  d_law_take : DefAt K "_law_take" "_law_take" sTake (ga K "_law_take")
  d_law_prime : DefAt K "_law_prime" "_law_prime" sPrime (ga K "_law_prime")
  d_law_matrix : DefAt K "_law_matrix" "_law_matrix" sMatrix (ga K "_law_matrix")
  d_law_shown : DefAt K "_law_shown" "_law_shown" sShown (ga K "_law_shown")
  d_law_cut : DefAt K "_law_cut" "_law_cut" sCut (ga K "_law_cut")
  d_law_longer : DefAt K "_law_longer" "_law_longer" sLonger (ga K "_law_longer")
  d_law_step : DefAt K "_law_step" "_law_step" sStep (ga K "_law_step")
  d_law_stands : DefAt K "_law_stands" "_law_stands" sStands (ga K "_law_stands")
  d_law_within : DefAt K "_law_within" "_law_within" sWithin (ga K "_law_within")
  d_law_tried : DefAt K "_law_tried" "_law_tried" sTried (ga K "_law_tried")
  d_law : DefAt K "law" "law" sLaw (ga K "law")
  d_Row_maps : DefAt K "maps" "Row.maps" sRowMaps (ma K "Row" "maps")
  m_Row_maps : Meth K (ga K "Row") "maps" (ma K "Row" "maps")
  d_Row_part : DefAt K "part" "Row.part" sRowPart (ma K "Row" "part")
  m_Row_part : Meth K (ga K "Row") "part" (ma K "Row" "part")
  d_Trial_u_enteru_ : DefAt K "__enter__" "Trial.__enter__" sTrialEnter (ma K "Trial" "__enter__")
  d_Trial_u_exitu_ : DefAt K "__exit__" "Trial.__exit__" sTrialExit (ma K "Trial" "__exit__")
  d_Stream_row : DefAt K "row" "Stream.row" sStRow (ma K "Stream" "row")
  m_Stream_row : Meth K (ga K "Stream") "row" (ma K "Stream" "row")
  d_Stream_step_to : DefAt K "step_to" "Stream.step_to" sStStepTo (ma K "Stream" "step_to")
  m_Stream_step_to : Meth K (ga K "Stream") "step_to" (ma K "Stream" "step_to")
  d_Stream_grow : DefAt K "grow" "Stream.grow" sStGrow (ma K "Stream" "grow")
  m_Stream_grow : Meth K (ga K "Stream") "grow" (ma K "Stream" "grow")
  d_Stream_cut : DefAt K "cut" "Stream.cut" sStCut (ma K "Stream" "cut")
  m_Stream_cut : Meth K (ga K "Stream") "cut" (ma K "Stream" "cut")
  d_Stream_undo : DefAt K "undo" "Stream.undo" sStUndo (ma K "Stream" "undo")
  m_Stream_undo : Meth K (ga K "Stream") "undo" (ma K "Stream" "undo")
  d_Stream_redo : DefAt K "redo" "Stream.redo" sStRedo (ma K "Stream" "redo")
  m_Stream_redo : Meth K (ga K "Stream") "redo" (ma K "Stream" "redo")
  d_Stream_trial : DefAt K "trial" "Stream.trial" sStTrial (ma K "Stream" "trial")
  m_Stream_trial : Meth K (ga K "Stream") "trial" (ma K "Stream" "trial")
  d_Stream_tried : DefAt K "tried" "Stream.tried" sStTried (ma K "Stream" "tried")
  m_Stream_tried : Meth K (ga K "Stream") "tried" (ma K "Stream" "tried")
  d_Stream_u_lenu_ : DefAt K "__len__" "Stream.__len__" sStLen (ma K "Stream" "__len__")
  d_Row_init : DefAt K "__init__" "Row.__init__" sRowInit (ma K "Row" "__init__")
  d_Trial_init : DefAt K "__init__" "Trial.__init__" sTrialInit (ma K "Trial" "__init__")
  d_Stream_init : DefAt K "__init__" "Stream.__init__" sStInit (ma K "Stream" "__init__")
  d_InvalidNumber_init : DefAt K "__init__" "InvalidNumber.__init__" sIvNumInit (ma K "InvalidNumber" "__init__")
  d_UnknownName_init : DefAt K "__init__" "UnknownName.__init__" sUnkInit (ma K "UnknownName" "__init__")
  d_NothingToUndo_init : DefAt K "__init__" "NothingToUndo.__init__" sNtUInit (ma K "NothingToUndo" "__init__")
  d_NothingToRedo_init : DefAt K "__init__" "NothingToRedo.__init__" sNtRInit (ma K "NothingToRedo" "__init__")
  cl_Row : Cls K (ga K "Row")
  mk_Row : Mk K (ga K "Row") (ma K "Row" "__init__")
  cl_Trial : Cls K (ga K "Trial")
  mk_Trial : Mk K (ga K "Trial") (ma K "Trial" "__init__")
  cl_Stream : Cls K (ga K "Stream")
  mk_Stream : Mk K (ga K "Stream") (ma K "Stream" "__init__")
  d_Row_pattern : DefAt K "pattern" "Row.pattern" sRowPattern (pg K "Row" "pattern")
  p_Row_pattern : PropOf K (ga K "Row") "pattern" (ma K "Row" "pattern") (pg K "Row" "pattern")
  d_Row_prime : DefAt K "prime" "Row.prime" sRowPrime (pg K "Row" "prime")
  p_Row_prime : PropOf K (ga K "Row") "prime" (ma K "Row" "prime") (pg K "Row" "prime")
  d_Row_sizes : DefAt K "sizes" "Row.sizes" sRowSizes (pg K "Row" "sizes")
  p_Row_sizes : PropOf K (ga K "Row") "sizes" (ma K "Row" "sizes") (pg K "Row" "sizes")
  d_Stream_undoable : DefAt K "undoable" "Stream.undoable" sStUndoable (pg K "Stream" "undoable")
  p_Stream_undoable : PropOf K (ga K "Stream") "undoable" (ma K "Stream" "undoable") (pg K "Stream" "undoable")
  d_Stream_redoable : DefAt K "redoable" "Stream.redoable" sStRedoable (pg K "Stream" "redoable")
  p_Stream_redoable : PropOf K (ga K "Stream") "redoable" (ma K "Stream" "redoable") (pg K "Stream" "redoable")
  n_Row_own_pattern : NoAttr K (ga K "Row") "own_pattern"
  n_Row_own_prime : NoAttr K (ga K "Row") "own_prime"
  n_Row_own_sizes : NoAttr K (ga K "Row") "own_sizes"
  n_Row_own_maps : NoAttr K (ga K "Row") "own_maps"
  n_Trial_stream : NoAttr K (ga K "Trial") "stream"
  n_Trial_kept : NoAttr K (ga K "Trial") "kept"
  n_Stream_state : NoAttr K (ga K "Stream") "state"
  en_f : PySem.W.findIn K (.ref (ga K "Trial")) "__enter__" = some (some (.ref (ma K "Trial" "__enter__")))
  en_n : PySem.W.isFn K (.ref (ma K "Trial" "__enter__")) = true
  ex_f : PySem.W.findIn K (.ref (ga K "Trial")) "__exit__" = some (some (.ref (ma K "Trial" "__exit__")))
  ex_n : PySem.W.isFn K (.ref (ma K "Trial" "__exit__")) = true
  le_f : PySem.W.findIn K (.ref (ga K "Stream")) "__len__" = some (some (.ref (ma K "Stream" "__len__")))
  le_n : PySem.W.isFn K (.ref (ma K "Stream" "__len__")) = true
  x_InvalidNumber : ExC K (ga K "InvalidNumber") (ma K "InvalidNumber" "__init__")
  n_InvalidNumber_value : PySem.W.findIn K (.ref (ga K "InvalidNumber")) "value" = some none
  x_UnknownName : ExC K (ga K "UnknownName") (ma K "UnknownName" "__init__")
  n_UnknownName_name : PySem.W.findIn K (.ref (ga K "UnknownName")) "name" = some none
  x_NothingToUndo : ExC K (ga K "NothingToUndo") (ma K "NothingToUndo" "__init__")
  x_NothingToRedo : ExC K (ga K "NothingToRedo") (ma K "NothingToRedo" "__init__")
  e_NothingToUndo_NothingToUndo : PySem.W.exmOne K (.ref (ga K "NothingToUndo")) (.ref (ga K "NothingToUndo")) = some true
  e_NothingToUndo_NothingToRedo : PySem.W.exmOne K (.ref (ga K "NothingToUndo")) (.ref (ga K "NothingToRedo")) = some false
  e_NothingToUndo_UnknownName : PySem.W.exmOne K (.ref (ga K "NothingToUndo")) (.ref (ga K "UnknownName")) = some false
  e_NothingToUndo_InvalidNumber : PySem.W.exmOne K (.ref (ga K "NothingToUndo")) (.ref (ga K "InvalidNumber")) = some false
  e_NothingToUndo_KeyError : PySem.W.exmOne K (.ref (ga K "NothingToUndo")) (.type "KeyError") = some false
  e_KeyError_NothingToUndo : PySem.W.exmOne K (.type "KeyError") (.ref (ga K "NothingToUndo")) = some false
  e_NothingToRedo_NothingToUndo : PySem.W.exmOne K (.ref (ga K "NothingToRedo")) (.ref (ga K "NothingToUndo")) = some false
  e_NothingToRedo_NothingToRedo : PySem.W.exmOne K (.ref (ga K "NothingToRedo")) (.ref (ga K "NothingToRedo")) = some true
  e_NothingToRedo_UnknownName : PySem.W.exmOne K (.ref (ga K "NothingToRedo")) (.ref (ga K "UnknownName")) = some false
  e_NothingToRedo_InvalidNumber : PySem.W.exmOne K (.ref (ga K "NothingToRedo")) (.ref (ga K "InvalidNumber")) = some false
  e_NothingToRedo_KeyError : PySem.W.exmOne K (.ref (ga K "NothingToRedo")) (.type "KeyError") = some false
  e_KeyError_NothingToRedo : PySem.W.exmOne K (.type "KeyError") (.ref (ga K "NothingToRedo")) = some false
  e_UnknownName_NothingToUndo : PySem.W.exmOne K (.ref (ga K "UnknownName")) (.ref (ga K "NothingToUndo")) = some false
  e_UnknownName_NothingToRedo : PySem.W.exmOne K (.ref (ga K "UnknownName")) (.ref (ga K "NothingToRedo")) = some false
  e_UnknownName_UnknownName : PySem.W.exmOne K (.ref (ga K "UnknownName")) (.ref (ga K "UnknownName")) = some true
  e_UnknownName_InvalidNumber : PySem.W.exmOne K (.ref (ga K "UnknownName")) (.ref (ga K "InvalidNumber")) = some false
  e_UnknownName_KeyError : PySem.W.exmOne K (.ref (ga K "UnknownName")) (.type "KeyError") = some false
  e_KeyError_UnknownName : PySem.W.exmOne K (.type "KeyError") (.ref (ga K "UnknownName")) = some false
  e_InvalidNumber_NothingToUndo : PySem.W.exmOne K (.ref (ga K "InvalidNumber")) (.ref (ga K "NothingToUndo")) = some false
  e_InvalidNumber_NothingToRedo : PySem.W.exmOne K (.ref (ga K "InvalidNumber")) (.ref (ga K "NothingToRedo")) = some false
  e_InvalidNumber_UnknownName : PySem.W.exmOne K (.ref (ga K "InvalidNumber")) (.ref (ga K "UnknownName")) = some false
  e_InvalidNumber_InvalidNumber : PySem.W.exmOne K (.ref (ga K "InvalidNumber")) (.ref (ga K "InvalidNumber")) = some true
  e_InvalidNumber_KeyError : PySem.W.exmOne K (.ref (ga K "InvalidNumber")) (.type "KeyError") = some false
  e_KeyError_InvalidNumber : PySem.W.exmOne K (.type "KeyError") (.ref (ga K "InvalidNumber")) = some false
  rd_RowError : PySem.W.readsIn K (ga K "RowError") (.type "type") = true
  ga_RowError : PySem.W.specialIn K (.ref (ga K "RowError")) "__getattribute__" = some (some (.builtin "type.__getattribute__"))
  vi_RowError : PySem.W.findCls K (.ref (ga K "RowError")) (.type "type") "__init__" = some (.val (.builtin "ValueError.__init__"))
end Mr

set_option Elab.async false
set_option linter.all false
set_option maxRecDepth 100000
set_option maxHeartbeats 4000000
namespace Mr
open PySem PySem.Spec PyProof.Rows L2 Ru Tx
theorem bt_int : bootBuiltins "int" = some (.type "int") := by decide +kernel
theorem bt_bool : bootBuiltins "bool" = some (.type "bool") := by decide +kernel
theorem bt_str : bootBuiltins "str" = some (.type "str") := by decide +kernel
theorem bt_list : bootBuiltins "list" = some (.type "list") := by decide +kernel
theorem bt_tuple : bootBuiltins "tuple" = some (.type "tuple") := by decide +kernel
theorem bt_isinstance : bootBuiltins "isinstance" = some (.builtin "isinstance") := by decide +kernel
theorem bt_all : bootBuiltins "all" = some (.builtin "all") := by decide +kernel
theorem bt_len : bootBuiltins "len" = some (.builtin "len") := by decide +kernel
theorem bt_max : bootBuiltins "max" = some (.builtin "max") := by decide +kernel
theorem bt_min : bootBuiltins "min" = some (.builtin "min") := by decide +kernel
theorem szl {n : Nat} (h : n ≤ 1000) : n ≤ sizeLine := by rw [sizeLine_eq]; omega
section
variable {X : Cx}
/-- a built-in class as a value -/
theorem pe_ty {x : Str} {pos : Pos} {n : String} (hg : Gl X x) (hm : X.mg x = none) (hv : bootBuiltins x = some (.type n)) (hn : x ≠ "__name__" := by decide) (hd : (x == ("__debug__" : Str)) = false := by decide) : PE X (.Name x pos) (tC (.ty n)) := pe_bltn hg hm hv rfl hn hd
end
theorem kit_ii {K : PySem.W.Frag} : PySem.W.kitOne K (.type "int") (.type "int") = some true := kit_ty (by decide +kernel)
theorem kit_ib {K : PySem.W.Frag} : PySem.W.kitOne K (.type "int") (.type "bool") = some false := kit_ty (by decide +kernel)
theorem kit_ss {K : PySem.W.Frag} : PySem.W.kitOne K (.type "str") (.type "str") = some true := kit_ty (by decide +kernel)
theorem kit_ll {K : PySem.W.Frag} : PySem.W.kitOne K (.type "list") (.type "list") = some true := kit_ty (by decide +kernel)
theorem kit_tl {K : PySem.W.Frag} : PySem.W.kitOne K (.type "tuple") (.type "list") = some false := kit_ty (by decide +kernel)
theorem kit_tt {K : PySem.W.Frag} : PySem.W.kitOne K (.type "tuple") (.type "tuple") = some true := kit_ty (by decide +kernel)
theorem kit_l {K : PySem.W.Frag} : PySem.W.kitAny K (.type "list") [.type "list", .type "tuple"] = some true := kitAny_cons kit_ll (fun z => nomatch z) fun _ => rfl
theorem kit_t {K : PySem.W.Frag} : PySem.W.kitAny K (.type "tuple") [.type "list", .type "tuple"] = some true := kitAny_cons kit_tl (fun _ => kitAny_cons kit_tt (fun z => nomatch z) fun _ => rfl) fun z => nomatch z
theorem clsLT : Paired ClsV [V.ty "list", V.ty "tuple"] [Value.type "list", Value.type "tuple"] := .cons (.ty _) (.cons (.ty _) .nil)
/-! ### is_integer -/
def leB : V → Int → Bool
  | .int l, v => decide (l ≤ v)
  | _, _ => true
def geB : V → Int → Bool
  | .int l, v => decide (v ≤ l)
  | _, _ => true
def OptI (x : V) : Prop := x = .non ∨ ∃ l, x = .int l
def spIsInt : Sp := fun vs H Q _ => ∃ (v : Int) (lo hi : V), vs = [.int v, lo, hi] ∧ OptI lo ∧ OptI hi ∧ Q (.bl (leB lo v && geB hi v)) H
theorem scIsInt : FnScope ["value", "low", "high"] ["value", "low", "high"] (defScope sIsInt) := ⟨rfl, rfl, rfl, by decide +kernel, rfl, by decide +kernel, by decide +kernel⟩
section
variable {P : Program} {w : World} {K : PySem.W.Frag} {mg : Str → Option Value} {base : Heap}
def OkInt (P : Program) (w : World) (K : PySem.W.Frag) (mg : Str → Option Value) (base : Heap) : Prop := ∃ fd, PySem.W.keepIn K (.ref (ga K "is_integer")) = true ∧ Binds K fd ["value", "low", "high"] [] ∧ (∃ ds, Vals [V.non, V.non] ds ∧ Binds K fd ["value", "low", "high"] ds) ∧
  FnOk P w K mg base (L2.CX P w) 1 (ga K "is_integer") fd ["value", "low", "high"] spIsInt
theorem ok_is_integer (T : Txt w K mg) : OkInt P w K mg base := by
  obtain ⟨fd, F⟩ := T.d_is_integer
  have b1 := F.binds1 (ps := ["value", "low", "high"]) 1 0 (by decide) rfl fun T kV doc pm an cdv ct us its h1 h2 => match us, its, h1, h2 with
    | [_], [_, _], _, _ => ⟨_, rfl, rfl⟩
  have b3 := F.binds1 (ps := ["value", "low", "high"]) 3 2 (by decide) rfl fun T kV doc pm an cdv ct us its h1 h2 => match us, its, h1, h2 with
    | [_, _, _], [_, _], _, _ => ⟨_, rfl, rfl⟩
  obtain ⟨ds3, v3, b3⟩ := b3
  cases v3
  refine ⟨fd, F.kp, b3, b1, F.ok scIsInt (fun vs H Q E h => ?_) (fun cdv A outer s H vs Q E hr h => ?_)⟩
  · obtain ⟨v, lo, hi, rfl, _⟩ := h
    rfl
  · obtain ⟨v, lo, hi, rfl, h1, h2, k⟩ := h
    refine ⟨_, pss_cons (ps_if (PW.pt (pw_or (pt_not (pt_val (pe_callB call_isi (by rfl) T.b_isinstance bt_isinstance (pa_cons (pv 0) (pa_cons (pe_ty (by rfl) T.b_int bt_int) pa_nil)))))
        (pw_or1 (pt_val (pe_callB call_isi (by rfl) T.b_isinstance bt_isinstance (pa_cons (pv 0) (pa_cons (pe_ty (by rfl) T.b_bool bt_bool) pa_nil))))))) (pss_one (ps_ret pe_bl)) pss_nil)
      (pss_one (ps_ret (pe_and (pe_or (pe_cmp (pc_isN (pv 1))) (pe_one (pe_cmpR op_ge (pv 0) (pv 1) (nomark _)))) (pe_one (pe_or (pe_cmp (pc_isN (pv 2))) (pe_one (pe_cmpR op_le (pv 0) (pv 2) (nomark _)))))))), ?_⟩
    refine ⟨_, rfl, V.int v, V.ty "int", _, _, _, rfl, .ty _, .base (.int v), kit_ii, true, rfl, ?_⟩
    refine iteF ⟨_, rfl, V.int v, V.ty "bool", _, _, _, rfl, .ty _, .base (.int v), kit_ib, false, rfl, ?_⟩
    refine iteF ?_
    have hi_ : ∀ Q' : VK, Q' (.bl (geB hi v)) H → tOrV (tIsN (tVar 2)) (tOp (rI0 fun i j => .bl (decide (i ≤ j))) (tVar 0) (tVar 2)) [some (.int v), some lo, some hi] H Q' := fun Q' k' => by
      rcases h2 with rfl | ⟨l2, rfl⟩
      · exact ⟨_, rfl, true, rfl, iteT k'⟩
      · exact ⟨_, rfl, false, rfl, iteF ⟨_, rfl, _, rfl, _, _, rfl, rfl, k'⟩⟩
    have nxt : ∀ b : Bool, (b = true → Q (.bl (geB hi v)) H) → (b = false → Q (.bl false) H) → if b = true then tOrV (tIsN (tVar 2)) (tOp (rI0 fun i j => .bl (decide (i ≤ j))) (tVar 0) (tVar 2)) [some (.int v), some lo, some hi] H Q else Q (.bl false) H := fun b k1 k2 => by
      cases b with
      | true => exact iteT (hi_ Q (k1 rfl))
      | false => exact iteF (k2 rfl)
    rcases h1 with rfl | ⟨l, rfl⟩
    · exact ⟨_, rfl, true, rfl, iteT ⟨true, rfl, nxt true (fun _ => k) fun z => nomatch z⟩⟩
    · refine ⟨_, rfl, false, rfl, iteF ⟨_, rfl, _, rfl, _, _, rfl, rfl, _, rfl, nxt _ (fun z => ?_) fun z => ?_⟩⟩
      · have e : leB (.int l) v = true := z
        rw [e, Bool.true_and] at k
        exact k
      · have e : leB (.int l) v = false := z
        rw [e, Bool.false_and] at k
        exact k
end
end Mr

set_option Elab.async false
set_option linter.all false
set_option maxRecDepth 100000
set_option maxHeartbeats 4000000
namespace Mr
open PySem PySem.Spec PyProof.Rows L2 Ru Tx
def isPr (p : Int) : Prop := p = 2 ∨ p = 3 ∨ p = 5 ∨ p = 7 ∨ p = 11 ∨ p = 13
theorem isPr.pos {p : Int} (h : isPr p) : 2 ≤ p ∧ p ≤ 13 := by unfold isPr at h; omega
def spIsPrime : Sp := fun vs H Q _ => ∃ p : Int, vs = [.int p] ∧ isPr p ∧ Q (.bl true) H
def spNeedPrime : Sp := fun vs H Q _ => ∃ p : Int, vs = [.int p] ∧ isPr p ∧ Q .non H
theorem scIsPrime : FnScope ["value"] ["value"] (defScope sIsPrime) := ⟨rfl, rfl, rfl, by decide +kernel, rfl, by decide +kernel, by decide +kernel⟩
theorem scNeedPrime : FnScope ["prime"] ["prime"] (defScope sNeedPrime) := ⟨rfl, rfl, rfl, by decide +kernel, rfl, by decide +kernel, by decide +kernel⟩
theorem inPr {p : Int} (h : isPr p) : inV (.int p) (([2, 3, 5, 7, 11, 13] : List Int).map V.int) = true := by
  rcases h with rfl | rfl | rfl | rfl | rfl | rfl <;> decide
section
variable {P : Program} {w : World} {K : PySem.W.Frag} {mg : Str → Option Value} {base : Heap}
theorem ok_is_prime (T : Txt w K mg) : OkF P w K mg base 2 (ga K "is_prime") ["value"] spIsPrime := by
  obtain ⟨fI, kI, bI3, ⟨dI, vI, bI⟩, FI⟩ := ok_is_integer (P := P) (base := base) T
  refine okf_of T.d_is_prime scIsPrime (fun _ _ _ _ _ _ us hl => match us, hl with | [_], _ => rfl) (fun vs H Q E h => ?_) (fun cdv A outer s H vs Q E hr h => ?_)
  · obtain ⟨p, rfl, _⟩ := h
    rfl
  · obtain ⟨p, rfl, hp, k⟩ := h
    refine ⟨_, pss_one (ps_ret (pe_and (pe_call FI hr rfl T.g_is_integer kI bI vI passL (pa_cons (pv 0) pa_nil)) (pe_one (pe_cmpR op_in_seq (pv 0) (pe_glob (v := .ref (ga K "PRIMES")) rfl T.g_PRIMES rfl) (by rfl))))), ?_⟩
    refine ⟨_, rfl, p, .non, .non, rfl, .inl rfl, .inl rfl, true, rfl, iteT ⟨_, rfl, _, _, rfl, .inr (T.t_PRIMES H), rfl, by decide, ?_⟩⟩
    show Q (.bl (inV (.int p) (([2, 3, 5, 7, 11, 13] : List Int).map V.int))) H
    rw [inPr hp]
    exact k
theorem ok_need_prime (T : Txt w K mg) : OkF P w K mg base 3 (ga K "need_prime") ["prime"] spNeedPrime := by
  obtain ⟨fI, kI, bI, FI⟩ := ok_is_prime (P := P) (base := base) T
  refine okf_of T.d_need_prime scNeedPrime (fun _ _ _ _ _ _ us hl => match us, hl with | [_], _ => rfl) (fun vs H Q E h => ?_) (fun cdv A outer s H vs Q E hr h => ?_)
  · obtain ⟨p, rfl, _⟩ := h
    rfl
  · obtain ⟨p, rfl, hp, k⟩ := h
    refine ⟨_, pss_one (ps_if (pt_not (pt_val (pe_call FI hr rfl T.g_is_prime kI bI .nil passL (pa_cons (pv 0) pa_nil)))) (pss_one ps_never) pss_nil), ?_⟩
    exact ⟨_, rfl, p, rfl, hp, true, rfl, iteF k⟩
end
/-! ### the law's figures -/
def nMax : Nat := 1000000
def spTake : Sp := fun vs H Q _ => ∃ (b : Addr) (many : Int) (n : Nat), vs = [.ref b, .int many] ∧ 0 < many ∧ many < 1000 ∧ IsBox H b n ∧ n < nMax ∧
  ∀ (d : Int) (H' : Hp), 0 ≤ d → d < many → Ext [b] H H' → IsBox H' b (n + 1) → Q (.int d) H'
theorem scTake : FnScope ["_law_box_here", "_law_many", "_law_digit", "_law_figure"] ["_law_box_here", "_law_many"] (defScope sTake) := ⟨rfl, rfl, rfl, by decide +kernel, rfl, by decide +kernel, by decide +kernel⟩
section
variable {P : Program} {w : World} {K : PySem.W.Frag} {mg : Str → Option Value} {base : Heap}
theorem ok_take (T : Txt w K mg) : OkF P w K mg base 1 (ga K "_law_take") ["_law_box_here", "_law_many"] spTake := by
  refine okf_of T.d_law_take scTake (fun _ _ _ _ _ _ us hl => match us, hl with | [_, _], _ => rfl) (fun vs H Q E h => ?_) (fun cdv A outer s H vs Q E hr h => ?_)
  · obtain ⟨b, many, n, rfl, _⟩ := h
    rfl
  · obtain ⟨b, many, n, rfl, hm, hm2, ⟨g, f, c, hb, f0, f1, c0, c1⟩, hn, k⟩ := h
    refine ⟨_, pss_cons (ps_if (pt_cmpR op_gt (pe_ix ix_list (pv 0) pe_int (fun _ _ => rfl)) pe_int (nomark _))
        (pss_cons (ps_set (i := 2) scTake.nd rfl (Or.inl rfl) (pe_op op_mod (pe_callTy call_int1 (by rfl) T.b_int bt_int (pa_cons (pe_ix ix_list (pv 0) pe_int (fun _ _ => rfl)) pa_nil)) (pv 1)))
          (pss_cons (ps_asg (pe_op op_fdiv (pe_ix ix_list (pv 0) pe_int (fun _ _ => rfl)) (pv 1)) (pg_sub (pv 0) pe_int set_list)) (pss_one (ps_ret (pv 2))))) pss_nil)
      (pss_cons (ps_asg (pe_op op_add (pe_ix ix_list (pv 0) pe_int (fun _ _ => rfl)) pe_int) (pg_sub (pv 0) pe_int set_list))
        (pss_cons (ps_set (i := 3) scTake.nd rfl (Or.inl rfl) (pe_op op_mod (pe_op op_pow (pe_callTy call_int1 (by rfl) T.b_int bt_int (pa_cons (pe_op op_add (pe_op op_add (pe_ix ix_list (pv 0) pe_int (fun _ _ => rfl)) (pe_op op_mul pe_int (pe_ix ix_list (pv 0) pe_int (fun _ _ => rfl)))) pe_int) pa_nil)) pe_int) pe_int))
          (pss_cons (ps_set (i := 3) scTake.nd rfl (Or.inl rfl) (pe_op op_mod (pe_op op_pow (pe_callTy call_int1 (by rfl) T.b_int bt_int (pa_cons (pe_op op_add (pv 3) (pe_op op_mul pe_int (pe_ix ix_list (pv 0) pe_int (fun _ _ => rfl)))) pa_nil)) pe_int) pe_int))
            (pss_one (ps_ret (pe_op op_mod (pe_callTy call_int1 (by rfl) T.b_int bt_int (pa_cons (pe_op op_fdiv (pv 3) pe_int) pa_nil)) (pv 1))))))), ?_⟩
    have at0 : atI [V.int g, V.int f, V.int c] 0 = some (.int g) := rfl
    refine ⟨_, rfl, _, _, _, _, rfl, rfl, SqL.of hb, at0, _, _, rfl, rfl, _, rfl, ?_⟩
    refine ite2 (fun hg => ?_) (fun hg => ?_)
    · refine ⟨_, rfl, _, _, _, _, rfl, rfl, SqL.of hb, at0, .inl ⟨_, rfl, _, rfl, _, _, rfl, rfl, hm, ?_⟩⟩
      refine ⟨_, rfl, _, _, _, _, rfl, rfl, SqL.of hb, at0, _, rfl, _, _, rfl, rfl, ⟨hm, by omega⟩, ?_⟩
      refine ⟨_, rfl, b, _, 0, 0, rfl, rfl, hb, rfl, ?_⟩
      refine ⟨_, rfl, k _ _ (Int.emod_nonneg _ (by omega)) (Int.emod_lt_of_pos _ hm) (Ext.put (by simp)) ⟨_, f, c, upd_same, f0, f1, c0, by omega⟩⟩
    · have at2 : atI [V.int g, V.int f, V.int c] 2 = some (.int c) := rfl
      refine ⟨_, rfl, _, _, _, _, rfl, rfl, SqL.of hb, at2, _, _, rfl, rfl, ?_⟩
      refine ⟨_, rfl, b, _, 2, 2, rfl, rfl, hb, rfl, ?_⟩
      have hb2 : upd H b (.lst [V.int g, V.int f, V.int (c + 1)]) b = some (.lst [V.int g, V.int f, V.int (c + 1)]) := upd_same
      have at1' : atI [V.int g, V.int f, V.int (c + 1)] 1 = some (.int f) := rfl
      have at2' : atI [V.int g, V.int f, V.int (c + 1)] 2 = some (.int (c + 1)) := rfl
      have hc : c ≤ 1000000 := by unfold nMax at hn; omega
      refine ⟨_, rfl, _, _, _, _, rfl, rfl, SqL.of hb2, at1', _, rfl, _, _, _, _, rfl, rfl, SqL.of hb2, at2', _, _, rfl, rfl, .inl ⟨by decide, by decide⟩, _, _, rfl, rfl, _, _, rfl, rfl, .inl ⟨_, rfl, ?_⟩⟩
      refine ⟨_, _, rfl, rfl, ⟨by decide, by decide, by omega⟩, _, _, rfl, rfl, (show (0 : Int) < 2147483647 by decide), ?_⟩
      have fg1 := Int.emod_nonneg ((f + 7771 * (c + 1) + 292) ^ (5 : Int).toNat) (show (2147483647 : Int) ≠ 0 by decide)
      have fg2 := Int.emod_lt_of_pos ((f + 7771 * (c + 1) + 292) ^ (5 : Int).toNat) (show (0 : Int) < 2147483647 by decide)
      generalize ((f + 7771 * (c + 1) + 292) ^ (5 : Int).toNat) % 2147483647 = y at fg1 fg2
      refine ⟨_, rfl, _, rfl, _, _, _, _, rfl, rfl, SqL.of hb2, at2', _, _, rfl, rfl, .inl ⟨by decide, by decide⟩, _, _, rfl, rfl, .inl ⟨_, rfl, ?_⟩⟩
      refine ⟨_, _, rfl, rfl, ⟨by decide, by decide, by omega⟩, _, _, rfl, rfl, (show (0 : Int) < 2147483587 by decide), ?_⟩
      refine ⟨_, rfl, _, _, rfl, rfl, ⟨by decide, by decide⟩, .inl ⟨_, rfl, _, rfl, _, _, rfl, rfl, hm, ?_⟩⟩
      exact k _ _ (Int.emod_nonneg _ (by omega)) (Int.emod_lt_of_pos _ hm) (Ext.put (by simp)) ⟨g, f, c + 1, upd_same, f0, f1, by omega, by omega⟩
end
end Mr

set_option Elab.async false
set_option linter.all false
set_option maxRecDepth 100000
set_option maxHeartbeats 4000000
namespace Mr
open PySem PySem.Spec PyProof.Rows L2 Ru Tx
def spCell (K : PySem.W.Frag) : Sp := fun vs H Q _ => ∃ (a : Addr) (ns : List Int) (k : Nat), vs = [.ref a, .int k] ∧ SqL K H a (ns.map V.int) ∧ ns.length ≤ 63 ∧ ∀ v : Int, Q (.int v) H
def spBox : Sp := fun vs H Q _ => ∃ v : Int, vs = [.int v] ∧ ∀ (p : Addr) (o : HO), H p = none → IsBox (upd H p o) p 0 → Q (.ref p) (upd H p o)
def spPrime : Sp := fun vs H Q _ => ∃ (b : Addr) (n : Nat), vs = [.ref b] ∧ IsBox H b n ∧ n < nMax ∧ ∀ (p : Int) (H' : Hp), isPr p → Ext [b] H H' → IsBox H' b (n + 1) → Q (.int p) H'
def spMatrix : Sp := fun vs H Q _ => ∃ (b : Addr) (p : Int) (h w n : Nat) (M : List Addr), vs = [.ref b, .int p, .int h, .int w] ∧ 0 < p ∧ p ≤ 13 ∧ h ≤ 6 ∧ w ≤ 6 ∧ IsBox H b n ∧ n + 100 ≤ nMax ∧ b ∈ M ∧ Tr M H ∧
  ∀ (a : Addr) (m : Mat) (H' : Hp), MatOk p h w m → Ext [b] H H' → IsBox H' b (n + 100) → IsMat (im M H') a m → Q (.ref a) H'
theorem scCell : FnScope ["_law_script", "_law_k"] ["_law_script", "_law_k"] (defScope sCell) := ⟨rfl, rfl, rfl, by decide +kernel, rfl, by decide +kernel, by decide +kernel⟩
theorem scBox : FnScope ["_law_cell_here"] ["_law_cell_here"] (defScope sBox) := ⟨rfl, rfl, rfl, by decide +kernel, rfl, by decide +kernel, by decide +kernel⟩
theorem scPrime : FnScope ["_law_box_here"] ["_law_box_here"] (defScope sPrime) := ⟨rfl, rfl, rfl, by decide +kernel, rfl, by decide +kernel, by decide +kernel⟩
abbrev nMat : List Str := ["_law_box_here", "_law_p", "_law_high", "_law_wide", "_law_odds", "_law_k", "_law_j"]
theorem scMatrix : FnScope nMat ["_law_box_here", "_law_p", "_law_high", "_law_wide"] (defScope sMatrix) := ⟨rfl, rfl, rfl, by decide +kernel, rfl, by decide +kernel, by decide +kernel⟩
section
variable {P : Program} {w : World} {K : PySem.W.Frag} {mg : Str → Option Value} {base : Heap}
theorem ok_cell (T : Txt w K mg) : OkF P w K mg base 1 (ga K "_law_cell") ["_law_script", "_law_k"] (spCell K) := by
  refine okf_of T.d_law_cell scCell (fun _ _ _ _ _ _ us hl => match us, hl with | [_, _], _ => rfl) (fun vs H Q E h => ?_) (fun cdv A outer s H vs Q E hr h => ?_)
  · obtain ⟨a, ns, k, rfl, _⟩ := h
    rfl
  · obtain ⟨a, ns, k, rfl, hS, hl, q⟩ := h
    refine ⟨_, pss_cons (ps_if (pt_cmpR op_lt (pv 1) (pe_callB call_len_seq (by rfl) T.b_len bt_len (pa_cons (pv 0) pa_nil)) (nomark _)) (pss_one (ps_ret (pe_ix ix_list (pv 0) (pv 1) (fun _ _ => rfl)))) pss_nil)
      (pss_one (ps_ret (pe_op op_add (pe_op op_mul pe_int (pv 1)) pe_int))), ?_⟩
    refine ⟨_, rfl, _, rfl, _, _, rfl, .inl hS, _, _, rfl, rfl, _, rfl, ite2 (fun hk => ?_) fun hk => ?_⟩
    · have hk2 : k < ns.length := by
        have hk' : (k : Int) < ((ns.map V.int).length : Int) := by simpa using hk
        rw [List.length_map] at hk'
        omega
      exact ⟨_, rfl, _, rfl, _, _, _, _, rfl, rfl, hS, atI_nat (j := k) (by rw [List.getElem?_map, List.getElem?_eq_getElem hk2]; rfl), q _⟩
    · exact ⟨_, rfl, _, _, rfl, rfl, .inl ⟨by decide, by decide⟩, _, _, rfl, rfl, q _⟩
theorem ok_box (T : Txt w K mg) : OkF P w K mg base 1 (ga K "_law_box") ["_law_cell_here"] spBox := by
  refine okf_of T.d_law_box scBox (fun _ _ _ _ _ _ us hl => match us, hl with | [_], _ => rfl) (fun vs H Q E h => ?_) (fun cdv A outer s H vs Q E hr h => ?_)
  · obtain ⟨v, rfl, _⟩ := h
    rfl
  · obtain ⟨v, rfl, q⟩ := h
    refine ⟨_, pss_one (ps_ret (pe_lst (pa_cons (pe_callB (call_max2 rfl) (by rfl) T.b_max bt_max (pa_cons pe_int (pa_cons (pe_op op_sub (pv 0) (pe_op op_pow pe_int pe_int)) pa_nil)))
      (pa_cons (pe_op op_mod (pe_callTy call_int1 (by rfl) T.b_int bt_int (pa_cons (pv 0) pa_nil)) pe_int) (pa_cons pe_int pa_nil))))), ?_⟩
    refine ⟨_, rfl, _, _, rfl, rfl, ⟨by decide, by decide, by decide⟩, _, _, rfl, rfl, _, _, rfl, ?_⟩
    refine ⟨_, rfl, .inl ⟨_, rfl, _, _, rfl, rfl, (show (0 : Int) < 2147483629 by decide), szl (by show 3 ≤ 1000; decide), fun p hp => q p _ hp ⟨_, _, _, upd_same, Int.emod_nonneg _ (by decide), Int.emod_lt_of_pos _ (by decide), by decide, by decide⟩⟩⟩
theorem ok_prime (T : Txt w K mg) : OkF P w K mg base 2 (ga K "_law_prime") ["_law_box_here"] spPrime := by
  obtain ⟨fT, kT, bT, FT⟩ := ok_take (P := P) (base := base) T
  refine okf_of T.d_law_prime scPrime (fun _ _ _ _ _ _ us hl => match us, hl with | [_], _ => rfl) (fun vs H Q E h => ?_) (fun cdv A outer s H vs Q E hr h => ?_)
  · obtain ⟨b, n, rfl, _⟩ := h
    rfl
  · obtain ⟨b, n, rfl, hB, hn, q⟩ := h
    refine ⟨_, pss_one (ps_ret (pe_ix ix_list (pe_lst (pa_cons pe_int (pa_cons pe_int (pa_cons pe_int (pa_cons pe_int (pa_cons pe_int (pa_cons pe_int (pa_cons pe_int (pa_cons pe_int pa_nil)))))))))
      (pe_call FT hr rfl T.g_law_take kT bT .nil passL (pa_cons (pv 0) (pa_cons pe_int pa_nil))) (fun _ _ => rfl))), ?_⟩
    refine ⟨szl (by decide), fun l hl => ?_⟩
    have nbl := ne_new hB.tr hl
    refine ⟨_, rfl, b, 8, n, rfl, by decide, by decide, hB.upd nbl, hn, fun d H' d0 d1 e1 hB' => ?_⟩
    have hL : H' l = some (.lst (([2, 3, 5, 2, 3, 7, 11, 13] : List Int).map V.int)) := e1.keep l _ (by simpa using nbl.symm) upd_same
    have e2 : Ext [b] H H' := (Ext.new hl).trans e1
    have fin : ∀ (j : Nat) (p : Int), d = (j : Int) → (([2, 3, 5, 2, 3, 7, 11, 13] : List Int).map V.int)[j]? = some (.int p) → isPr p → _ := fun j p ej h1 h2 => (⟨l, _, d, .int p, rfl, rfl, SqL.of hL, at_of ej h1, q p H' h2 e2 hB'⟩ : rIxL K (.ref l) (.int d) H' Q)
    have hd : d = 0 ∨ d = 1 ∨ d = 2 ∨ d = 3 ∨ d = 4 ∨ d = 5 ∨ d = 6 ∨ d = 7 := by omega
    rcases hd with hd | hd | hd | hd | hd | hd | hd | hd
    · exact fin 0 2 hd rfl (by simp [isPr])
    · exact fin 1 3 hd rfl (by simp [isPr])
    · exact fin 2 5 hd rfl (by simp [isPr])
    · exact fin 3 2 hd rfl (by simp [isPr])
    · exact fin 4 3 hd rfl (by simp [isPr])
    · exact fin 5 7 hd rfl (by simp [isPr])
    · exact fin 6 11 hd rfl (by simp [isPr])
    · exact fin 7 13 hd rfl (by simp [isPr])
end
end Mr

set_option Elab.async false
set_option linter.all false
set_option maxRecDepth 100000
set_option maxHeartbeats 4000000
namespace Mr
open PySem PySem.Spec PyProof.Rows L2 Ru Tx
theorem paired_snoc {α β : Type} {R : α → β → Prop} : ∀ {xs : List α} {ys : List β} {x : α} {y : β}, Paired R xs ys → R x y → Paired R (xs ++ [x]) (ys ++ [y])
  | _, _, _, _, .nil, h => .cons h .nil
  | _, _, _, _, .cons a r, h => .cons a (paired_snoc r h)
theorem paired_len {α β : Type} {R : α → β → Prop} : ∀ {xs : List α} {ys : List β}, Paired R xs ys → xs.length = ys.length
  | _, _, .nil => rfl
  | _, _, .cons _ r => congrArg (· + 1) (paired_len r)
theorem paired_app {α β : Type} {R : α → β → Prop} : ∀ {xs xs' : List α} {ys ys' : List β}, Paired R xs ys → Paired R xs' ys' → Paired R (xs ++ xs') (ys ++ ys')
  | _, _, _, _, .nil, h => h
  | _, _, _, _, .cons a r, h => .cons a (paired_app r h)
theorem map_snoc {α β : Type} (f : α → β) (xs : List α) (x : α) : xs.map f ++ [f x] = (xs ++ [x]).map f := by simp
theorem yes_ {σ : St} {H : Hp} {R : Bool → Hp → Prop} (h : R true H) : tYes σ H R := h
def retE : Stmt → Expr
  | .Return (some e) _ => e
  | _ => .Name "" ⟨0, 0, 0, 0⟩
def lcSc : Expr → Scope
  | .ListComp _ _ sc _ => sc
  | _ => defScope sMatrix
theorem call_tuple_ofK {X : Cx} {K : PySem.W.Frag} (h : X.K = K) : CallR X (.type "tuple") (fun xs H Q => ∃ p ys, xs = [.ref p] ∧ ((SqL K H p ys ∧ ∀ l, H l = none → Q (.ref l) (upd H l (.tup ys))) ∨ (SqT K H p ys ∧ Q (.ref p) H))) := by
  subst h
  exact call_tuple_of
def relIn (d sc : Scope) : Scope := { sc with names := sc.names.map fun (n, k) => if (k == .free && d.kind == .function && d.names.lookup n == some .cell) then (n, .cell) else (n, k) }
abbrev scMatK : Scope := lcSc (retE ((defBody sMatrix).getD 1 (.Pass ⟨0, 0, 0, 0⟩)))
section
variable {P : Program} {w : World} {K : PySem.W.Frag} {mg : Str → Option Value} {base : Heap}
theorem ok_matrix (T : Txt w K mg) : OkF P w K mg base 2 (ga K "_law_matrix") ["_law_box_here", "_law_p", "_law_high", "_law_wide"] spMatrix := by
  obtain ⟨fT, kT, bT, FT⟩ := ok_take (P := P) (base := base) T
  refine okf_of T.d_law_matrix scMatrix (fun _ _ _ _ _ _ us hl => match us, hl with | [_, _, _, _], _ => rfl) (fun vs H Q E h => ?_) (fun cdv A outer s H vs Q E hr h => ?_)
  · obtain ⟨b, p, ht, wd, n, M, rfl, _⟩ := h
    rfl
  · obtain ⟨b, p, ht, wd, n, M, rfl, hp, hp2, hh, hw, hB, hn, hbM, hT, q⟩ := h
    refine ⟨_, pss_cons (ps_set (i := 4) scMatrix.nd rfl (Or.inr rfl) (pe_op op_add pe_int (pe_call FT hr rfl T.g_law_take kT bT .nil passL (pa_cons (pv 0) (pa_cons pe_int pa_nil)))))
      (pss_one (ps_ret (pe_lc (own := [("_law_k", 5)]) (g := gName 5) (tt := tYes) rfl scMatrix.nd (pi_range1 rfl T.b_range (pa_cons (pv 2) pa_nil)) (blkOk_by (N := nMat) (sc := defScope sMatrix) (by decide +kernel)) (fun _ _ _ _ _ => pg_name (i := 5) scMatrix.nd rfl (Or.inl rfl)) (fun _ _ _ _ _ => pts_nil)
        (fun _ _ _ _ _ => pe_callTy (call_tuple_ofK (K := K) rfl) (by rfl) T.b_tuple bt_tuple (pa_cons (pe_lc (own := [("_law_j", 6)]) (g := gName 6) (tt := tYes) rfl scMatrix.nd (pi_range1 rfl T.b_range (pa_cons (pv 3) pa_nil)) (blkOk_by (N := nMat) (sc := relIn (defScope sMatrix) scMatK) (by decide +kernel)) (fun _ _ _ _ _ => pg_name (i := 6) scMatrix.nd rfl (Or.inl rfl)) (fun _ _ _ _ _ => pts_nil)
          (fun _ _ _ _ _ => pe_op op_mul (pe_call FT hr rfl T.g_law_take kT bT .nil passL (pa_cons (pv 0) (pa_cons (pv 1) pa_nil))) (pe_callTy call_int1 (by rfl) T.b_int bt_int (pa_cons (pe_cmpR op_eq (pe_call FT hr rfl T.g_law_take kT bT .nil passL (pa_cons (pv 0) (pa_cons (pv 4) pa_nil))) pe_int (nomark _)) pa_nil)))) pa_nil))))), ?_⟩
    refine ⟨_, rfl, b, 3, n, rfl, by decide, by decide, hB, by omega, fun d H0 d0 d1 e0 hB0 => ?_⟩
    have hT0 : Tr M H0 := hT.ext e0
    refine ⟨_, _, rfl, rfl, ?_⟩
    refine ⟨_, rfl, (ht : Int), rfl, by omega, by omega, fun D hD => ?_⟩
    have DM : D ∉ M := hT0.no hD
    have Db : b ≠ D := fun z => DM (z ▸ hbM)
    have bM : ∀ x ∈ [b], x ∈ M := fun x hx => by rw [List.mem_singleton.1 hx]; exact hbM
    refine lc_range (lo := 0) (n := ht) (fun i H' => Ext [b] H0 H' ∧ IsBox H' b (n + 1 + 12 * i) ∧ ∃ rs m, H' D = some (.lst (rs.map V.ref)) ∧ m.length = i ∧ (∀ v ∈ m, RowOk p wd v) ∧ Paired (fun r (v : List Int) => im M H' r = some (.tup (v.map V.int))) rs m)
      ⟨Ext.new hD, hB0.upd Db, [], [], upd_same, rfl, (fun v hv => nomatch hv), .nil⟩ (fun i H' hi ⟨e1, hB1, rs, m, hD1, hm, hok, hrs⟩ => ?_) (fun H' ⟨e1, hB1, rs, m, hD1, hm, hok, hrs⟩ => q D m H' ⟨hm, hok⟩ (e0.trans e1) (hB1.more (by omega)) ⟨rs, im_of DM hD1 rfl, hrs⟩)
    refine ⟨rfl, yes_ (iteT ?_)⟩
    refine ⟨_, rfl, (wd : Int), rfl, by omega, by omega, fun L hL => ?_⟩
    have hT1 : Tr M H' := hT0.ext e1
    have LM : L ∉ M := hT1.no hL
    have Lb : b ≠ L := fun z => LM (z ▸ hbM)
    refine lc_range (lo := 0) (n := wd) (fun j H2 => Ext [b] H' H2 ∧ IsBox H2 b (n + 1 + 12 * i + 2 * j) ∧ ∃ v : List Int, H2 L = some (.lst (v.map V.int)) ∧ v.length = j ∧ ∀ x ∈ v, 0 ≤ x ∧ x < p)
      ⟨Ext.new hL, hB1.upd Lb, [], upd_same, rfl, fun x hx => nomatch hx⟩ (fun j H2 hj ⟨e2, hB2, v, hL2, hv, hvo⟩ => ?_) (fun H2 ⟨e2, hB2, v, hL2, hv, hvo⟩ => ?_)
    · refine ⟨rfl, yes_ (iteT ?_)⟩
      refine ⟨_, rfl, _, rfl, b, p, _, rfl, hp, by omega, hB2, by omega, fun x H3 x0 x1 e3 hB3 => ?_⟩
      refine ⟨_, rfl, _, rfl, b, 1 + d, _, rfl, by omega, by omega, hB3, by omega, fun y H4 y0 y1 e4 hB4 => ?_⟩
      refine ⟨rfl, .inr ⟨_, rfl, ?_⟩⟩
      refine ⟨_, _, rfl, rfl, .inl ⟨by omega, by omega⟩, ?_⟩
      have nb : L ∉ [b] := by simpa using Lb.symm
      refine ⟨_, e4.keep _ _ nb (e3.keep _ _ nb hL2), by rw [List.length_map]; exact Nat.lt_of_lt_of_le (show v.length < 1000 by omega) (szl (Nat.le_refl _)), ?_⟩
      refine ⟨((e2.trans e3).trans e4).over hL, (hB4.upd Lb).more (by omega), v ++ [x * (if decide (V.int y = V.int 0) = true then 1 else 0)], by rw [upd_same, List.map_append]; rfl, by simp [hv], fun z hz => ?_⟩
      rcases List.mem_append.1 hz with hz | hz
      · exact hvo z hz
      · rw [List.mem_singleton.1 hz]
        cases decide (V.int y = V.int 0) with
        | true => show 0 ≤ x * 1 ∧ x * 1 < p; omega
        | false => show 0 ≤ x * 0 ∧ x * 0 < p; omega
    · refine ⟨L, _, rfl, .inl ⟨SqL.of hL2, fun t ht => ?_⟩⟩
      have nbD : D ∉ [b] := by simpa using Db.symm
      have hD2 := e2.keep _ _ nbD hD1
      have hT2 : Tr M H2 := hT1.ext e2
      have tD : t ≠ D := fun z => by rw [← z, ht] at hD2; cases hD2
      refine ⟨rs.map V.ref, by rw [upd_ne tD.symm]; exact hD2, by rw [List.length_map, paired_len hrs]; exact Nat.lt_of_lt_of_le (show m.length < 1000 by omega) (szl (Nat.le_refl _)), ?_⟩
      have tM : t ∉ M := hT2.no ht
      refine ⟨((e1.trans e2).trans (Ext.new ht)).over hD, ((hB2.upd (show b ≠ t from fun z => tM (z ▸ hbM))).upd Db).more (by omega), rs ++ [t], m ++ [v], ?_, by simp [hm], fun u hu => ?_, paired_snoc ?_ ?_⟩
      · rw [upd_same]; exact congrArg (fun z => some (HO.lst z)) (map_snoc V.ref rs t)
      · rcases List.mem_append.1 hu with hu | hu
        · exact hok u hu
        · rw [List.mem_singleton.1 hu]; exact ⟨hv, hvo⟩
      · refine Paired.mapP hrs fun r u hr => ?_
        have rD : r ≠ D := fun z => by
          have := im_at hr
          rw [z, hD1] at this
          cases this
        rw [im_upd rD]
        exact (e2.trans (Ext.new ht)).im bM r _ hr
      · rw [im_upd tD]
        exact im_new hT2 ht rfl
end
end Mr

set_option Elab.async false
set_option linter.all false
set_option maxRecDepth 100000
set_option maxHeartbeats 4000000
namespace Mr
open PySem PySem.Spec PyProof.Rows L2 Ru Tx
theorem call_len_seqK {X : Cx} {K : PySem.W.Frag} (h : X.K = K) : CallR X (.builtin "len") (fun xs H Q => ∃ p ys, xs = [.ref p] ∧ (SqL K H p ys ∨ SqT K H p ys) ∧ Q (.int ys.length) H) := by
  subst h
  exact call_len_seq
theorem op_in_kdK {X : Cx} {K : PySem.W.Frag} {w : World} {d : Addr} {es} {n} (h : X.K = K) (hw : X.w = w) (D : KDict K w d es n) : OpR X (compareOp .In) (fun x y H Q => ∃ (z : Str) (r : Option Value), x = .str z ∧ y = .ref d ∧ PySem.W.nsIn K d z = some r ∧ Q (.bl r.isSome) H) := by
  subst h
  subst hw
  exact op_in_kd D
/-- over a text -/
theorem lc_str {x : Str} {g : TG} {tt : TT} {te : TE} {vs : List Nat} {σ : St} {H1 : Hp} {D : Addr} {Qd : Hp → Prop} (Pv : Nat → Hp → Prop) (h0 : Pv 0 (upd H1 D (.lst [])))
    (hs : ∀ i c H, x.cps[i]? = some c → Pv i H → g (.str ⟨#[c]⟩) (wipe σ vs) H fun σ2 H2 => wipe σ2 vs = wipe σ vs ∧ tt σ2 H2 fun b H3 =>
      if b = true then te σ2 H3 fun y H4 => ∃ acc, H4 D = some (.lst acc) ∧ acc.length < sizeLine ∧ Pv (i + 1) (upd H4 D (.lst (acc ++ [y]))) else Pv (i + 1) H3) (hd : ∀ H, Pv x.cps.size H → Qd H) :
    ∃ W : Nat → Nat → Hp → Prop, (∃ m, W 0 m (upd H1 D (.lst []))) ∧ ∀ i m H, W i m H →
      ((Its x).stop i H ∧ Qd H) ∨ ((Its x).go i H ∧ ∃ Nx : Hp → Prop, (∀ H', Nx H' → ∃ m', m' < m ∧ W (i + 1) m' H') ∧ ∀ x' H', (Its x).yld i H x' H' → g x' (wipe σ vs) H' fun σ2 H2 => wipe σ2 vs = wipe σ vs ∧ tt σ2 H2 fun b H3 =>
        if b = true then te σ2 H3 fun y H4 => ∃ acc, H4 D = some (.lst acc) ∧ acc.length < sizeLine ∧ Nx (upd H4 D (.lst (acc ++ [y]))) else Nx H3) := by
  refine ⟨fun i m H => m = x.cps.size - i ∧ i ≤ x.cps.size ∧ Pv i H, ⟨x.cps.size, by simp, Nat.zero_le _, h0⟩, ?_⟩
  rintro i m H ⟨rfl, hi, p⟩
  by_cases hlt : i < x.cps.size
  · refine .inr ⟨hlt, Pv (i + 1), fun H' p' => ⟨x.cps.size - (i + 1), by omega, rfl, hlt, p'⟩, fun x' H' y => ?_⟩
    obtain ⟨e, c, hc, y⟩ := y
    subst e y
    exact hs i c _ hc p
  · have e : i = x.cps.size := by omega
    subst e
    exact .inl ⟨Nat.le_refl _, hd H p⟩
/-! ### a list of True as it grows -/
def AllInv (H0 : Hp) (D : Addr) (i : Nat) (H : Hp) : Prop := Ext [] H0 H ∧ H D = some (.lst ((List.replicate i true).map V.bl))
theorem allInv0 {H0 : Hp} {D : Addr} (h : H0 D = none) : AllInv H0 D 0 (upd H0 D (.lst [])) := ⟨Ext.new h, upd_same⟩
theorem allInv1 {H0 H H4 : Hp} {D : Addr} {i : Nat} (h : H0 D = none) (hi : i < 1000) (a : AllInv H0 D i H) (e : Ext [] H H4) : ∃ acc, H4 D = some (.lst acc) ∧ acc.length < sizeLine ∧ AllInv H0 D (i + 1) (upd H4 D (.lst (acc ++ [.bl true]))) := by
  refine ⟨_, e.keep _ _ (fun z => nomatch z) a.2, by rw [List.length_map, List.length_replicate]; exact Nat.lt_of_lt_of_le hi (szl (Nat.le_refl _)), (a.1.trans e).over h, ?_⟩
  rw [upd_same, List.replicate_succ', List.map_append]
  rfl
theorem allT (n : Nat) : (List.replicate n true).all id = true := by
  rw [List.all_eq_true]
  intro x hx
  exact (List.mem_replicate.1 hx).2
theorem paired_at {α β : Type} {R : α → β → Prop} : ∀ {xs : List α} {ys : List β} {i : Nat} {x : α}, Paired R xs ys → xs[i]? = some x → ∃ y, ys[i]? = some y ∧ R x y
  | _, _, 0, _, .cons a _, h => ⟨_, rfl, by cases h; exact a⟩
  | _, _, i + 1, _, .cons _ r, h => by
    obtain ⟨y, h1, h2⟩ := paired_at (i := i) r (by simpa using h)
    exact ⟨y, by simpa using h1, h2⟩
def cpIn (d : Stmt) (n : Nat) (f : Expr → Expr) : Scope := relIn (defScope d) (lcSc (f (retE ((defBody d).getD n (.Pass ⟨0, 0, 0, 0⟩)))))
/-! ### promises -/
def spIsVector : Sp := fun vs H Q _ => ∃ (t : Addr) (v : List Int), vs = [.ref t] ∧ H t = some (.tup (v.map V.int)) ∧ v.length ≤ 6 ∧ ∀ H', Ext [] H H' → Q (.bl true) H'
def spIsMatrix : Sp := fun vs H Q _ => ∃ (a : Addr) (m : Mat) (h w : Int), vs = [.ref a, .int h, .int w] ∧ IsMat H a m ∧ (m.length : Int) = h ∧ h ≤ 6 ∧ w ≤ 6 ∧ (∀ v ∈ m, (v.length : Int) = w) ∧ ∀ H', Ext [] H H' → Q (.bl true) H'
def spReduced : Sp := fun vs H Q _ => ∃ (p : Int) (t : Addr) (v : List Int), vs = [.int p, .ref t] ∧ 0 < p ∧ H t = some (.tup (v.map V.int)) ∧ v.length ≤ 6 ∧ (∀ x ∈ v, 0 ≤ x ∧ x < p) ∧
  ∀ (r : Addr) (H' : Hp), Ext [] H H' → H r = none → H' r = some (.tup (v.map V.int)) → Q (.ref r) H'
def spReducedRows : Sp := fun vs H Q _ => ∃ (p : Int) (a : Addr) (m : Mat) (M : List Addr), vs = [.int p, .ref a] ∧ 0 < p ∧ IsMat H a m ∧ m.length ≤ 6 ∧ (∀ v ∈ m, v.length ≤ 6 ∧ ∀ x ∈ v, 0 ≤ x ∧ x < p) ∧ Tr M H ∧
  ∀ (b : Addr) (H' : Hp), Ext [] H H' → H b = none → IsMat (im M H') b m → Q (.ref b) H'
/-- arrows by their codes -/
def PatOk (l : List Nat) : Prop := l.length ≤ 6 ∧ ∀ c ∈ l, c = 60 ∨ c = 62
def spIsPattern : Sp := fun vs H Q _ => ∃ l, vs = [.str (pS l)] ∧ PatOk l ∧ ∀ H', Ext [] H H' → Q (.bl true) H'
def spNeedPattern : Sp := fun vs H Q _ => ∃ l, vs = [.str (pS l)] ∧ PatOk l ∧ ∀ H', Ext [] H H' → Q .non H'
def shp (c : Nat) (s t : Int) : Int × Int := if c = 62 then (s, t) else (t, s)
def spShapeOf (K : PySem.W.Frag) : Sp := fun vs H Q _ => ∃ (l : List Nat) (a : Addr) (szs : List Int) (i c : Nat) (s t : Int), vs = [.str (pS l), .ref a, .int i] ∧ PatOk l ∧ (SqL K H a (szs.map V.int) ∨ SqT K H a (szs.map V.int)) ∧ l[i]? = some c ∧ szs[i]? = some s ∧ szs[i + 1]? = some t ∧
  ∀ p H', Ext [] H H' → H' p = some (.tup [.int (shp c s t).1, .int (shp c s t).2]) → Q (.ref p) H'
theorem scIsVector : FnScope ["value", "item"] ["value"] (defScope sIsVector) := ⟨rfl, rfl, rfl, by decide +kernel, rfl, by decide +kernel, by decide +kernel⟩
theorem scIsMatrix : FnScope ["value", "height", "width", "row"] ["value", "height", "width"] (defScope sIsMatrix) := ⟨rfl, rfl, rfl, by decide +kernel, rfl, by decide +kernel, by decide +kernel⟩
theorem scReduced : FnScope ["prime", "vector", "item"] ["prime", "vector"] (defScope sReduced) := ⟨rfl, rfl, rfl, by decide +kernel, rfl, by decide +kernel, by decide +kernel⟩
theorem scReducedRows : FnScope ["prime", "matrix", "row"] ["prime", "matrix"] (defScope sReducedRows) := ⟨rfl, rfl, rfl, by decide +kernel, rfl, by decide +kernel, by decide +kernel⟩
theorem scIsPattern : FnScope ["value", "sign"] ["value"] (defScope sIsPattern) := ⟨rfl, rfl, rfl, by decide +kernel, rfl, by decide +kernel, by decide +kernel⟩
theorem scNeedPattern : FnScope ["pattern"] ["pattern"] (defScope sNeedPattern) := ⟨rfl, rfl, rfl, by decide +kernel, rfl, by decide +kernel, by decide +kernel⟩
theorem scShapeOf : FnScope ["pattern", "sizes", "index"] ["pattern", "sizes", "index"] (defScope sShapeOf) := ⟨rfl, rfl, rfl, by decide +kernel, rfl, by decide +kernel, by decide +kernel⟩
section
variable {P : Program} {w : World} {K : PySem.W.Frag} {mg : Str → Option Value} {base : Heap}
theorem ok_is_vector (T : Txt w K mg) : OkF P w K mg base 2 (ga K "is_vector") ["value"] spIsVector := by
  obtain ⟨fI, kI, bI3, ⟨dI, vI, bI⟩, FI⟩ := ok_is_integer (P := P) (base := base) T
  refine okf_of T.d_is_vector scIsVector (fun _ _ _ _ _ _ us hl => match us, hl with | [_], _ => rfl) (fun vs H Q E h => ?_) (fun cdv A outer s H vs Q E hr h => ?_)
  · obtain ⟨t, v, rfl, _⟩ := h
    rfl
  · obtain ⟨t, v, rfl, ht, hv, q⟩ := h
    refine ⟨_, pss_one (ps_ret (pe_and (pe_callB call_isiT (by rfl) T.b_isinstance bt_isinstance (pa_cons (pv 0) (pa_cons (pe_tup (pa_cons (pe_ty (by rfl) T.b_list bt_list) (pa_cons (pe_ty (by rfl) T.b_tuple bt_tuple) pa_nil))) pa_nil)))
      (pe_one (pe_callB (cr_all rfl) (by rfl) T.b_all bt_all (pa_cons (pe_lc (own := [("item", 1)]) (g := gName 1) (tt := tYes) rfl scIsVector.nd (pi_tup (pv 0)) (blkOk_by (N := ["value", "item"]) (sc := defScope sIsVector) (by decide +kernel)) (fun _ _ _ _ _ => pg_name (i := 1) scIsVector.nd rfl (Or.inl rfl)) (fun _ _ _ _ _ => pts_nil)
        (fun _ _ _ _ _ => pe_call FI hr rfl T.g_is_integer kI bI vI passL (pa_cons (pv 1) pa_nil))) pa_nil))))), ?_⟩
    refine ⟨_, rfl, szl (by decide), fun c hc => ?_⟩
    have h1 := (Ext.new (N := []) (o := .tup [V.ty "list", V.ty "tuple"]) hc)
    have ht1 := h1.keep _ _ (fun z => nomatch z) ht
    refine ⟨.ref t, c, _, _, _, true, rfl, upd_same, clsLT, .base (.tup ht1), kit_t, true, rfl, iteT ?_⟩
    refine ⟨_, rfl, t, rfl, ⟨_, SqT.of ht1⟩, fun D hD => ?_⟩
    refine lc_tup (xs := v.map V.int) (AllInv _ D) (allInv0 hD) (fun i H' _ a => SqT.of (a.1.keep _ _ (fun z => nomatch z) ht1)) (fun i x H' hx a => ?_) (fun H' a => ?_)
    · rw [List.getElem?_map] at hx
      obtain ⟨y, hy, rfl⟩ := Option.map_eq_some_iff.1 hx
      have hi := (List.getElem?_eq_some_iff.1 hy).1
      exact ⟨rfl, yes_ (iteT ⟨_, rfl, y, .non, .non, rfl, .inl rfl, .inl rfl, allInv1 hD (by omega) a (Ext.refl _)⟩)⟩
    · refine ⟨D, _, rfl, SqL.of a.2, ?_⟩
      rw [allT]
      exact q _ (h1.trans a.1)
theorem ok_is_matrix (T : Txt w K mg) : OkF P w K mg base 3 (ga K "is_matrix") ["value", "height", "width"] spIsMatrix := by
  obtain ⟨fI, kI, bI, FI⟩ := ok_is_vector (P := P) (base := base) T
  refine okf_of T.d_is_matrix scIsMatrix (fun _ _ _ _ _ _ us hl => match us, hl with | [_, _, _], _ => rfl) (fun vs H Q E h => ?_) (fun cdv A outer s H vs Q E hr h => ?_)
  · obtain ⟨a, m, ht, wd, rfl, _⟩ := h
    rfl
  · obtain ⟨a, m, ht, wd, rfl, ⟨rs, ha, hrs⟩, hm, hh, hw, hv, q⟩ := h
    refine ⟨_, pss_cons (ps_if (PW.pt (pw_or (pt_not (pt_val (pe_callB call_isiT (by rfl) T.b_isinstance bt_isinstance (pa_cons (pv 0) (pa_cons (pe_tup (pa_cons (pe_ty (by rfl) T.b_list bt_list) (pa_cons (pe_ty (by rfl) T.b_tuple bt_tuple) pa_nil))) pa_nil)))))
        (pw_or1 (pt_cmpR op_ne (pe_callB call_len_seq (by rfl) T.b_len bt_len (pa_cons (pv 0) pa_nil)) (pv 1) (nomark _))))) (pss_one ps_never) pss_nil)
      (pss_one (ps_ret (pe_callB (cr_all rfl) (by rfl) T.b_all bt_all (pa_cons (pe_lc (own := [("row", 3)]) (g := gName 3) (tt := tYes) rfl scIsMatrix.nd (pi_list (pv 0)) (blkOk_by (N := ["value", "height", "width", "row"]) (sc := defScope sIsMatrix) (by decide +kernel)) (fun _ _ _ _ _ => pg_name (i := 3) scIsMatrix.nd rfl (Or.inl rfl)) (fun _ _ _ _ _ => pts_nil)
        (fun _ _ _ _ _ => pe_and (pe_call FI hr rfl T.g_is_vector kI bI .nil passL (pa_cons (pv 3) pa_nil)) (pe_one (pe_cmpR op_eq (pe_callB (call_len_seqK (K := K) rfl) (by rfl) T.b_len bt_len (pa_cons (pv 3) pa_nil)) (pv 2) (nomark _))))) pa_nil)))), ?_⟩
    refine ⟨_, rfl, szl (by decide), fun c hc => ?_⟩
    have h1 := (Ext.new (N := []) (o := .tup [V.ty "list", V.ty "tuple"]) hc)
    have nn : ∀ x : Addr, x ∉ ([] : List Addr) := fun x z => nomatch z
    have ha1 := h1.keep _ _ (nn _) ha
    refine ⟨.ref a, c, _, _, _, true, rfl, upd_same, clsLT, .base (.lst ha1), kit_l, true, rfl, iteF ?_⟩
    refine ⟨_, rfl, a, _, rfl, .inl (SqL.of ha1), _, rfl, rfl, _, rfl, ?_⟩
    have e1 : (V.int ((rs.map V.ref).length : Int)) = V.int ht := by rw [List.length_map, paired_len hrs, hm]
    rw [e1, decide_eq_true rfl]
    refine iteF ?_
    refine ⟨_, rfl, a, rfl, ⟨_, SqL.of ha1⟩, fun D hD => ?_⟩
    refine lc_list (xs := rs.map V.ref) (AllInv _ D) (allInv0 hD) (fun i H' _ a => SqL.of (a.1.keep _ _ (nn _) ha1)) (fun i x H' hx a => ?_) (fun H' a => ?_)
    · rw [List.getElem?_map] at hx
      obtain ⟨y, hy, rfl⟩ := Option.map_eq_some_iff.1 hx
      obtain ⟨v, hv1, hyv⟩ := paired_at hrs hy
      have hi := (List.getElem?_eq_some_iff.1 hy).1
      have vl := hv v (List.mem_of_getElem? hv1)
      have yv := (h1.trans a.1).keep _ _ (nn _) hyv
      have rl := paired_len hrs
      refine ⟨rfl, yes_ (iteT ⟨_, rfl, y, v, rfl, yv, by omega, fun H2 e2 => ⟨true, rfl, iteT ⟨_, rfl, y, _, rfl, .inr (SqT.of (e2.keep _ _ (nn _) yv)), _, rfl, rfl, ?_⟩⟩⟩)⟩
      have e3 : (V.int ((v.map V.int).length : Int)) = V.int wd := by rw [List.length_map, vl]
      rw [e3, decide_eq_true rfl]
      exact allInv1 hD (by omega) a e2
    · refine ⟨D, _, rfl, SqL.of a.2, ?_⟩
      rw [allT]
      exact q _ (h1.trans a.1)
end
end Mr

set_option Elab.async false
set_option linter.all false
set_option maxRecDepth 100000
set_option maxHeartbeats 4000000
namespace Mr
open PySem PySem.Spec PyProof.Rows L2 Ru Tx
theorem notNil {a : Addr} : a ∉ ([] : List Addr) := fun z => nomatch z
section
variable {P : Program} {w : World} {K : PySem.W.Frag} {mg : Str → Option Value} {base : Heap}
theorem ok_reduced (T : Txt w K mg) : OkF P w K mg base 1 (ga K "reduced") ["prime", "vector"] spReduced := by
  refine okf_of T.d_reduced scReduced (fun _ _ _ _ _ _ us hl => match us, hl with | [_, _], _ => rfl) (fun vs H Q E h => ?_) (fun cdv A outer s H vs Q E hr h => ?_)
  · obtain ⟨p, t, v, rfl, _⟩ := h
    rfl
  · obtain ⟨p, t, v, rfl, hp, ht, hv, hx, q⟩ := h
    refine ⟨_, pss_one (ps_ret (pe_callTy call_tuple_of (by rfl) T.b_tuple bt_tuple (pa_cons (pe_lc (own := [("item", 2)]) (g := gName 2) (tt := tYes) rfl scReduced.nd (pi_tup (pv 1)) (blkOk_by (N := ["prime", "vector", "item"]) (sc := defScope sReduced) (by decide +kernel)) (fun _ _ _ _ _ => pg_name (i := 2) scReduced.nd rfl (Or.inl rfl)) (fun _ _ _ _ _ => pts_nil)
        (fun _ _ _ _ _ => pe_op op_mod (pv 2) (pv 0))) pa_nil))), ?_⟩
    refine ⟨_, rfl, t, rfl, ⟨_, SqT.of ht⟩, fun D hD => ?_⟩
    refine lc_tup (xs := v.map V.int) (fun i H' => Ext [] H H' ∧ H' D = some (.lst ((v.take i).map V.int))) ⟨Ext.new hD, upd_same⟩ (fun i H' _ a => SqT.of (a.1.keep _ _ notNil ht)) (fun i x H' hx1 a => ?_) (fun H' a => ?_)
    · rw [List.getElem?_map] at hx1
      obtain ⟨y, hy, rfl⟩ := Option.map_eq_some_iff.1 hx1
      have hi := (List.getElem?_eq_some_iff.1 hy).1
      have hyo := hx y (List.mem_of_getElem? hy)
      refine ⟨rfl, yes_ (iteT ⟨_, rfl, _, rfl, y, p, rfl, rfl, hp, _, a.2, ?_, a.1.over hD, ?_⟩)⟩
      · rw [List.length_map, List.length_take]
        exact Nat.lt_of_lt_of_le (show min i v.length < 1000 by omega) (szl (Nat.le_refl _))
      · rw [upd_same, List.take_succ, hy, List.map_append]
        show some (HO.lst (_ ++ [V.int (y % p)])) = some (HO.lst (_ ++ [V.int y]))
        rw [Int.emod_eq_of_lt hyo.1 hyo.2]
    · have hf : H' D = some (.lst (v.map V.int)) := by rw [a.2, List.length_map, List.take_length]
      refine ⟨D, _, rfl, .inl ⟨SqL.of hf, fun l hl => ?_⟩⟩
      exact q l _ (a.1.trans (Ext.new hl)) (a.1.none_of hl) upd_same
theorem ok_reduced_rows (T : Txt w K mg) : OkF P w K mg base 2 (ga K "reduced_rows") ["prime", "matrix"] spReducedRows := by
  obtain ⟨fI, kI, bI, FI⟩ := ok_reduced (P := P) (base := base) T
  refine okf_of T.d_reduced_rows scReducedRows (fun _ _ _ _ _ _ us hl => match us, hl with | [_, _], _ => rfl) (fun vs H Q E h => ?_) (fun cdv A outer s H vs Q E hr h => ?_)
  · obtain ⟨p, a, m, M, rfl, _⟩ := h
    rfl
  · obtain ⟨p, a, m, M, rfl, hp, ⟨rs, ha, hrs⟩, hm, hx, hT, q⟩ := h
    refine ⟨_, pss_one (ps_ret (pe_lc (own := [("row", 2)]) (g := gName 2) (tt := tYes) rfl scReducedRows.nd (pi_list (pv 1)) (blkOk_by (N := ["prime", "matrix", "row"]) (sc := defScope sReducedRows) (by decide +kernel)) (fun _ _ _ _ _ => pg_name (i := 2) scReducedRows.nd rfl (Or.inl rfl)) (fun _ _ _ _ _ => pts_nil)
        (fun _ _ _ _ _ => pe_call FI hr rfl T.g_reduced kI bI .nil passL (pa_cons (pv 0) (pa_cons (pv 2) pa_nil))))), ?_⟩
    refine ⟨_, rfl, a, rfl, ⟨_, SqL.of ha⟩, fun D hD => ?_⟩
    have DM := hT.no hD
    have rl := paired_len hrs
    refine lc_list (xs := rs.map V.ref) (fun i H' => Ext [] H H' ∧ ∃ ss, H' D = some (.lst (ss.map V.ref)) ∧ Paired (fun r (v : List Int) => im M H' r = some (.tup (v.map V.int))) ss (m.take i)) ⟨Ext.new hD, [], upd_same, .nil⟩ (fun i H' _ a => SqL.of (a.1.keep _ _ notNil ha)) (fun i x H' hx1 a => ?_) (fun H' a => ?_)
    · obtain ⟨e1, ss, hD1, hss⟩ := a
      rw [List.getElem?_map] at hx1
      obtain ⟨y, hy, rfl⟩ := Option.map_eq_some_iff.1 hx1
      obtain ⟨v, hv1, hyv⟩ := paired_at hrs hy
      have hi := (List.getElem?_eq_some_iff.1 hy).1
      obtain ⟨hv6, hvo⟩ := hx v (List.mem_of_getElem? hv1)
      refine ⟨rfl, yes_ (iteT ⟨_, rfl, _, rfl, p, y, v, rfl, hp, e1.keep _ _ notNil hyv, hv6, hvo, fun r H2 e2 hr0 hr => ?_⟩)⟩
      have hD2 := e2.keep _ _ notNil hD1
      have rD : r ≠ D := fun z => by rw [z, hD1] at hr0; cases hr0
      have sl := paired_len hss
      rw [List.length_take] at sl
      refine ⟨_, hD2, by rw [List.length_map, sl]; exact Nat.lt_of_lt_of_le (show min i m.length < 1000 by omega) (szl (Nat.le_refl _)), (e1.trans e2).over hD, ss ++ [r], by rw [upd_same]; exact congrArg (fun z => some (HO.lst z)) (map_snoc V.ref ss r), ?_⟩
      rw [List.take_succ, hv1]
      refine paired_snoc (Paired.mapP hss fun r' u hr' => ?_) ?_
      · have nD : r' ≠ D := fun z => by
          have := im_at hr'
          rw [z, hD1] at this
          cases this
        rw [im_upd nD]
        exact (e2.im (M := M) (fun _ z => nomatch z)) _ _ hr'
      · rw [im_upd rD]
        exact im_of ((hT.ext e1).no hr0) hr rfl
    · obtain ⟨e1, ss, hD1, hss⟩ := a
      rw [List.length_map, rl, List.take_length] at hss
      exact q D H' e1 hD ⟨ss, im_of DM hD1 rfl, hss⟩
theorem pS_len (l : List Nat) : (pS l).length = l.length := rfl
theorem pS_at (l : List Nat) (i : Nat) : (pS l).cps[i]? = l[i]? := by simp [pS]
theorem pS_size (l : List Nat) : (pS l).cps.size = l.length := by simp [pS]
theorem inOther (T : Txt w K mg) {c : Nat} (h : c = 60 ∨ c = 62) : ∃ u, PySem.W.nsIn K (ga K "OTHER") ⟨#[c]⟩ = some (some u) := by
  rcases h with rfl | rfl
  · exact T.k_OTHER2
  · exact T.k_OTHER1
theorem ok_is_pattern (T : Txt w K mg) : OkF P w K mg base 1 (ga K "is_pattern") ["value"] spIsPattern := by
  obtain ⟨tm, gm⟩ := T.i_MA
  obtain ⟨es, n, hO⟩ := T.t_OTHER
  refine okf_of T.d_is_pattern scIsPattern (fun _ _ _ _ _ _ us hl => match us, hl with | [_], _ => rfl) (fun vs H Q E h => ?_) (fun cdv A outer s H vs Q E hr h => ?_)
  · obtain ⟨l, rfl, _⟩ := h
    rfl
  · obtain ⟨l, rfl, ⟨hl, hc⟩, q⟩ := h
    refine ⟨_, pss_one (ps_ret (pe_and (pe_callB call_isi (by rfl) T.b_isinstance bt_isinstance (pa_cons (pv 0) (pa_cons (pe_ty (by rfl) T.b_str bt_str) pa_nil)))
      (pe_and (pe_cmpR op_le (pe_callB call_len_str (by rfl) T.b_len bt_len (pa_cons (pv 0) pa_nil)) (pe_glob (v := .int 6) rfl gm ⟨_, rfl⟩) (nomark _))
       (pe_one (pe_callB (cr_all rfl) (by rfl) T.b_all bt_all (pa_cons (pe_lc (own := [("sign", 1)]) (g := gName 1) (tt := tYes) rfl scIsPattern.nd (pi_str (pv 0)) (blkOk_by (N := ["value", "sign"]) (sc := defScope sIsPattern) (by decide +kernel)) (fun _ _ _ _ _ => pg_name (i := 1) scIsPattern.nd rfl (Or.inl rfl)) (fun _ _ _ _ _ => pts_nil)
        (fun _ _ _ _ _ => pe_cmpR (op_in_kdK rfl rfl hO) (pv 1) (pe_glob (v := .ref (ga K "OTHER")) rfl T.g_OTHER rfl) (by rfl))) pa_nil)))))), ?_⟩
    refine ⟨_, rfl, V.str (pS l), V.ty "str", _, _, _, rfl, .ty _, .base (.str _), kit_ss, true, rfl, iteT ?_⟩
    refine ⟨_, rfl, _, rfl, szl (by rw [pS_len]; omega), _, _, rfl, rfl, _, rfl, ?_⟩
    rw [decide_eq_true (show ((pS l).length : Int) ≤ 6 by rw [pS_len]; omega)]
    refine iteT ⟨_, rfl, pS l, rfl, fun D hD => ?_⟩
    refine lc_str (AllInv _ D) (allInv0 hD) (fun i c H' hx a => ?_) (fun H' a => ?_)
    · rw [pS_at] at hx
      have hi := (List.getElem?_eq_some_iff.1 hx).1
      obtain ⟨u, hu⟩ := inOther T (hc c (List.mem_of_getElem? hx))
      exact ⟨rfl, yes_ (iteT ⟨_, rfl, _, _, rfl, rfl, hu, allInv1 hD (by omega) a (Ext.refl _)⟩)⟩
    · refine ⟨D, _, rfl, SqL.of a.2, ?_⟩
      rw [allT]
      exact q _ a.1
theorem ok_need_pattern (T : Txt w K mg) : OkF P w K mg base 2 (ga K "need_pattern") ["pattern"] spNeedPattern := by
  obtain ⟨fI, kI, bI, FI⟩ := ok_is_pattern (P := P) (base := base) T
  refine okf_of T.d_need_pattern scNeedPattern (fun _ _ _ _ _ _ us hl => match us, hl with | [_], _ => rfl) (fun vs H Q E h => ?_) (fun cdv A outer s H vs Q E hr h => ?_)
  · obtain ⟨l, rfl, _⟩ := h
    rfl
  · obtain ⟨l, rfl, hl, q⟩ := h
    refine ⟨_, pss_one (ps_if (pt_not (pt_val (pe_call FI hr rfl T.g_is_pattern kI bI .nil passL (pa_cons (pv 0) pa_nil)))) (pss_one ps_never) pss_nil), ?_⟩
    exact ⟨_, rfl, l, rfl, hl, fun H' e => ⟨true, rfl, iteF (q H' e)⟩⟩
theorem ok_shape_of (T : Txt w K mg) : OkF P w K mg base 1 (ga K "shape_of") ["pattern", "sizes", "index"] (spShapeOf K) := by
  refine okf_of T.d_shape_of scShapeOf (fun _ _ _ _ _ _ us hl => match us, hl with | [_, _, _], _ => rfl) (fun vs H Q E h => ?_) (fun cdv A outer s H vs Q E hr h => ?_)
  · obtain ⟨l, a, szs, i, c, s, t, rfl, _⟩ := h
    rfl
  · obtain ⟨l, a, szs, i, c, s1, t1, rfl, ⟨hl, hc⟩, hS, h1, h2, h3, q⟩ := h
    refine ⟨_, pss_cons (ps_if (pt_cmpR op_eq (pe_ix ix_str (pv 0) (pv 2) (fun _ _ => rfl)) pe_str (nomark _)) (pss_one (ps_ret (pe_tup (pa_cons (pe_ix ix_seq (pv 1) (pv 2) (fun _ _ => rfl)) (pa_cons (pe_ix ix_seq (pv 1) (pe_op op_add (pv 2) pe_int) (fun _ _ => rfl)) pa_nil))))) pss_nil)
      (pss_one (ps_ret (pe_tup (pa_cons (pe_ix ix_seq (pv 1) (pe_op op_add (pv 2) pe_int) (fun _ _ => rfl)) (pa_cons (pe_ix ix_seq (pv 1) (pv 2) (fun _ _ => rfl)) pa_nil))))), ?_⟩
    have hi := (List.getElem?_eq_some_iff.1 h1).1
    have sl : (pS l).length ≤ sizeLine := szl (by rw [pS_len]; omega)
    have c1 : atI (pS l).cps.toList (i : Int) = some c := atI_nat h1
    have s1' : atI (szs.map V.int) (i : Int) = some (V.int s1) := atI_nat (by rw [List.getElem?_map, h2]; rfl)
    have t1' : atI (szs.map V.int) ((i : Int) + 1) = some (V.int t1) := at_of (j := i + 1) (by omega) (by rw [List.getElem?_map, h3]; rfl)
    have rd : ∀ (j : Int) (v : V) (Q' : VK), atI (szs.map V.int) j = some v → Q' v H → rIx K (.ref a) (.int j) H Q' := fun j v Q' ha k' => by
      rcases hS with hS | hS
      · exact .inl ⟨a, _, j, v, rfl, rfl, hS, ha, k'⟩
      · exact .inr (.inl ⟨a, _, j, v, rfl, rfl, hS, ha, k'⟩)
    refine ⟨_, rfl, _, rfl, _, _, c, rfl, rfl, sl, c1, rfl, _, rfl, ?_⟩
    rcases hc c (List.mem_of_getElem? h1) with rfl | rfl
    · refine iteF ⟨_, rfl, _, rfl, _, _, rfl, rfl, rd _ _ _ t1' ⟨_, rfl, _, rfl, rd _ _ _ s1' ⟨szl (by show 2 ≤ 1000; decide), fun p hp => q p _ (Ext.new hp) upd_same⟩⟩⟩
    · refine iteT ⟨_, rfl, _, rfl, rd _ _ _ s1' ⟨_, rfl, _, rfl, _, _, rfl, rfl, rd _ _ _ t1' ⟨szl (by show 2 ≤ 1000; decide), fun p hp => q p _ (Ext.new hp) upd_same⟩⟩⟩
end
end Mr

set_option Elab.async false
set_option linter.all false
set_option maxRecDepth 100000
set_option maxHeartbeats 4000000
namespace Mr
open PySem PySem.Spec PyProof.Rows L2 Ru Tx
theorem im_in {M : List Addr} {H : Hp} {p : Addr} {o : HO} (h : p ∈ M) : im M (upd H p o) = im M H := by
  funext a
  unfold im
  by_cases z : a ∈ M
  · rw [if_pos z, if_pos z]
  · rw [if_neg z, if_neg z, upd_ne (fun q => z (by rw [q]; exact h))]
theorem im_less {M M' : List Addr} {H : Hp} (h : ∀ x ∈ M, x ∈ M') : Same (im M' H) (im M H) := fun a o e => by
  obtain ⟨e1, e2, e3⟩ := im_some e
  exact im_of (fun z => e2 (h a z)) e1 e3
theorem im_tail {M : List Addr} {H : Hp} {p : Addr} : Same (im (p :: M) H) (im M H) := im_less fun x h => List.mem_cons_of_mem _ h
theorem tr_cons {M : List Addr} {H H' : Hp} {p : Addr} {N : List Addr} (t : Tr M H) (e : Ext N H H') (h : H' p ≠ none) : Tr (p :: M) H' := fun x hx => by
  rcases List.mem_cons.1 hx with hx | hx
  · rw [hx]; exact h
  · exact e.tr x (t x hx)
theorem upd_tr {H : Hp} {p : Addr} {o : HO} : upd H p o p ≠ none := by
  rw [upd_same]
  exact fun z => nomatch z
/-- a new one, put aside -/
theorem im_fresh {M : List Addr} {H : Hp} {p : Addr} {o : HO} (t : Tr M H) (h : H p = none) : Same (im M H) (im (p :: M) (upd H p o)) := fun a u e => by
  obtain ⟨e1, e2, e3⟩ := im_some e
  have n : a ≠ p := ne_of_none e1 h
  exact im_of (by simpa [n] using e2) (by rw [upd_ne n]; exact e1) e3
theorem im_ext {M : List Addr} {H H' : Hp} (e : Ext [] H H') : Same (im M H) (im M H') := e.im fun _ z => nomatch z
def MatI (p h w : Int) (m : Mat) : Prop := (m.length : Int) = h ∧ ∀ v ∈ m, (v.length : Int) = w ∧ ∀ x ∈ v, 0 ≤ x ∧ x < p
structure DrOk (d : Dr) : Prop where
  pat : PatOk d.pat
  pr : isPr d.pr
  szl : d.szs.length = d.pat.length + 1
  szr : ∀ z ∈ d.szs, 0 ≤ z ∧ z ≤ 6
  mpl : d.maps.length = d.pat.length
  mp : ∀ i c s t m, d.pat[i]? = some c → d.szs[i]? = some s → d.szs[i + 1]? = some t → d.maps[i]? = some m → MatI d.pr (shp c s t).1 (shp c s t).2 m
theorem for_enum {K : PySem.W.Frag} {a : Addr} {xs : List V} {g : TG} {tb : TS} {D : Ends} {σ : St} {H : Hp} (Pv : Nat → St → Hp → Prop) (h0 : Pv 0 σ H) (hl : ∀ i σ H, i ≤ xs.length → Pv i σ H → SqL K H a xs)
    (hs : ∀ i x σ H t, xs[i]? = some x → H t = none → Pv i σ H → g (.ref t) σ (upd H t (.tup [.int (i : Nat), x])) fun σ2 H2 => tb { D with nx := Pv (i + 1), ct := Pv (i + 1), bk := D.nx } σ2 H2) (hd : ∀ σ H, Pv xs.length σ H → D.nx σ H) :
    ∃ W : Nat → Nat → St → Hp → Prop, (∃ m, W 0 m σ H) ∧ ∀ i m σ H, W i m σ H →
      ((Ite K a).stop i H ∧ D.nx σ H) ∨ ((Ite K a).go i H ∧ ∃ N : St → Hp → Prop, (∀ σ' H', N σ' H' → ∃ m', m' < m ∧ W (i + 1) m' σ' H') ∧ ∀ x H', (Ite K a).yld i H x H' → g x σ H' fun σ2 H2 => tb { D with nx := N, ct := N, bk := D.nx } σ2 H2) := by
  refine ⟨fun i m σ H => m = xs.length - i ∧ i ≤ xs.length ∧ Pv i σ H, ⟨xs.length, by simp, Nat.zero_le _, h0⟩, ?_⟩
  rintro i m σ H ⟨rfl, hi, p⟩
  have q := hl i σ H hi p
  by_cases hlt : i < xs.length
  · refine .inr ⟨⟨xs, xs[i], q, by simp [hlt]⟩, Pv (i + 1), fun σ' H' p' => ⟨xs.length - (i + 1), by omega, rfl, hlt, p'⟩, fun x H' y => ?_⟩
    obtain ⟨t, z, rfl, ht, rfl, hz⟩ := y
    exact hs i z σ H t (hz xs q) ht p
  · have e : i = xs.length := by omega
    subst e
    exact .inl ⟨⟨xs, q, Nat.le_refl _⟩, hd σ H p⟩
/-- a walk over a list or a tuple, which of them is known -/
def iSq (K : PySem.W.Frag) (b : Bool) (te : TE) : TI := match b with
  | true => iTup K te
  | false => iList K te
theorem pi_sq {X : Cx} {tg e : Expr} {te : TE} (b : Bool) (he : PE X e te) : PI X tg e (iSq X.K b te) := match b with
  | true => pi_tup he
  | false => pi_list he
def Sq (b : Bool) (xs : List V) : HO := match b with
  | true => .tup xs
  | false => .lst xs
def tyn (b : Bool) : Value := match b with
  | true => .type "tuple"
  | false => .type "list"
theorem sq_ty {K : PySem.W.Frag} {H : Hp} {a : Addr} {xs : List V} : ∀ {b : Bool}, H a = some (Sq b xs) → TyX K H (.ref a) (tyn b)
  | true, h => .base (.tup h)
  | false, h => .base (.lst h)
theorem kit_sq {K : PySem.W.Frag} : ∀ {b : Bool}, PySem.W.kitAny K (tyn b) [.type "list", .type "tuple"] = some true
  | true => kit_t
  | false => kit_l
theorem sq_seq {K : PySem.W.Frag} {H : Hp} {a : Addr} {xs : List V} : ∀ {b : Bool}, H a = some (Sq b xs) → SqL K H a xs ∨ SqT K H a xs
  | true, h => .inr (SqT.of h)
  | false, h => .inl (SqL.of h)
def Isq (K : PySem.W.Frag) (b : Bool) (a : Addr) : It := match b with
  | true => Itt K a
  | false => Itl K a
theorem iSq_rd {K : PySem.W.Frag} {i : Nat} {σ : St} {H : Hp} {a : Addr} {xs : List V} {R : It → Hp → Prop} : ∀ {b : Bool}, σ[i]? = some (some (.ref a)) → H a = some (Sq b xs) → R (Isq K b a) H → iSq K b (tVar i) σ H R
  | true, h, e, r => ⟨_, h, a, rfl, ⟨_, SqT.of e⟩, r⟩
  | false, h, e, r => ⟨_, h, a, rfl, ⟨_, SqL.of e⟩, r⟩
theorem lc_sq {K : PySem.W.Frag} {b : Bool} {a : Addr} {xs : List V} {g : TG} {tt : TT} {te : TE} {vs : List Nat} {σ : St} {H1 : Hp} {D : Addr} {Qd : Hp → Prop} (Pv : Nat → Hp → Prop) (h0 : Pv 0 (upd H1 D (.lst []))) (hl : ∀ i H, i ≤ xs.length → Pv i H → H a = some (Sq b xs))
    (hs : ∀ i x H, xs[i]? = some x → Pv i H → g x (wipe σ vs) H fun σ2 H2 => wipe σ2 vs = wipe σ vs ∧ tt σ2 H2 fun b H3 =>
      if b = true then te σ2 H3 fun y H4 => ∃ acc, H4 D = some (.lst acc) ∧ acc.length < sizeLine ∧ Pv (i + 1) (upd H4 D (.lst (acc ++ [y]))) else Pv (i + 1) H3) (hd : ∀ H, Pv xs.length H → Qd H) :
    ∃ W : Nat → Nat → Hp → Prop, (∃ m, W 0 m (upd H1 D (.lst []))) ∧ ∀ i m H, W i m H →
      ((Isq K b a).stop i H ∧ Qd H) ∨ ((Isq K b a).go i H ∧ ∃ Nx : Hp → Prop, (∀ H', Nx H' → ∃ m', m' < m ∧ W (i + 1) m' H') ∧ ∀ x H', (Isq K b a).yld i H x H' → g x (wipe σ vs) H' fun σ2 H2 => wipe σ2 vs = wipe σ vs ∧ tt σ2 H2 fun b H3 =>
        if b = true then te σ2 H3 fun y H4 => ∃ acc, H4 D = some (.lst acc) ∧ acc.length < sizeLine ∧ Nx (upd H4 D (.lst (acc ++ [y]))) else Nx H3) := by
  cases b with
  | true => exact lc_tup Pv h0 (fun i H hi p => SqT.of (hl i H hi p)) hs hd
  | false => exact lc_list Pv h0 (fun i H hi p => SqL.of (hl i H hi p)) hs hd
theorem sq_frz {b : Bool} {xs : List V} : notFrz (Sq b xs) = true := by cases b <;> rfl
abbrev nRow : List Str := ["self", "pattern", "prime", "sizes", "maps", "count", "index", "matrix", "height", "width", "size"]
theorem scRow : FnScope nRow ["self", "pattern", "prime", "sizes", "maps"] (defScope sRowInit) := ⟨rfl, rfl, rfl, by decide +kernel, rfl, by decide +kernel, by decide +kernel⟩
def spRowInit (K : PySem.W.Frag) : Sp := fun vs H Q _ => ∃ (x dx : Addr) (d : Dr) (sA mA : Addr) (b : Bool) (M : List Addr), vs = [.ref x, .str (pS d.pat), .int d.pr, .ref sA, .ref mA] ∧ H x = some (.ins (ga K "Row") dx []) ∧ x ∉ M ∧ Tr M H ∧ DrOk d ∧
  im (x :: M) H sA = some (Sq b (d.szs.map V.int)) ∧ IsMats (im (x :: M) H) mA d.maps ∧ ∀ H', Ext [x] H H' → IsRw (im M H') (ga K "Row") x d → Q .non H'
section
variable {P : Program} {w : World} {K : PySem.W.Frag} {mg : Str → Option Value} {base : Heap}
theorem ok_row_init (T : Txt w K mg) : OkF P w K mg base 4 (ma K "Row" "__init__") ["self", "pattern", "prime", "sizes", "maps"] (spRowInit K) := by
  obtain ⟨fP, kP, bP, FP⟩ := ok_need_pattern (P := P) (base := base) T
  obtain ⟨fN, kN, bN, FN⟩ := ok_need_prime (P := P) (base := base) T
  obtain ⟨fI, kI, bI, _, FI⟩ := ok_is_integer (P := P) (base := base) T
  obtain ⟨fS, kS, bS, FS⟩ := ok_shape_of (P := P) (base := base) T
  obtain ⟨fM, kM, bM, FM⟩ := ok_is_matrix (P := P) (base := base) T
  obtain ⟨fR, kR, bR, FR⟩ := ok_reduced_rows (P := P) (base := base) T
  obtain ⟨tm, gm⟩ := T.i_MS
  refine okf_of T.d_Row_init scRow (fun _ _ _ _ _ _ us hl => match us, hl with | [_, _, _, _, _], _ => rfl) (fun vs H Q E h => ?_) (fun cdv A outer s H vs Q E hr h => ?_)
  · obtain ⟨x, dx, d, sA, mA, b, M, rfl, _⟩ := h
    rfl
  · obtain ⟨x, dx, d, sA, mA, b, M, rfl, hx, xM, hT, hd, hs, hm, q⟩ := h
    have hr1 := hr.mono (show 1 ≤ 3 by decide)
    have hr2 := hr.mono (show 2 ≤ 3 by decide)
    refine ⟨_, pss_cons (ps_expr (pe_call FP hr2 rfl T.g_need_pattern kP bP .nil passL (pa_cons (pv 1) pa_nil)))
      (pss_cons (ps_expr (pe_call FN hr rfl T.g_need_prime kN bN .nil passL (pa_cons (pv 2) pa_nil)))
      (pss_cons (ps_set (i := 5) scRow.nd rfl (Or.inl rfl) (pe_op op_add (pe_callB call_len_str (by rfl) T.b_len bt_len (pa_cons (pv 1) pa_nil)) pe_int))
      (pss_cons (ps_if (PW.pt (pw_or (pt_not (pt_val (pe_callB call_isiT (by rfl) T.b_isinstance bt_isinstance (pa_cons (pv 3) (pa_cons (pe_tup (pa_cons (pe_ty (by rfl) T.b_list bt_list) (pa_cons (pe_ty (by rfl) T.b_tuple bt_tuple) pa_nil))) pa_nil)))))
        (pw_or1 (pt_cmpR op_ne (pe_callB call_len_seq (by rfl) T.b_len bt_len (pa_cons (pv 3) pa_nil)) (pv 5) (nomark _))))) (pss_one ps_never) pss_nil)
      (pss_cons (ps_if (pt_not (pt_val (pe_callB (cr_all rfl) (by rfl) T.b_all bt_all (pa_cons (pe_lc (own := [("size", 10)]) (g := gName 10) (tt := tYes) rfl scRow.nd (pi_sq b (pv 3)) (blkOk_by (N := nRow) (sc := defScope sRowInit) (by decide +kernel)) (fun _ _ _ _ _ => pg_name (i := 10) scRow.nd rfl (Or.inl rfl)) (fun _ _ _ _ _ => pts_nil)
        (fun _ _ _ _ _ => pe_call FI hr1 rfl T.g_is_integer kI bI .nil passL (pa_cons (pv 10) (pa_cons pe_int (pa_cons (pe_glob (v := .int 6) rfl gm ⟨_, rfl⟩) pa_nil))))) pa_nil)))) (pss_one ps_never) pss_nil)
      (pss_cons (ps_if (PW.pt (pw_or (pt_not (pt_val (pe_callB call_isiT (by rfl) T.b_isinstance bt_isinstance (pa_cons (pv 4) (pa_cons (pe_tup (pa_cons (pe_ty (by rfl) T.b_list bt_list) (pa_cons (pe_ty (by rfl) T.b_tuple bt_tuple) pa_nil))) pa_nil)))))
        (pw_or1 (pt_cmpR op_ne (pe_callB call_len_seq (by rfl) T.b_len bt_len (pa_cons (pv 4) pa_nil)) (pe_op op_sub (pv 5) pe_int) (nomark _))))) (pss_one ps_never) pss_nil)
      (pss_cons (ps_for (passes_of rfl) rfl (pi_enum (by rfl) T.b_enumerate (pa_cons (pv 4) pa_nil)) (pg_tup rfl (pgs_cons (pg_name (i := 6) scRow.nd rfl (Or.inl rfl)) (pgs_cons (pg_name (i := 7) scRow.nd rfl (Or.inl rfl)) pgs_nil)))
        (pss_cons (ps_asg (pe_call FS hr1 rfl T.g_shape_of kS bS .nil passL (pa_cons (pv 1) (pa_cons (pv 3) (pa_cons (pv 6) pa_nil)))) (pg_tup rfl (pgs_cons (pg_name (i := 8) scRow.nd rfl (Or.inl rfl)) (pgs_cons (pg_name (i := 9) scRow.nd rfl (Or.inl rfl)) pgs_nil))))
        (pss_one (ps_if (pt_not (pt_val (pe_call FM hr rfl T.g_is_matrix kM bM .nil passL (pa_cons (pv 7) (pa_cons (pv 8) (pa_cons (pv 9) pa_nil)))))) (pss_one ps_never) pss_nil))))
      (pss_cons (ps_fld (pv 0) (pv 1) rfl)
      (pss_cons (ps_fld (pv 0) (pv 2) rfl)
      (pss_cons (ps_fld (pv 0) (pe_callTy call_tuple_of (by rfl) T.b_tuple bt_tuple (pa_cons (pv 3) pa_nil)) rfl)
      (pss_one (ps_fld (pv 0) (pe_lc (own := [("matrix", 7)]) (g := gName 7) (tt := tYes) rfl scRow.nd (pi_list (pv 4)) (blkOk_by (N := nRow) (sc := defScope sRowInit) (by decide +kernel)) (fun _ _ _ _ _ => pg_name (i := 7) scRow.nd rfl (Or.inl rfl)) (fun _ _ _ _ _ => pts_nil)
        (fun _ _ _ _ _ => pe_call FR hr2 rfl T.g_reduced_rows kR bR .nil passL (pa_cons (pv 2) (pa_cons (pv 7) pa_nil)))) rfl))))))))))), ?_⟩
    obtain ⟨mxs, hmA, hmp⟩ := hm
    have kI1 : ∀ {H' : Hp}, Ext [x] H H' → Same (im (x :: M) H) (im (x :: M) H') := fun e => e.im fun y hy => by rw [List.mem_singleton.1 hy]; exact List.mem_cons_self
    have kI0 : ∀ {H' : Hp}, Ext [] H H' → Same (im (x :: M) H) (im (x :: M) H') := fun e => kI1 e.any
    have pl := hd.pat.1
    refine ⟨_, rfl, d.pat, rfl, hd.pat, fun H1 e1 => ?_⟩
    refine ⟨_, rfl, d.pr, rfl, hd.pr, ?_⟩
    refine ⟨_, rfl, _, rfl, szl (by rw [pS_len]; omega), _, _, rfl, rfl, ?_⟩
    refine ⟨_, rfl, szl (by decide), fun c hc => ?_⟩
    have e2 := e1.trans (Ext.new (N := []) (o := .tup [V.ty "list", V.ty "tuple"]) hc)
    generalize hH2 : upd H1 c (.tup [V.ty "list", V.ty "tuple"]) = H2 at e2
    have hc2 : H2 c = some (.tup [V.ty "list", V.ty "tuple"]) := by rw [← hH2]; exact upd_same
    have hs2 := im_at (kI0 e2 _ _ hs)
    refine ⟨.ref sA, c, _, _, _, true, rfl, hc2, clsLT, sq_ty hs2, kit_sq, true, rfl, iteF ?_⟩
    refine ⟨_, rfl, sA, _, rfl, sq_seq hs2, _, rfl, rfl, _, rfl, ?_⟩
    have q1 : (V.int ((d.szs.map V.int).length : Int)) = V.int ((pS d.pat).length + 1) := by rw [List.length_map, hd.szl, pS_len]; rfl
    rw [q1, decide_eq_true rfl]
    refine iteF ?_
    refine iSq_rd (a := sA) (b := b) rfl hs2 (fun D hD => ?_)
    refine lc_sq (b := b) (a := sA) (xs := d.szs.map V.int) (AllInv H2 D) (allInv0 hD) (fun i H' _ a => a.1.keep _ _ notNil hs2) (fun i z H' hz a => ?_) (fun H3 a => ?_)
    · rw [List.getElem?_map] at hz
      obtain ⟨y, hy, rfl⟩ := Option.map_eq_some_iff.1 hz
      have hi := (List.getElem?_eq_some_iff.1 hy).1
      have hyo := hd.szr y (List.mem_of_getElem? hy)
      have lz := hd.szl
      refine ⟨rfl, yes_ (iteT ⟨_, rfl, y, .int 0, .int 6, rfl, .inr ⟨_, rfl⟩, .inr ⟨_, rfl⟩, ?_⟩)⟩
      rw [show (leB (.int 0) y && geB (.int 6) y) = true by simp [leB, geB, hyo]]
      exact allInv1 hD (by omega) a (Ext.refl _)
    have e3 := e2.trans a.1
    refine ⟨D, _, rfl, SqL.of a.2, ?_⟩
    rw [allT]
    refine ⟨true, rfl, iteF ?_⟩
    refine ⟨_, rfl, szl (by decide), fun c' hc' => ?_⟩
    have e4 := e3.trans (Ext.new (N := []) (o := .tup [V.ty "list", V.ty "tuple"]) hc')
    generalize hH4 : upd H3 c' (.tup [V.ty "list", V.ty "tuple"]) = H4 at e4
    have hc4 : H4 c' = some (.tup [V.ty "list", V.ty "tuple"]) := by rw [← hH4]; exact upd_same
    have hm4 := im_at (kI0 e4 _ _ hmA)
    refine ⟨.ref mA, c', _, _, _, true, rfl, hc4, clsLT, .base (.lst hm4), kit_l, true, rfl, iteF ?_⟩
    refine ⟨_, rfl, mA, _, rfl, .inl (SqL.of hm4), _, rfl, _, _, rfl, rfl, rfl, _, rfl, ?_⟩
    have ml := paired_len hmp
    have q2 : (V.int ((mxs.map V.ref).length : Int)) = V.int ((pS d.pat).length + 1 - 1) := by rw [List.length_map, ml, hd.mpl, pS_len]; congr 1; omega
    rw [q2, decide_eq_true rfl]
    refine iteF ?_
    refine ⟨_, rfl, mA, _, rfl, SqL.of hm4, ?_⟩
    refine for_enum (xs := mxs.map V.ref) (fun i σ H' => Ext [] H H' ∧ ∃ v6 v7 v8 v9, σ = [some (.ref x), some (.str (pS d.pat)), some (.int d.pr), some (.ref sA), some (.ref mA), some (.int ((pS d.pat).length + 1)), v6, v7, v8, v9, none])
      ⟨e4, _, _, _, _, rfl⟩ (fun i σ H' _ p => SqL.of (im_at (kI0 p.1 _ _ hmA))) (fun i z σ H5 t hz ht p => ?_) (fun σ H5 p => ?_)
    · obtain ⟨e5, v6, v7, v8, v9, rfl⟩ := p
      rw [List.getElem?_map] at hz
      obtain ⟨y, hy, rfl⟩ := Option.map_eq_some_iff.1 hz
      obtain ⟨m, hm1, hmy⟩ := paired_at hmp hy
      have hi : i < d.pat.length := by have := (List.getElem?_eq_some_iff.1 hy).1; have := hd.mpl; omega
      have lz := hd.szl
      have p1 : d.pat[i]? = some d.pat[i] := List.getElem?_eq_getElem hi
      have p2 : d.szs[i]? = some d.szs[i] := List.getElem?_eq_getElem (by omega)
      have p3 : d.szs[i + 1]? = some d.szs[i + 1] := List.getElem?_eq_getElem (by omega)
      have mo := hd.mp i _ _ _ m p1 p2 p3 hm1
      have z1 := hd.szr _ (List.mem_of_getElem? p2)
      have z2 := hd.szr _ (List.mem_of_getElem? p3)
      have e6 := e5.trans (Ext.new (N := []) (o := .tup [V.int (i : Nat), .ref y]) ht)
      refine ⟨t, _, rfl, SqT.of upd_same, rfl, _, _, rfl, _, _, rfl, rfl, ?_⟩
      refine ⟨_, rfl, _, rfl, _, rfl, d.pat, sA, d.szs, i, _, _, _, rfl, hd.pat, sq_seq (im_at (kI0 e6 _ _ hs)), p1, p2, p3, fun u H6 e7 hu => ?_⟩
      refine ⟨u, _, rfl, SqT.of hu, rfl, _, _, rfl, _, _, rfl, rfl, ?_⟩
      have e8 := e6.trans e7
      have sh : (shp d.pat[i] d.szs[i] d.szs[i + 1]).1 ≤ 6 ∧ (shp d.pat[i] d.szs[i] d.szs[i + 1]).2 ≤ 6 := by
        unfold shp
        split
        · exact ⟨z1.2, z2.2⟩
        · exact ⟨z2.2, z1.2⟩
      refine ⟨_, rfl, _, rfl, _, rfl, y, m, _, _, rfl, (hmy.mono (kI0 e8)).mono (fun _ _ h => im_at h), mo.1, sh.1, sh.2, fun v hv => (mo.2 v hv).1, fun H7 e9 => ⟨true, rfl, iteF ?_⟩⟩
      exact ⟨e8.trans e9, _, _, _, _, rfl⟩
    · obtain ⟨e5, v6, v7, v8, v9, rfl⟩ := p
      have hx5 := e5.keep _ _ notNil hx
      refine ⟨_, rfl, _, rfl, x, _, dx, _, rfl, hx5, T.cl_Row, T.n_Row_own_pattern, by decide, ?_⟩
      refine ⟨_, rfl, _, rfl, x, _, dx, _, rfl, upd_same, T.cl_Row, T.n_Row_own_prime, (by show 1 < 1000; decide), ?_⟩
      have ka : ∀ {H' : Hp} {o : HO}, Ext [x] H H' → Ext [x] H (upd H' x o) := fun e => e.trans (Ext.put (by simp))
      have e6 : Ext [x] H (upd (upd H5 x (.ins (ga K "Row") dx [("own_pattern", .str (pS d.pat))])) x (.ins (ga K "Row") dx [("own_pattern", .str (pS d.pat)), ("own_prime", .int d.pr)])) := ka (ka e5.any)
      generalize hH6 : (upd (upd H5 x (.ins (ga K "Row") dx [("own_pattern", .str (pS d.pat))])) x (.ins (ga K "Row") dx [("own_pattern", .str (pS d.pat)), ("own_prime", .int d.pr)])) = H6 at e6
      have hx6 : H6 x = some (.ins (ga K "Row") dx [("own_pattern", .str (pS d.pat)), ("own_prime", .int d.pr)]) := by rw [← hH6]; exact upd_same
      have xx : x ∈ x :: M := List.mem_cons_self
      have hT6 : Tr (x :: M) H6 := tr_cons hT e6 (by rw [hx6]; exact fun z => nomatch z)
      have hs6 := kI1 e6 _ _ hs
      -- tuple(sizes)
      have fin : ∀ (tA : Addr) (H7 : Hp), Ext [] H6 H7 → im (x :: M) H7 tA = some (.tup (d.szs.map V.int)) → sFld K (tVar 0) (tLc (iList K (tVar 4)) (gName 7) tYes (tCall spReducedRows [] E0 (tCons (tVar 2) (tCons (tVar 7) tNil))) ([("own_maps", 7)].map (·.2))) "own_maps" { nx := fun _ H' => Q .non H', rt := Q } [some (.ref x), some (.str (pS d.pat)), some (.int d.pr), some (.ref sA), some (.ref mA), some (.int ((pS d.pat).length + 1)), v6, v7, v8, v9, none] (upd H7 x (.ins (ga K "Row") dx [("own_pattern", .str (pS d.pat)), ("own_prime", .int d.pr), ("own_sizes", .ref tA)])) := fun tA H7 e7 htA => by
        have e8 : Ext [x] H6 (upd H7 x (.ins (ga K "Row") dx [("own_pattern", .str (pS d.pat)), ("own_prime", .int d.pr), ("own_sizes", .ref tA)])) := e7.any.trans (Ext.put (by simp))
        have i8 : im (x :: M) (upd H7 x (.ins (ga K "Row") dx [("own_pattern", .str (pS d.pat)), ("own_prime", .int d.pr), ("own_sizes", .ref tA)])) = im (x :: M) H7 := im_in xx
        generalize hH8 : upd H7 x (.ins (ga K "Row") dx [("own_pattern", .str (pS d.pat)), ("own_prime", .int d.pr), ("own_sizes", .ref tA)]) = H8 at e8 i8 ⊢
        have hx8 : H8 x = some (.ins (ga K "Row") dx [("own_pattern", .str (pS d.pat)), ("own_prime", .int d.pr), ("own_sizes", .ref tA)]) := by rw [← hH8]; exact upd_same
        have hT8 : Tr (x :: M) H8 := hT6.ext e8
        have e08 := e6.trans e8
        have hm8 := im_at (kI1 e08 _ _ hmA)
        refine ⟨_, rfl, mA, rfl, ⟨_, SqL.of hm8⟩, fun D hD => ?_⟩
        have DM := hT8.no hD
        refine lc_list (xs := mxs.map V.ref) (fun i H' => Ext [] H8 H' ∧ Tr (D :: x :: M) H' ∧ ∃ bs, H' D = some (.lst (bs.map V.ref)) ∧ Paired (IsMat (im (D :: x :: M) H')) bs (d.maps.take i)) ⟨Ext.new hD, tr_cons hT8 (Ext.new (N := []) hD) upd_tr, [], upd_same, .nil⟩
          (fun i H' _ p => SqL.of (p.1.keep _ _ notNil hm8)) (fun i z H' hz p => ?_) (fun H' p => ?_)
        · obtain ⟨e9, hT9, bs, hD9, hbs⟩ := p
          rw [List.getElem?_map] at hz
          obtain ⟨y, hy, rfl⟩ := Option.map_eq_some_iff.1 hz
          obtain ⟨m, hm1, hmy⟩ := paired_at hmp hy
          have hi : i < d.pat.length := by have := (List.getElem?_eq_some_iff.1 hy).1; have := hd.mpl; omega
          have lz := hd.szl
          have p2 : d.szs[i]? = some d.szs[i] := List.getElem?_eq_getElem (by omega)
          have p3 : d.szs[i + 1]? = some d.szs[i + 1] := List.getElem?_eq_getElem (by omega)
          have mo := hd.mp i _ _ _ m (List.getElem?_eq_getElem hi) p2 p3 hm1
          have z1 := hd.szr _ (List.mem_of_getElem? p2)
          have z2 := hd.szr _ (List.mem_of_getElem? p3)
          have sh : (shp d.pat[i] d.szs[i] d.szs[i + 1]).1 ≤ 6 ∧ (shp d.pat[i] d.szs[i] d.szs[i + 1]).2 ≤ 6 := by
            unfold shp
            split
            · exact ⟨z1.2, z2.2⟩
            · exact ⟨z2.2, z1.2⟩
          have m1 := mo.1
          refine ⟨rfl, yes_ (iteT ⟨_, rfl, _, rfl, d.pr, y, m, D :: x :: M, rfl, by have := hd.pr.pos; omega, (hmy.mono (kI1 (e08.trans e9.any))).mono (fun _ _ h => im_at h), by omega, fun v hv => ⟨by have := (mo.2 v hv).1; omega, (mo.2 v hv).2⟩, hT9, fun b' H10 e10 hb0 hb' => ?_⟩)⟩
          have bl := paired_len hbs
          rw [List.length_take] at bl
          refine ⟨_, e10.keep _ _ notNil hD9, by rw [List.length_map, bl]; exact Nat.lt_of_lt_of_le (show min i d.maps.length < 1000 by omega) (szl (Nat.le_refl _)), (e9.trans e10).over hD, ?_, bs ++ [b'], by rw [upd_same]; exact congrArg (fun z => some (HO.lst z)) (map_snoc V.ref bs b'), ?_⟩
          · exact (hT9.ext e10).ext (Ext.put (N := [D]) (by simp))
          · rw [List.take_succ, hm1, im_in List.mem_cons_self]
            exact paired_snoc (Paired.mapP hbs fun _ _ h => h.mono (im_ext e10)) hb'
        · obtain ⟨e9, hT9, bs, hD9, hbs⟩ := p
          rw [List.length_map, ml, List.take_length] at hbs
          have hx9 := e9.keep _ _ notNil hx8
          refine ⟨_, rfl, x, _, dx, _, rfl, hx9, T.cl_Row, T.n_Row_own_maps, (by show 3 < 1000; decide), ?_⟩
          refine q _ (ka (e08.trans e9.any)) ⟨dx, tA, D, im_of xM upd_same rfl, ?_, bs, ?_, ?_⟩
          · have := im_ext e9 _ _ (show im (x :: M) H8 tA = _ by rw [i8]; exact htA)
            exact im_tail _ _ (by rw [im_in xx]; exact this)
          · exact im_tail _ _ (by rw [im_in xx]; exact im_of DM hD9 rfl)
          · exact Paired.mapP hbs fun _ _ h => h.mono fun a o e => im_tail _ _ (by rw [im_in xx]; exact im_tail _ _ e)
      subst hH6
      cases b with
      | true =>
        refine ⟨_, rfl, sA, _, rfl, .inr ⟨SqT.of (im_at hs6), ?_⟩⟩
        exact ⟨_, rfl, x, _, dx, _, rfl, hx6, T.cl_Row, T.n_Row_own_sizes, (by show 2 < 1000; decide), fin sA _ (Ext.refl _) hs6⟩
      | false =>
        refine ⟨_, rfl, sA, _, rfl, .inl ⟨SqL.of (im_at hs6), fun l hl => ?_⟩⟩
        have e7 := Ext.new (N := []) (o := .tup (d.szs.map V.int)) hl
        exact ⟨_, rfl, x, _, dx, _, rfl, e7.keep _ _ notNil hx6, T.cl_Row, T.n_Row_own_sizes, (by show 2 < 1000; decide), fin l _ e7 (im_new hT6 hl rfl)⟩
end
end Mr

set_option Elab.async false
set_option linter.all false
set_option maxRecDepth 100000
set_option maxHeartbeats 4000000
namespace Mr
open PySem PySem.Spec PyProof.Rows L2 Ru Tx
theorem call_list_ofK {X : Cx} {K : PySem.W.Frag} (h : X.K = K) : CallR X (.type "list") (fun xs H Q => ∃ p ys, xs = [.ref p] ∧ (SqL K H p ys ∨ SqT K H p ys) ∧ ∀ l, H l = none → Q (.ref l) (upd H l (.lst ys))) := by
  subst h
  exact call_list_of
/-- a getter -/
def spGet (C : Addr) (f : Str) : Sp := fun vs H Q _ => ∃ a dx fs v, vs = [.ref a] ∧ H a = some (.ins C dx fs) ∧ fs.lookup f = some v ∧ Q v H
theorem scRowPattern : FnScope ["self"] ["self"] (defScope sRowPattern) := ⟨rfl, rfl, rfl, by decide +kernel, rfl, by decide +kernel, by decide +kernel⟩
theorem scRowPrime : FnScope ["self"] ["self"] (defScope sRowPrime) := ⟨rfl, rfl, rfl, by decide +kernel, rfl, by decide +kernel, by decide +kernel⟩
theorem scRowSizes : FnScope ["self"] ["self"] (defScope sRowSizes) := ⟨rfl, rfl, rfl, by decide +kernel, rfl, by decide +kernel, by decide +kernel⟩
theorem scRowMaps : FnScope ["self", "matrix"] ["self"] (defScope sRowMaps) := ⟨rfl, rfl, rfl, by decide +kernel, rfl, by decide +kernel, by decide +kernel⟩
theorem scRowPart : FnScope ["self", "first", "last", "sizes"] ["self", "first", "last"] (defScope sRowPart) := ⟨rfl, rfl, rfl, by decide +kernel, rfl, by decide +kernel, by decide +kernel⟩
theorem scNeedArrow : FnScope ["pattern", "arrow"] ["pattern", "arrow"] (defScope sNeedArrow) := ⟨rfl, rfl, rfl, by decide +kernel, rfl, by decide +kernel, by decide +kernel⟩
theorem scNeedPlaceSize : FnScope ["size"] ["size"] (defScope sNeedPlaceSize) := ⟨rfl, rfl, rfl, by decide +kernel, rfl, by decide +kernel, by decide +kernel⟩
theorem scGrown : FnScope ["row", "arrow", "size", "matrix"] ["row", "arrow", "size", "matrix"] (defScope sGrown) := ⟨rfl, rfl, rfl, by decide +kernel, rfl, by decide +kernel, by decide +kernel⟩
def spRowMaps (K : PySem.W.Frag) : Sp := fun vs H Q _ => ∃ (a : Addr) (d : Dr) (M : List Addr), vs = [.ref a] ∧ IsRw (im M H) (ga K "Row") a d ∧ Tr M H ∧ d.maps.length ≤ 6 ∧ ∀ b H', Ext [] H H' → H b = none → IsMats (im M H') b d.maps → Q (.ref b) H'
/-- from place 1 on -/
def cutD (d : Dr) : Dr := ⟨d.pat.drop 1, d.pr, d.szs.drop 1, d.maps.drop 1⟩
def growD (d : Dr) (c : Nat) (z : Int) (m : Mat) : Dr := ⟨d.pat ++ [c], d.pr, d.szs ++ [z], d.maps ++ [m]⟩
def spRowPart (K : PySem.W.Frag) : Sp := fun vs H Q _ => ∃ (a : Addr) (d : Dr) (M : List Addr), vs = [.ref a, .int 1, .int d.pat.length] ∧ IsRw (im M H) (ga K "Row") a d ∧ Tr M H ∧ DrOk d ∧ 1 ≤ d.pat.length ∧
  ∀ x H', Ext [] H H' → H x = none → IsRw (im M H') (ga K "Row") x (cutD d) → Q (.ref x) H'
def spNeedArrow : Sp := fun vs H Q _ => ∃ (l : List Nat) (c : Nat), vs = [.str (pS l), .str (pS [c])] ∧ (c = 60 ∨ c = 62) ∧ l.length < 6 ∧ ∀ H', Ext [] H H' → Q .non H'
def spNeedPlaceSize : Sp := fun vs H Q _ => ∃ z : Int, vs = [.int z] ∧ 0 ≤ z ∧ z ≤ 6 ∧ Q .non H
def spGrown (K : PySem.W.Frag) : Sp := fun vs H Q _ => ∃ (a mA : Addr) (d : Dr) (c : Nat) (z : Int) (m : Mat) (M : List Addr), vs = [.ref a, .str (pS [c]), .int z, .ref mA] ∧ IsRw (im M H) (ga K "Row") a d ∧ Tr M H ∧ IsMat (im M H) mA m ∧ DrOk (growD d c z m) ∧
  ∀ x H', Ext [] H H' → H x = none → IsRw (im M H') (ga K "Row") x (growD d c z m) → Q (.ref x) H'
theorem cut_ok {d : Dr} (h : DrOk d) (h1 : 1 ≤ d.pat.length) : DrOk (cutD d) where
  pat := ⟨by show (d.pat.drop 1).length ≤ 6; have := h.pat.1; rw [List.length_drop]; omega, fun c hc => h.pat.2 c (List.mem_of_mem_drop hc)⟩
  pr := h.pr
  szl := by show (d.szs.drop 1).length = (d.pat.drop 1).length + 1; have := h.szl; rw [List.length_drop, List.length_drop]; omega
  szr := fun z hz => h.szr z (List.mem_of_mem_drop hz)
  mpl := by show (d.maps.drop 1).length = (d.pat.drop 1).length; have := h.mpl; rw [List.length_drop, List.length_drop]; omega
  mp := fun i c s t m a1 a2 a3 a4 => h.mp (1 + i) c s t m (by have := a1; rwa [show (cutD d).pat = d.pat.drop 1 from rfl, List.getElem?_drop] at this) (by have := a2; rwa [show (cutD d).szs = d.szs.drop 1 from rfl, List.getElem?_drop] at this)
    (by have := a3; rwa [show (cutD d).szs = d.szs.drop 1 from rfl, List.getElem?_drop] at this) (by have := a4; rwa [show (cutD d).maps = d.maps.drop 1 from rfl, List.getElem?_drop] at this)
theorem cutV_tail {xs : List V} (h : 1 ≤ xs.length) : cutV xs (some 1) none = xs.drop 1 := by
  unfold cutV
  rw [show (some (1 : Int)) = some ((1 : Nat) : Int) from rfl, HT.sIx_nat, HT.sIx_none, Nat.min_eq_left h, List.take_of_length_le (by rw [List.length_drop]; omega)]
theorem cutV_to {xs : List V} {n : Nat} (h : 1 ≤ xs.length) (hn : n = xs.length) : cutV xs (some 1) (some (n : Int)) = xs.drop 1 := by
  unfold cutV
  rw [show (some (1 : Int)) = some ((1 : Nat) : Int) from rfl, HT.sIx_nat, HT.sIx_nat, Nat.min_eq_left h, hn, Nat.min_self, List.take_of_length_le (by rw [List.length_drop]; omega)]
theorem cutS_tail {l : List Nat} (h : 1 ≤ l.length) : cutS (pS l) (some 1) none = pS (l.drop 1) := by
  unfold cutS
  rw [show (some (1 : Int)) = some ((1 : Nat) : Int) from rfl, HT.sIx_nat, HT.sIx_none, pS_len, Nat.min_eq_left h]
  show Str.mk ((List.drop 1 l).take (l.length - 1)).toArray = _
  rw [List.take_of_length_le (by rw [List.length_drop]; omega)]
  rfl
theorem cutS_to {l : List Nat} (h : 1 ≤ l.length) : cutS (pS l) (some 1) (some (l.length : Int)) = pS (l.drop 1) := by
  unfold cutS
  rw [show (some (1 : Int)) = some ((1 : Nat) : Int) from rfl, HT.sIx_nat, HT.sIx_nat, pS_len, Nat.min_eq_left h, Nat.min_self]
  show Str.mk ((List.drop 1 l).take (l.length - 1)).toArray = _
  rw [List.take_of_length_le (by rw [List.length_drop]; omega)]
  rfl
section
variable {P : Program} {w : World} {K : PySem.W.Frag} {mg : Str → Option Value} {base : Heap}
theorem ok_row_pattern (T : Txt w K mg) : OkF P w K mg base 1 (pg K "Row" "pattern") ["self"] (spGet (ga K "Row") "own_pattern") := by
  refine okf_of T.d_Row_pattern scRowPattern (fun _ _ _ _ _ _ us hl => match us, hl with | [_], _ => rfl) (fun vs H Q E h => ?_) (fun cdv A outer s H vs Q E hr h => ?_)
  · obtain ⟨a, dx, fs, v, rfl, _⟩ := h
    rfl
  · obtain ⟨a, dx, fs, v, rfl, ha, hl, q⟩ := h
    exact ⟨_, pss_one (ps_ret (pe_fld (pv 0) rfl)), _, rfl, a, _, dx, fs, v, rfl, ha, T.cl_Row, T.n_Row_own_pattern, hl, q⟩
theorem ok_row_prime (T : Txt w K mg) : OkF P w K mg base 1 (pg K "Row" "prime") ["self"] (spGet (ga K "Row") "own_prime") := by
  refine okf_of T.d_Row_prime scRowPrime (fun _ _ _ _ _ _ us hl => match us, hl with | [_], _ => rfl) (fun vs H Q E h => ?_) (fun cdv A outer s H vs Q E hr h => ?_)
  · obtain ⟨a, dx, fs, v, rfl, _⟩ := h
    rfl
  · obtain ⟨a, dx, fs, v, rfl, ha, hl, q⟩ := h
    exact ⟨_, pss_one (ps_ret (pe_fld (pv 0) rfl)), _, rfl, a, _, dx, fs, v, rfl, ha, T.cl_Row, T.n_Row_own_prime, hl, q⟩
theorem ok_row_sizes (T : Txt w K mg) : OkF P w K mg base 1 (pg K "Row" "sizes") ["self"] (spGet (ga K "Row") "own_sizes") := by
  refine okf_of T.d_Row_sizes scRowSizes (fun _ _ _ _ _ _ us hl => match us, hl with | [_], _ => rfl) (fun vs H Q E h => ?_) (fun cdv A outer s H vs Q E hr h => ?_)
  · obtain ⟨a, dx, fs, v, rfl, _⟩ := h
    rfl
  · obtain ⟨a, dx, fs, v, rfl, ha, hl, q⟩ := h
    exact ⟨_, pss_one (ps_ret (pe_fld (pv 0) rfl)), _, rfl, a, _, dx, fs, v, rfl, ha, T.cl_Row, T.n_Row_own_sizes, hl, q⟩
theorem ok_row_maps (T : Txt w K mg) : OkF P w K mg base 1 (ma K "Row" "maps") ["self"] (spRowMaps K) := by
  refine okf_of T.d_Row_maps scRowMaps (fun _ _ _ _ _ _ us hl => match us, hl with | [_], _ => rfl) (fun vs H Q E h => ?_) (fun cdv A outer s H vs Q E hr h => ?_)
  · obtain ⟨a, d, M, rfl, _⟩ := h
    rfl
  · obtain ⟨a, d, M, rfl, ⟨dx, tA, mA, ha, _, bs, hb, hbs⟩, hT, hl, q⟩ := h
    refine ⟨_, pss_one (ps_ret (pe_lc (own := [("matrix", 1)]) (g := gName 1) (tt := tYes) rfl scRowMaps.nd (pi_list (pe_fld (pv 0) rfl)) (blkOk_by (N := ["self", "matrix"]) (sc := defScope sRowMaps) (by decide +kernel)) (fun _ _ _ _ _ => pg_name (i := 1) scRowMaps.nd rfl (Or.inl rfl)) (fun _ _ _ _ _ => pts_nil)
        (fun _ _ _ _ _ => pe_callTy (call_list_ofK (K := K) rfl) (by rfl) T.b_list bt_list (pa_cons (pv 1) pa_nil)))), ?_⟩
    have bl := paired_len hbs
    refine ⟨_, rfl, a, _, dx, _, .ref mA, rfl, im_at ha, T.cl_Row, T.n_Row_own_maps, rfl, mA, rfl, ⟨_, SqL.of (im_at hb)⟩, fun D hD => ?_⟩
    have DM := hT.no hD
    refine lc_list (xs := bs.map V.ref) (fun i H' => Ext [] H H' ∧ Tr (D :: M) H' ∧ ∃ cs, H' D = some (.lst (cs.map V.ref)) ∧ Paired (IsMat (im (D :: M) H')) cs (d.maps.take i)) ⟨Ext.new hD, tr_cons hT (Ext.new (N := []) hD) upd_tr, [], upd_same, .nil⟩
      (fun i H' _ p => SqL.of (p.1.keep _ _ notNil (im_at hb))) (fun i z H' hz p => ?_) (fun H' p => ?_)
    · obtain ⟨e9, hT9, cs, hD9, hcs⟩ := p
      rw [List.getElem?_map] at hz
      obtain ⟨y, hy, rfl⟩ := Option.map_eq_some_iff.1 hz
      obtain ⟨m, hm1, rs, hyl, hrs⟩ := paired_at hbs hy
      have hi := (List.getElem?_eq_some_iff.1 hy).1
      have cl := paired_len hcs
      rw [List.length_take] at cl
      refine ⟨rfl, yes_ (iteT ⟨_, rfl, y, _, rfl, .inl (SqL.of (e9.keep _ _ notNil (im_at hyl))), fun l hl9 => ?_⟩)⟩
      have lD : l ≠ D := fun z => by rw [← z, hl9] at hD9; cases hD9
      refine ⟨_, by rw [upd_ne lD.symm]; exact hD9, by rw [List.length_map, cl]; exact Nat.lt_of_lt_of_le (show min i d.maps.length < 1000 by omega) (szl (Nat.le_refl _)), (e9.trans (Ext.new hl9)).over hD, ?_, cs ++ [l], by rw [upd_same]; exact congrArg (fun z => some (HO.lst z)) (map_snoc V.ref cs l), ?_⟩
      · exact (hT9.ext (Ext.new (N := []) hl9)).ext (Ext.put (N := [D]) (by simp))
      · rw [List.take_succ, hm1, im_in List.mem_cons_self]
        refine paired_snoc (Paired.mapP hcs fun _ _ h => h.mono (im_ext (Ext.new hl9))) ⟨rs, im_new hT9 hl9 rfl, Paired.mapP hrs fun r v hr' => ?_⟩
        have rD : r ≠ D := ne_of_none (im_at hr') hD
        obtain ⟨r1, r2, r3⟩ := im_some hr'
        refine im_of (by simpa [rD] using r2) ((e9.trans (Ext.new hl9)).keep _ _ notNil r1) rfl
    · obtain ⟨e9, hT9, cs, hD9, hcs⟩ := p
      rw [List.length_map, bl, List.take_length] at hcs
      exact q D H' e9 hD ⟨cs, im_of DM hD9 rfl, Paired.mapP hcs fun _ _ h => h.mono im_tail⟩
theorem ok_need_arrow (T : Txt w K mg) : OkF P w K mg base 1 (ga K "need_arrow") ["pattern", "arrow"] spNeedArrow := by
  obtain ⟨tm, gm⟩ := T.i_MA
  refine okf_of T.d_need_arrow scNeedArrow (fun _ _ _ _ _ _ us hl => match us, hl with | [_, _], _ => rfl) (fun vs H Q E h => ?_) (fun cdv A outer s H vs Q E hr h => ?_)
  · obtain ⟨l, c, rfl, _⟩ := h
    rfl
  · obtain ⟨l, c, rfl, hc, hl, q⟩ := h
    refine ⟨_, pss_cons (ps_if (PW.pt (pw_or (pt_not (pt_val (pe_callB call_isi (by rfl) T.b_isinstance bt_isinstance (pa_cons (pv 1) (pa_cons (pe_ty (by rfl) T.b_str bt_str) pa_nil)))))
        (pw_or1 (pt_cmpR op_notIn_seq (pv 1) (pe_tup (pa_cons pe_str (pa_cons pe_str pa_nil))) (by rfl))))) (pss_one ps_never) pss_nil)
      (pss_one (ps_if (pt_cmpR op_eq (pe_callB call_len_str (by rfl) T.b_len bt_len (pa_cons (pv 0) pa_nil)) (pe_glob (v := .int 6) rfl gm ⟨_, rfl⟩) (nomark _)) (pss_one ps_never) pss_nil)), ?_⟩
    refine ⟨_, rfl, V.str _, V.ty "str", _, _, _, rfl, .ty _, .base (.str _), kit_ss, true, rfl, iteF ?_⟩
    refine ⟨_, rfl, szl (by decide), fun t ht => ?_⟩
    refine ⟨t, _, rfl, .inr (SqT.of upd_same), rfl, by decide, false, ?_, ?_⟩
    · rcases hc with rfl | rfl <;> decide
    refine iteF ⟨_, rfl, _, rfl, szl (by rw [pS_len]; omega), rfl, _, rfl, ?_⟩
    rw [decide_eq_false (show ¬ V.int ((pS l).length : Int) = V.int 6 from fun z => by have := V.int.inj z; rw [pS_len] at this; omega)]
    exact iteF (q _ (Ext.new ht))
theorem ok_need_place_size (T : Txt w K mg) : OkF P w K mg base 2 (ga K "need_place_size") ["size"] spNeedPlaceSize := by
  obtain ⟨fI, kI, bI, _, FI⟩ := ok_is_integer (P := P) (base := base) T
  obtain ⟨tm, gm⟩ := T.i_MS
  refine okf_of T.d_need_place_size scNeedPlaceSize (fun _ _ _ _ _ _ us hl => match us, hl with | [_], _ => rfl) (fun vs H Q E h => ?_) (fun cdv A outer s H vs Q E hr h => ?_)
  · obtain ⟨z, rfl, _⟩ := h
    rfl
  · obtain ⟨z, rfl, h0, h1, q⟩ := h
    refine ⟨_, pss_one (ps_if (pt_not (pt_val (pe_call FI hr rfl T.g_is_integer kI bI .nil passL (pa_cons (pv 0) (pa_cons pe_int (pa_cons (pe_glob (v := .int 6) rfl gm ⟨_, rfl⟩) pa_nil)))))) (pss_one ps_never) pss_nil), ?_⟩
    refine ⟨_, rfl, z, .int 0, .int 6, rfl, .inr ⟨_, rfl⟩, .inr ⟨_, rfl⟩, true, ?_, iteF q⟩
    rw [show (leB (.int 0) z && geB (.int 6) z) = true by simp [leB, geB, h0, h1]]
end
end Mr

set_option Elab.async false
set_option linter.all false
set_option maxRecDepth 100000
set_option maxHeartbeats 4000000
namespace Mr
open PySem PySem.Spec PyProof.Rows L2 Ru Tx
theorem Ext.drop {N : List Addr} {H H' : Hp} {x : Addr} (e : Ext (x :: N) H H') (h : H x = none) : Ext N H H' := ⟨fun a o n q => e.keep a o (fun z => by
  rcases List.mem_cons.1 z with z | z
  · rw [z, h] at q; cases q
  · exact n z) q, e.tr⟩
theorem paired_drop {α β : Type} {R : α → β → Prop} : ∀ {xs : List α} {ys : List β}, Paired R xs ys → Paired R (xs.drop 1) (ys.drop 1)
  | _, _, .nil => .nil
  | _, _, .cons _ r => r
theorem pS_app (l r : List Nat) : pS l ++ pS r = pS (l ++ r) := by
  show Str.mk (l.toArray ++ r.toArray) = Str.mk (l ++ r).toArray
  rw [List.append_toArray]
section
variable {P : Program} {w : World} {K : PySem.W.Frag} {mg : Str → Option Value} {base : Heap}
theorem make_row {H : Hp} {M : List Addr} {x dx : Addr} {d : Dr} {sA mA : Addr} {b : Bool} {R : Hp → Prop} {E : XK} (hT : Tr M H) (nx : H x = none) (ndx : H dx = none) (nex : dx ≠ x) (hd : DrOk d)
    (hs : im M H sA = some (Sq b (d.szs.map V.int))) (hm : IsMats (im M H) mA d.maps) (k : ∀ H', Ext [] H H' → IsRw (im M H') (ga K "Row") x d → R H') :
    spRowInit K [.ref x, .str (pS d.pat), .int d.pr, .ref sA, .ref mA] (upd (upd H dx (.own x)) x (.ins (ga K "Row") dx [])) (fun v H2 => v = .non ∧ R H2) E := by
  have e1 : Ext [] H (upd H dx (.own x)) := Ext.new ndx
  have n1 : upd H dx (.own x) x = none := by rw [upd_ne nex.symm]; exact nx
  have e2 : Ext [] (upd H dx (.own x)) (upd (upd H dx (.own x)) x (.ins (ga K "Row") dx [])) := Ext.new n1
  have s2 : Same (im M H) (im (x :: M) (upd (upd H dx (.own x)) x (.ins (ga K "Row") dx []))) := (im_ext e1).trans (im_fresh (hT.ext e1) n1)
  exact ⟨x, dx, d, sA, mA, b, M, rfl, upd_same, hT.no nx, hT.ext (e1.trans e2), hd, s2 _ _ hs, hm.mono s2, fun H' e h => ⟨rfl, k H' (((e1.trans e2).any.trans e).drop nx) h⟩⟩
theorem ok_row_part (T : Txt w K mg) : OkF P w K mg base 6 (ma K "Row" "part") ["self", "first", "last"] (spRowPart K) := by
  obtain ⟨fI, kI, bI, _, FI⟩ := ok_is_integer (P := P) (base := base) T
  obtain ⟨fR, kR, bR, FR⟩ := ok_row_init (P := P) (base := base) T
  refine okf_of T.d_Row_part scRowPart (fun _ _ _ _ _ _ us hl => match us, hl with | [_, _, _], _ => rfl) (fun vs H Q E h => ?_) (fun cdv A outer s H vs Q E hr h => ?_)
  · obtain ⟨a, d, M, rfl, _⟩ := h
    rfl
  · obtain ⟨a, d, M, rfl, ⟨dx, tA, mA, ha, htA, bs, hb, hbs⟩, hT, hd, h1, q⟩ := h
    have hr1 := hr.mono (show 1 ≤ 5 by decide)
    have lenp : PE (cxOf (L2.CX P w) P w K mg base ["self", "first", "last", "sizes"] "Row.part" (defScope sRowPart) (ma K "Row" "part") cdv A outer s H E) (.Name "self" ⟨0, 0, 0, 0⟩) (tVar 0) := pv 0
    refine ⟨_, pss_cons (ps_if (pt_not (pt_val (pe_call FI hr1 rfl T.g_is_integer kI bI .nil passL (pa_cons (pv 1) (pa_cons pe_int (pa_cons (pe_callB call_len_str (by rfl) T.b_len bt_len (pa_cons (pe_fld (pv 0) rfl) pa_nil)) pa_nil)))))) (pss_one ps_never) pss_nil)
      (pss_cons (ps_if (pt_not (pt_val (pe_call FI hr1 rfl T.g_is_integer kI bI .nil passL (pa_cons (pv 2) (pa_cons (pv 1) (pa_cons (pe_callB call_len_str (by rfl) T.b_len bt_len (pa_cons (pe_fld (pv 0) rfl) pa_nil)) pa_nil)))))) (pss_one ps_never) pss_nil)
      (pss_cons (ps_set (i := 3) scRowPart.nd rfl (Or.inl rfl) (pe_slice sl_tup (pe_fld (pv 0) rfl) (po_some (pv 1)) (po_some (pe_op op_add (pv 2) pe_int))))
      (pss_one (ps_ret (pe_make T.mk_Row FR hr rfl T.g_Row bR .nil passL (pa_cons (pe_slice sl_str (pe_fld (pv 0) rfl) (po_some (pv 1)) (po_some (pv 2))) (pa_cons (pe_fld (pv 0) rfl) (pa_cons (pv 3) (pa_cons (pe_slice sl_list (pe_fld (pv 0) rfl) (po_some (pv 1)) (po_some (pv 2))) pa_nil))))))))), ?_⟩
    have pl := hd.pat.1
    have sl : (pS d.pat).length ≤ sizeLine := szl (by rw [pS_len]; omega)
    have ha' := im_at ha
    refine ⟨_, rfl, _, rfl, a, _, dx, _, .str (pS d.pat), rfl, ha', T.cl_Row, T.n_Row_own_pattern, rfl, _, rfl, sl, 1, .int 0, .int (pS d.pat).length, rfl, .inr ⟨_, rfl⟩, .inr ⟨_, rfl⟩, true, ?_, iteF ?_⟩
    · rw [show (leB (.int 0) 1 && geB (.int ((pS d.pat).length : Int)) 1) = true by
        rw [pS_len]
        show (decide ((0 : Int) ≤ 1) && decide ((1 : Int) ≤ (d.pat.length : Int))) = true
        rw [decide_eq_true (show (1 : Int) ≤ (d.pat.length : Int) by omega)]
        rfl]
    refine ⟨_, rfl, _, rfl, _, rfl, a, _, dx, _, .str (pS d.pat), rfl, ha', T.cl_Row, T.n_Row_own_pattern, rfl, _, rfl, sl, _, .int 1, .int (pS d.pat).length, rfl, .inr ⟨_, rfl⟩, .inr ⟨_, rfl⟩, true, ?_, iteF ?_⟩
    · rw [show (leB (.int 1) (d.pat.length : Int) && geB (.int ((pS d.pat).length : Int)) (d.pat.length : Int)) = true by simp [leB, geB, pS_len]; omega]
    refine ⟨_, rfl, a, _, dx, _, .ref tA, rfl, ha', T.cl_Row, T.n_Row_own_sizes, rfl, ?_⟩
    have lz := hd.szl
    refine ⟨_, rfl, 1, rfl, _, rfl, _, _, rfl, rfl, _, rfl, tA, _, rfl, SqT.of (im_at htA), ?_, fun p hp => ?_⟩
    · rintro ⟨z1, _⟩
      rw [show (some (1 : Int)) = some ((1 : Nat) : Int) from rfl, HT.sIx_nat, List.length_map, lz] at z1
      omega
    rw [show ((d.pat.length : Int) + 1) = ((d.szs.length : Nat) : Int) by omega, cutV_to (by rw [List.length_map]; omega) (by rw [List.length_map])]
    have e1 := Ext.new (N := []) (o := .tup ((d.szs.map V.int).drop 1)) hp
    have ha1 := e1.keep _ _ notNil ha'
    refine ⟨_, rfl, a, _, dx, _, .str (pS d.pat), rfl, ha1, T.cl_Row, T.n_Row_own_pattern, rfl, _, rfl, 1, rfl, _, rfl, _, rfl, _, rfl, sl, ?_⟩
    rw [cutS_to h1]
    refine ⟨_, rfl, a, _, dx, _, .int d.pr, rfl, ha1, T.cl_Row, T.n_Row_own_prime, rfl, ?_⟩
    refine ⟨_, rfl, ?_⟩
    refine ⟨_, rfl, a, _, dx, _, .ref mA, rfl, ha1, T.cl_Row, T.n_Row_own_maps, rfl, _, rfl, 1, rfl, _, rfl, _, rfl, mA, _, rfl, SqL.of (e1.keep _ _ notNil (im_at hb)), fun m hm => ?_⟩
    have bl := paired_len hbs
    have ml := hd.mpl
    rw [cutV_to (by rw [List.length_map]; omega) (by rw [List.length_map]; omega)]
    have e2 := Ext.new (N := []) (o := .lst ((bs.map V.ref).drop 1)) hm
    have hT1 := hT.ext e1
    intro x dx' nx ndx nex
    refine make_row (b := true) (M := M) (d := cutD d) (hT1.ext e2) nx ndx nex (cut_ok hd h1) ?_ ?_ fun H' e h => q x H' ((e1.trans e2).trans e) ((e1.trans e2).none_of nx) h
    · have := im_ext e2 _ _ (im_new (o := .tup ((d.szs.map V.int).drop 1)) hT hp rfl)
      rw [this]
      show some (HO.tup ((d.szs.map V.int).drop 1)) = some (HO.tup ((d.szs.drop 1).map V.int))
      rw [List.map_drop]
    · refine ⟨bs.drop 1, by rw [im_new hT1 hm rfl, List.map_drop], ?_⟩
      have : Paired (IsMat (im M _)) bs d.maps := Paired.mapP hbs fun _ _ h => h.mono (im_ext (e1.trans e2))
      exact paired_drop this
theorem ok_grown (T : Txt w K mg) : OkF P w K mg base 6 (ga K "grown") ["row", "arrow", "size", "matrix"] (spGrown K) := by
  obtain ⟨fA, kA, bA, FA⟩ := ok_need_arrow (P := P) (base := base) T
  obtain ⟨fZ, kZ, bZ, FZ⟩ := ok_need_place_size (P := P) (base := base) T
  obtain ⟨fP, kP, bP, FP⟩ := ok_row_pattern (P := P) (base := base) T
  obtain ⟨fQ, kQ, bQ, FQ⟩ := ok_row_prime (P := P) (base := base) T
  obtain ⟨fS, kS, bS, FS⟩ := ok_row_sizes (P := P) (base := base) T
  obtain ⟨fM, kM, bM, FM⟩ := ok_row_maps (P := P) (base := base) T
  obtain ⟨fR, kR, bR, FR⟩ := ok_row_init (P := P) (base := base) T
  refine okf_of T.d_grown scGrown (fun _ _ _ _ _ _ us hl => match us, hl with | [_, _, _, _], _ => rfl) (fun vs H Q E h => ?_) (fun cdv A outer s H vs Q E hr h => ?_)
  · obtain ⟨a, mA, d, c, z, m, M, rfl, _⟩ := h
    rfl
  · obtain ⟨a, mN, d, c, z, m, M, rfl, ⟨dx, tA, mA, ha, htA, hms⟩, hT, hmN, hd, q⟩ := h
    have hr1 := hr.mono (show 1 ≤ 5 by decide)
    have hr2 := hr.mono (show 2 ≤ 5 by decide)
    refine ⟨_, pss_cons (ps_expr (pe_call FA hr1 rfl T.g_need_arrow kA bA .nil passL (pa_cons (pe_prop (pv 0) T.cl_Row T.p_Row_pattern FP hr2 bP .nil passL rfl) (pa_cons (pv 1) pa_nil))))
      (pss_cons (ps_expr (pe_call FZ hr2 rfl T.g_need_place_size kZ bZ .nil passL (pa_cons (pv 2) pa_nil)))
      (pss_one (ps_ret (pe_make T.mk_Row FR hr rfl T.g_Row bR .nil passL (pa_cons (pe_op op_add_str (pe_prop (pv 0) T.cl_Row T.p_Row_pattern FP hr2 bP .nil passL rfl) (pv 1)) (pa_cons (pe_prop (pv 0) T.cl_Row T.p_Row_prime FQ hr2 bQ .nil passL rfl)
        (pa_cons (pe_lst (StX.pa_star (pe_prop (pv 0) T.cl_Row T.p_Row_sizes FS hr2 bS .nil passL rfl) (pa_cons (pv 2) pa_nil))) (pa_cons (pe_lst (StX.pa_star (pe_meth0 (pv 0) T.cl_Row T.m_Row_maps FM hr1 bM .nil passL) (pa_cons (pv 3) pa_nil))) pa_nil)))))))), ?_⟩
    have pl : (d.pat ++ [c]).length ≤ 6 := hd.pat.1
    have pl' : d.pat.length < 6 := by rw [List.length_append] at pl; simp only [List.length_singleton] at pl; omega
    have hc : c = 60 ∨ c = 62 := hd.pat.2 c (show c ∈ d.pat ++ [c] by simp)
    have hz : 0 ≤ z ∧ z ≤ 6 := hd.szr z (show z ∈ d.szs ++ [z] by simp)
    have ha' := im_at ha
    refine ⟨_, rfl, a, dx, _, rfl, ha', a, dx, _, .str (pS d.pat), rfl, ha', rfl, ?_⟩
    refine ⟨_, rfl, d.pat, c, rfl, hc, pl', fun H1 e1 => ?_⟩
    refine ⟨_, rfl, z, rfl, hz.1, hz.2, ?_⟩
    have ha1 := e1.keep _ _ notNil ha'
    have hT1 := hT.ext e1
    refine ⟨_, rfl, a, dx, _, rfl, ha1, a, dx, _, .str (pS d.pat), rfl, ha1, rfl, ?_⟩
    refine ⟨_, rfl, _, _, rfl, rfl, szl (by rw [pS_len, pS_len]; simp; omega), ?_⟩
    rw [pS_app]
    refine ⟨_, rfl, a, dx, _, rfl, ha1, a, dx, _, .int d.pr, rfl, ha1, rfl, ?_⟩
    refine ⟨_, rfl, a, dx, _, rfl, ha1, a, dx, _, .ref tA, rfl, ha1, rfl, tA, _, rfl, .inl (SqT.of (e1.keep _ _ notNil (im_at htA))), _, rfl, ?_⟩
    have lz : (d.szs ++ [z]).length = (d.pat ++ [c]).length + 1 := hd.szl
    have lm : (d.maps ++ [m]).length = (d.pat ++ [c]).length := hd.mpl
    rw [List.length_append, List.length_append] at lz lm
    simp only [List.length_singleton] at lz lm
    refine ⟨szl (by simp only [List.length_append, List.length_map, List.length_cons, List.length_nil]; omega), fun l hl => ?_⟩
    have e2 := Ext.new (N := []) (o := .lst (d.szs.map V.int ++ [.int z])) hl
    have ha2 := (e1.trans e2).keep _ _ notNil ha'
    have hT2 := hT1.ext e2
    refine ⟨_, rfl, a, dx, _, rfl, ha2, rfl, ?_⟩
    refine ⟨a, d, M, rfl, ⟨dx, tA, mA, im_ext (e1.trans e2) _ _ ha, im_ext (e1.trans e2) _ _ htA, hms.mono (im_ext (e1.trans e2))⟩, hT2, by omega, fun b H3 e3 hb ⟨bs, hb3, hbs⟩ => ?_⟩
    have bl := paired_len hbs
    refine ⟨b, _, rfl, .inr (SqL.of (im_at hb3)), _, rfl, szl (by simp only [List.length_append, List.length_map, List.length_cons, List.length_nil]; omega), fun u hu => ?_⟩
    have e4 := Ext.new (N := []) (o := .lst (bs.map V.ref ++ [.ref mN])) hu
    have hT3 := hT2.ext e3
    intro x dx' nx ndx nex
    have e14 := (e1.trans e2).trans (e3.trans e4)
    refine make_row (b := false) (M := M) (d := growD d c z m) (hT3.ext e4) nx ndx nex hd ?_ ?_ fun H' e h => q x H' (e14.trans e) (e14.none_of nx) h
    · rw [im_ext (e3.trans e4) _ _ (im_new (o := .lst (d.szs.map V.int ++ [.int z])) hT1 hl rfl)]
      show some (HO.lst (d.szs.map V.int ++ [.int z])) = some (HO.lst ((d.szs ++ [z]).map V.int))
      rw [List.map_append]
      rfl
    · refine ⟨bs ++ [mN], by rw [im_new hT3 hu rfl, List.map_append]; rfl, paired_snoc (Paired.mapP hbs fun _ _ h => h.mono (im_ext e4)) (hmN.mono (im_ext e14))⟩
end
end Mr

set_option Elab.async false
set_option linter.all false
set_option maxRecDepth 100000
set_option maxHeartbeats 4000000
/-! Rules of our own, 9: C() of an own error class whose __init__ keeps no field of its own. -/
namespace Ru
open PySem PySem.Spec PyProof.Rows L2
section
variable {X : Cx}
theorem mk_end1 {pins : List (Addr × Obj)} {σ : St} {H1 : Hp} {hp hp2 h2 : Heap} {g1 g2 : Array GenState} {d1 d2 : Drawn} {t1 t2 : Nat} {os1 os2 : OsState} {a C : Addr} (I1 : Inv X pins σ H1 ⟨hp, g1, d1, t1, os1⟩)
    (ha : hp.objs.size ≤ a) (k : ∀ b o, hp.get? b = some o → hp2.get? b = some o) (un : Un (frs X.stack) [] (upd H1 a (exo a C none)) (upd H1 a (exo a C none)) hp2 h2) (hok : HOk X.prog X.w (upd H1 a (exo a C none)) h2) (ho : os2 = os1) (hb : AllBare g2) :
    ∃ (t0 : Addr) (G : Heap), Inv X pins σ H1 ⟨G, g2, d2, t2, os2⟩ ∧ (∀ b o, G.get? b = some o → h2.get? b = some o) ∧ G.get? a = none ∧
      h2.get? a = some ({ cls := .ref C, dict := none, data := .fields #[.ref t0, .none, .none, .none, .bool false, .none] } : Obj) ∧ H1 a = none := by
  obtain ⟨t0, hoe⟩ := exo_at hok upd_same
  have hn : H1 a = none := I1.hok.fresh ha
  obtain ⟨G, g1', g2'⟩ := restrict h2 fun b => decide (b ≠ a)
  have gk : ∀ b, b ≠ a → G.get? b = h2.get? b := fun b hb => g1' b (decide_eq_true hb)
  have ge : G.get? a = none := g2' a (by simp)
  have nha : ∀ {b : Addr} {o : Obj}, hp.get? b = some o → b ≠ a := fun {b o} z => Nat.ne_of_lt (Nat.lt_of_lt_of_le (Heap.lt_size z) ha)
  have up : ∀ {b : Addr}, b ≠ a → H1 b = none → upd H1 a (exo a C none) b = none := fun {b} hb n => by rw [upd_ne hb]; exact n
  have U : Un (frs X.stack) [] H1 H1 hp G := {
    keep := fun b o z n hf hx => by
      rw [gk b (nha z)]
      exact un.keep b o (k b o z) (up (nha z) n) hf hx
    slot := fun b o z n hf hx => by
      rw [gk b (nha z)]
      exact un.slot b o (k b o z) (up (nha z) n) hf hx
    free := fun b o z n hx => n
    there := fun b o z hx => by
      rw [gk b (nha z)]
      exact un.there b o (k b o z) hx
    tups := fun b xs z => z
    frzs := fun b o v z => z
    tbls := fun b ps z => ⟨#[], by rw [Array.append_empty]; exact z⟩ }
  have hok3 : HOk X.prog X.w H1 G := fun b o z => by
    have hba : b ≠ a := ne_of_none z hn
    have z2 : upd H1 a (exo a C none) b = some o := by rw [upd_ne hba]; exact z
    have noa : ∀ {c : Addr}, upd H1 a (exo a C none) c = some (.own b) → c ≠ a := fun {c} hc => at_ne upd_same hc exo_own
    exact (hok b o z2).stay (fun c v hc y => by
        have hca : c ≠ a := by
          rcases hc with hc | hc
          · rw [hc]
            exact hba
          · exact noa hc
        rw [gk c hca]
        exact y)
      (fun c hc => by
        rw [upd_ne (noa hc)] at hc
        exact hc) (fun c xs hc => by
        rw [upd_ne (at_ne upd_same hc exo_tup)] at hc
        exact hc)
  have J : Inv X pins σ H1 ⟨G, g2, d2, t2, os2⟩ := I1.call' (ch := []) ho U hok3 hb (fun b z => absurd z (by simp))
  refine ⟨t0, G, J, fun b o z => ?_, ge, hoe, hn⟩
  by_cases hba : b = a
  · rw [hba, ge] at z
    cases z
  · exact (gk b hba).symm.trans z
def tMkO0 (C : Addr) (sp : Sp) : St → Hp → XK → Prop := fun σ H1 Q => ∀ a, H1 a = none → sp [.ref a] (upd H1 a (exo a C none)) (fun v H2 => v = .non ∧ H2 = upd H1 a (exo a C none) ∧ Q (.ref C) none H1) (fun _ _ _ => False)
theorem pmk_oex0 {CX : CXT} {x : Str} {C fI : Addr} {k : Nat} {fd : FuncData} {ps : List Str} {sp : Sp} {p pos : Pos} (T : OexC X.K C) (iC : PySem.W.findIn X.K (.ref C) "__init__" = some (some (.ref fI))) (tI : PySem.W.typeIn X.K (.ref fI) = some (.type "function"))
    (F1 : FnOk X.prog X.w X.K X.mg X.base CX k fI fd ps sp) (hr : Room (k + 1) X.A) (hb : Binds X.K fd ps []) (hx : Passes CX X (fun _ _ _ => False)) (hg : Gl X x) (hm : X.mg x = some (.ref C))
    (hdb : (x == ("__debug__" : Str)) = false := by decide) :
    PMk X (.Call (.Name x p) [] [] pos) (tMkO0 C sp) := by
  intro pins s σ H1 Q I h
  obtain ⟨nm, q, N, bs, bm, sn, sub, ab, col, dd, k0, k1, k2, k3, k5, hC, hbm⟩ := T.cls
  refine wpAny_Call_Name_kw (ld_glob I hg hm ?_ hdb)
  refine PySem.W.callWith_K0 I.kIn T.kC ?_
  have I1 := I
  obtain ⟨hp, g, dr, tk, os⟩ := s
  have hsz : hp.objs.size ≤ hp.objs.size + 1 := Nat.le_succ _
  have hn : H1 (hp.objs.size + 1) = none := I1.hok.fresh hsz
  have hq := h (hp.objs.size + 1) hn
  have kk : ∀ b o, hp.get? b = some o → ((hp.push (PySem.W.kdv_tup [])).push (PySem.HandSPX.excO C hp.objs.size)).get? b = some o := fun b o e => Heap.get?_push_of_some _ (Heap.get?_push_of_some _ e)
  have hget : ((hp.push (PySem.W.kdv_tup [])).push (PySem.HandSPX.excO C hp.objs.size)).get? (hp.objs.size + 1) = some (PySem.HandSPX.excO C hp.objs.size) := by heap_get
  have I2 : Inv X pins σ (upd H1 (hp.objs.size + 1) (exo (hp.objs.size + 1) C none)) ⟨(hp.push (PySem.W.kdv_tup [])).push (PySem.HandSPX.excO C hp.objs.size), g, dr, tk, os⟩ :=
    I1.laid (t' := tk) (a := hp.objs.size + 1) (o := exo (hp.objs.size + 1) C none) (h' := (hp.push (PySem.W.kdv_tup [])).push (PySem.HandSPX.excO C hp.objs.size)) kk hsz (exo_ok hget)
  have r2 : Vals [V.ref (hp.objs.size + 1)] [Value.ref (hp.objs.size + 1)] := .cons rfl .nil
  have hl : ([Value.ref (hp.objs.size + 1)] ++ []).length = ps.length := by
    have e := r2.length
    rw [F1.len _ _ _ _ hq] at e
    exact e.symm
  refine wpAny_call (PySem.HandSPX.call_own F.excBase_ValueError (fun Y => PySem.HandSPX.refsVE_contains Y bm hbm) (I1.kIn _ _ hC) (PySem.W.looks_findIn I1.kIn iC) (fun self => PySem.W.bind_fn I1.kIn self tI) (Nat.zero_le _)
    (codeAny_mono (F1.run _ X.stack _ _ ⟨[Value.ref (hp.objs.size + 1)], []⟩ [Value.ref (hp.objs.size + 1)] _ _ (fun _ _ _ => False) (hr.make C [] []) (I2.env0.make C [] []) (hb _ [Value.ref (hp.objs.size + 1)] I2.kIn hl) r2 hq) fun r s' hq' => ?_))
  cases r with
  | error er => exact hx pins σ _ _ er s' I2 hq'
  | ok fl =>
    cases fl with
    | ret u =>
      obtain ⟨v, H2, os2, bare2, un2, hok2, rv, ev, eH, q2⟩ := hq'
      subst ev
      subst eH
      obtain ⟨h2, g2, d2, t2, os'⟩ := s'
      obtain ⟨t0, G, J, kG, ge, hoe, na⟩ := mk_end1 (d2 := d2) (t2 := t2) I1 hsz kk un2 hok2 os2 bare2
      exact ⟨rv, _, _, _, ⟨G, g2, d2, t2, os'⟩, _, .ref C, none, rfl, J, kG, ge, hoe, ⟨rfl, rfl⟩, rfl, rfl, na, rfl, bare2, raises_own T.exC T.tyC, q2⟩
    | next => exact False.elim hq'
    | brk => exact False.elim hq'
    | cont => exact False.elim hq'
end
end Ru

set_option Elab.async false
set_option linter.all false
set_option maxRecDepth 100000
set_option maxHeartbeats 4000000
namespace Mr
open PySem PySem.Spec PyProof.Rows L2 Ru Tx
/-! ### errors -/
def spErr1 (C : Addr) (f : Str) : Sp := fun vs H Q _ => ∃ (a : Addr) (v : V), vs = [.ref a, v] ∧ H a = some (exo a C none) ∧ ∀ dx, H dx = none → dx ≠ a → Q .non (upd (upd H dx (exd dx [(f, v)])) a (exo a C (some dx)))
def spErr0 (C : Addr) : Sp := fun vs H Q _ => ∃ a : Addr, vs = [.ref a] ∧ H a = some (exo a C none) ∧ Q .non H
theorem scIvNum : FnScope ["self", "value"] ["self", "value"] (defScope sIvNumInit) := ⟨rfl, rfl, rfl, by decide +kernel, rfl, by decide +kernel, by decide +kernel⟩
theorem scUnk : FnScope ["self", "name"] ["self", "name"] (defScope sUnkInit) := ⟨rfl, rfl, rfl, by decide +kernel, rfl, by decide +kernel, by decide +kernel⟩
theorem scNtU : FnScope ["self"] ["self"] (defScope sNtUInit) := ⟨rfl, rfl, rfl, by decide +kernel, rfl, by decide +kernel, by decide +kernel⟩
theorem scNtR : FnScope ["self"] ["self"] (defScope sNtRInit) := ⟨rfl, rfl, rfl, by decide +kernel, rfl, by decide +kernel, by decide +kernel⟩
theorem exc_heap {H : Hp} {a dx : Addr} {o1 o2 o3 o4 : HO} (ha : H a = none) (ne : dx ≠ a) : upd (del (upd (upd (upd H a o1) dx o2) a o3) a) dx o4 = upd H dx o4 := by
  funext b
  by_cases hb : b = dx
  · rw [hb, upd_same, upd_same]
  · rw [upd_ne hb, upd_ne hb]
    by_cases hba : b = a
    · rw [hba, del_same, ha]
    · rw [del_ne hba, upd_ne hba, upd_ne hb, upd_ne hba]
/-- C(v) raised, from its __init__'s promise -/
theorem rd_err1 {C : Addr} {f : Str} {H : Hp} {v : V} {Q : XK} (k : ∀ dx, H dx = none → Q (.ref C) (some dx) (upd H dx (.xd [(f, v)]))) :
    [v].length ≤ 1000 ∧ ∀ a, H a = none → spErr1 C f (.ref a :: ([v] ++ [])) (upd H a (exo a C none))
      (fun v H2 => v = .non ∧ ∃ (d : Addr) (fs : List (Str × V)), H2 a = some (exo a C (some d)) ∧ H2 d = some (exd d fs) ∧ H d = none ∧ Q (.ref C) (some d) (upd (del H2 a) d (.xd fs))) (fun _ _ _ => False) := by
  refine ⟨by show 1 ≤ 1000; decide, fun a ha => ⟨a, v, rfl, upd_same, fun dx hd ne => ⟨rfl, dx, _, upd_same, by rw [upd_ne ne, upd_same], by rw [upd_ne ne] at hd; exact hd, ?_⟩⟩⟩
  rw [exc_heap ha ne]
  exact k dx (by rw [upd_ne ne] at hd; exact hd)
theorem rd_err0 {C : Addr} {H : Hp} {Q : XK} (k : Q (.ref C) none H) : ∀ a, H a = none → spErr0 C [.ref a] (upd H a (exo a C none)) (fun v H2 => v = .non ∧ H2 = upd H a (exo a C none) ∧ Q (.ref C) none H) (fun _ _ _ => False) :=
  fun a ha => ⟨a, rfl, upd_same, rfl, rfl, k⟩
section
variable {P : Program} {w : World} {K : PySem.W.Frag} {mg : Str → Option Value} {base : Heap}
theorem ok_ivnum (T : Txt w K mg) : OkF P w K mg base 1 (ma K "InvalidNumber" "__init__") ["self", "value"] (spErr1 (ga K "InvalidNumber") "value") := by
  refine okf_of T.d_InvalidNumber_init scIvNum (fun _ _ _ _ _ _ us hl => match us, hl with | [_, _], _ => rfl) (fun vs H Q E h => ?_) (fun cdv A outer s H vs Q E hr h => ?_)
  · obtain ⟨a, v, rfl, _⟩ := h
    rfl
  · obtain ⟨a, v, rfl, ha, q⟩ := h
    refine ⟨_, pss_cons (ps_expr (pe_baseinit rfl T.g_RowError T.rd_RowError T.ga_RowError T.vi_RowError (pa_cons (pv 0) (pa_cons pe_str pa_nil)))) (pss_one (ps_ost (pv 0) (pv 1))), ?_⟩
    exact ⟨_, rfl, a, _, _, rfl, by show 1 ≤ 1000; decide, T.x_InvalidNumber.o, ha, _, rfl, _, rfl, a, _, rfl, T.x_InvalidNumber.o, T.n_InvalidNumber_value, .inl ⟨ha, fun dx n ne => q dx n ne⟩⟩
theorem ok_unk (T : Txt w K mg) : OkF P w K mg base 1 (ma K "UnknownName" "__init__") ["self", "name"] (spErr1 (ga K "UnknownName") "name") := by
  refine okf_of T.d_UnknownName_init scUnk (fun _ _ _ _ _ _ us hl => match us, hl with | [_, _], _ => rfl) (fun vs H Q E h => ?_) (fun cdv A outer s H vs Q E hr h => ?_)
  · obtain ⟨a, v, rfl, _⟩ := h
    rfl
  · obtain ⟨a, v, rfl, ha, q⟩ := h
    refine ⟨_, pss_cons (ps_expr (pe_baseinit rfl T.g_RowError T.rd_RowError T.ga_RowError T.vi_RowError (pa_cons (pv 0) (pa_cons pe_str pa_nil)))) (pss_one (ps_ost (pv 0) (pv 1))), ?_⟩
    exact ⟨_, rfl, a, _, _, rfl, by show 1 ≤ 1000; decide, T.x_UnknownName.o, ha, _, rfl, _, rfl, a, _, rfl, T.x_UnknownName.o, T.n_UnknownName_name, .inl ⟨ha, fun dx n ne => q dx n ne⟩⟩
theorem ok_ntu (T : Txt w K mg) : OkF P w K mg base 1 (ma K "NothingToUndo" "__init__") ["self"] (spErr0 (ga K "NothingToUndo")) := by
  refine okf_of T.d_NothingToUndo_init scNtU (fun _ _ _ _ _ _ us hl => match us, hl with | [_], _ => rfl) (fun vs H Q E h => ?_) (fun cdv A outer s H vs Q E hr h => ?_)
  · obtain ⟨a, rfl, _⟩ := h
    rfl
  · obtain ⟨a, rfl, ha, q⟩ := h
    refine ⟨_, pss_one (ps_expr (pe_baseinit rfl T.g_RowError T.rd_RowError T.ga_RowError T.vi_RowError (pa_cons (pv 0) (pa_cons pe_str pa_nil)))), ?_⟩
    exact ⟨_, rfl, a, _, _, rfl, by show 1 ≤ 1000; decide, T.x_NothingToUndo.o, ha, q⟩
theorem ok_ntr (T : Txt w K mg) : OkF P w K mg base 1 (ma K "NothingToRedo" "__init__") ["self"] (spErr0 (ga K "NothingToRedo")) := by
  refine okf_of T.d_NothingToRedo_init scNtR (fun _ _ _ _ _ _ us hl => match us, hl with | [_], _ => rfl) (fun vs H Q E h => ?_) (fun cdv A outer s H vs Q E hr h => ?_)
  · obtain ⟨a, rfl, _⟩ := h
    rfl
  · obtain ⟨a, rfl, ha, q⟩ := h
    refine ⟨_, pss_one (ps_expr (pe_baseinit rfl T.g_RowError T.rd_RowError T.ga_RowError T.vi_RowError (pa_cons (pv 0) (pa_cons pe_str pa_nil)))), ?_⟩
    exact ⟨_, rfl, a, _, _, rfl, by show 1 ≤ 1000; decide, T.x_NothingToRedo.o, ha, q⟩
end
/-! ### trials -/
def tF (s : Addr) (k : V) : List (Str × V) := [("stream", .ref s), ("kept", k)]
def spTrialInit (K : PySem.W.Frag) : Sp := fun vs H Q _ => ∃ x dx s : Addr, vs = [.ref x, .ref s] ∧ H x = some (.ins (ga K "Trial") dx []) ∧ Q .non (upd H x (.ins (ga K "Trial") dx (tF s .non)))
def spEnter (K : PySem.W.Frag) : Sp := fun vs H Q _ => ∃ (t dx s dy u : Addr) (v : V), vs = [.ref t] ∧ H t = some (.ins (ga K "Trial") dx (tF s v)) ∧ H s = some (.ins (ga K "Stream") dy (stF u)) ∧ Q (.ref s) (upd H t (.ins (ga K "Trial") dx (tF s (.ref u))))
def spExit (K : PySem.W.Frag) : Sp := fun vs H Q _ => ∃ (t dx s dy u u' : Addr) (c e tr : V), vs = [.ref t, c, e, tr] ∧ H t = some (.ins (ga K "Trial") dx (tF s (.ref u))) ∧ H s = some (.ins (ga K "Stream") dy (stF u')) ∧ Q (.bl false) (upd H s (.ins (ga K "Stream") dy (stF u)))
theorem scTrialInit : FnScope ["self", "stream"] ["self", "stream"] (defScope sTrialInit) := ⟨rfl, rfl, rfl, by decide +kernel, rfl, by decide +kernel, by decide +kernel⟩
theorem scTrialEnter : FnScope ["self"] ["self"] (defScope sTrialEnter) := ⟨rfl, rfl, rfl, by decide +kernel, rfl, by decide +kernel, by decide +kernel⟩
theorem scTrialExit : FnScope ["self", "kind", "error", "trace"] ["self", "kind", "error", "trace"] (defScope sTrialExit) := ⟨rfl, rfl, rfl, by decide +kernel, rfl, by decide +kernel, by decide +kernel⟩
theorem upd_upd {H : Hp} {p : Addr} {o1 o2 : HO} : upd (upd H p o1) p o2 = upd H p o2 := by
  funext b
  by_cases hb : b = p
  · rw [hb, upd_same, upd_same]
  · rw [upd_ne hb, upd_ne hb, upd_ne hb]
/-- a promise that holds whatever is handled -/
def OkQ (P : Program) (w : World) (K : PySem.W.Frag) (mg : Str → Option Value) (base : Heap) (k : Nat) (f : Addr) (ps : List Str) (sp : Sp) : Prop :=
  ∃ fd, Binds K fd ps [] ∧ FnQ P w K mg base (L2.CX P w) k f fd ps sp
section
variable {P : Program} {w : World} {K : PySem.W.Frag} {mg : Str → Option Value} {base : Heap}
theorem ok_trial_init (T : Txt w K mg) : OkF P w K mg base 1 (ma K "Trial" "__init__") ["self", "stream"] (spTrialInit K) := by
  refine okf_of T.d_Trial_init scTrialInit (fun _ _ _ _ _ _ us hl => match us, hl with | [_, _], _ => rfl) (fun vs H Q E h => ?_) (fun cdv A outer s H vs Q E hr h => ?_)
  · obtain ⟨x, dx, s, rfl, _⟩ := h
    rfl
  · obtain ⟨x, dx, s, rfl, hx, q⟩ := h
    refine ⟨_, pss_cons (ps_fld (pv 0) (pv 1) rfl) (pss_one (ps_fld (pv 0) pe_non rfl)), ?_⟩
    refine ⟨_, rfl, _, rfl, x, _, dx, _, rfl, hx, T.cl_Trial, T.n_Trial_stream, by decide, ?_⟩
    refine ⟨_, rfl, x, _, dx, _, rfl, upd_same, T.cl_Trial, T.n_Trial_kept, (by show 1 < 1000; decide), ?_⟩
    rw [upd_upd]
    exact q
theorem ok_trial_enter (T : Txt w K mg) : OkQ P w K mg base 1 (ma K "Trial" "__enter__") ["self"] (spEnter K) := by
  obtain ⟨fd, F⟩ := T.d_Trial_u_enteru_
  refine ⟨fd, F.bindsN (fun _ _ _ _ _ _ us hl => match us, hl with | [_], _ => rfl), fnq_of F scTrialEnter (fun vs H Q E h => ?_) (fun cdv A outer s H vs Q E hr h => ?_)⟩
  · obtain ⟨t, dx, s, dy, u, v, rfl, _⟩ := h
    rfl
  · obtain ⟨t, dx, s, dy, u, v, rfl, ht, hs, q⟩ := h
    refine ⟨_, pss_cons (ps_fld (pv 0) (pe_fld (pe_fld (pv 0) rfl) rfl) rfl) (pss_one (ps_ret (pe_fld (pv 0) rfl))), ?_⟩
    refine ⟨_, rfl, t, _, dx, _, .ref s, rfl, ht, T.cl_Trial, T.n_Trial_stream, rfl, s, _, dy, _, .ref u, rfl, hs, T.cl_Stream, T.n_Stream_state, rfl, ?_⟩
    refine ⟨_, rfl, t, _, dx, _, rfl, ht, T.cl_Trial, T.n_Trial_kept, (by show 2 < 1000; decide), ?_⟩
    exact ⟨_, rfl, t, _, dx, _, .ref s, rfl, upd_same, T.cl_Trial, T.n_Trial_stream, rfl, q⟩
theorem ok_trial_exit (T : Txt w K mg) : OkQ P w K mg base 1 (ma K "Trial" "__exit__") ["self", "kind", "error", "trace"] (spExit K) := by
  obtain ⟨fd, F⟩ := T.d_Trial_u_exitu_
  refine ⟨fd, F.bindsN (fun _ _ _ _ _ _ us hl => match us, hl with | [_, _, _, _], _ => rfl), fnq_of F scTrialExit (fun vs H Q E h => ?_) (fun cdv A outer s H vs Q E hr h => ?_)⟩
  · obtain ⟨t, dx, s, dy, u, u', c, e, tr, rfl, _⟩ := h
    rfl
  · obtain ⟨t, dx, s, dy, u, u', c, e, tr, rfl, ht, hs, q⟩ := h
    refine ⟨_, pss_cons (ps_fld (pe_fld (pv 0) rfl) (pe_fld (pv 0) rfl) rfl) (pss_one (ps_ret pe_bl)), ?_⟩
    refine ⟨_, rfl, t, _, dx, _, .ref u, rfl, ht, T.cl_Trial, T.n_Trial_kept, rfl, _, rfl, t, _, dx, _, .ref s, rfl, ht, T.cl_Trial, T.n_Trial_stream, rfl, ?_⟩
    exact ⟨s, _, dy, _, rfl, hs, T.cl_Stream, T.n_Stream_state, (by show 1 < 1000; decide), q⟩
end
end Mr

set_option Elab.async false
set_option linter.all false
set_option maxRecDepth 100000
set_option maxHeartbeats 4000000
namespace Mr
open PySem PySem.Spec PyProof.Rows L2 Ru Tx
structure HOkN (h : Hist) (n : Nat) : Prop where
  past : ∀ d ∈ h.past, DrOk d
  here : DrOk h.here
  later : ∀ d ∈ h.later, DrOk d
  len : h.past.length + h.later.length ≤ n
theorem HOkN.more {h : Hist} {n m : Nat} (x : HOkN h n) (le : n ≤ m) : HOkN h m := ⟨x.past, x.here, x.later, Nat.le_trans x.len le⟩
def stepH (h : Hist) (d : Dr) : Hist := ⟨h.past ++ [h.here], d, []⟩
theorem HOkN.step {h : Hist} {n : Nat} {d : Dr} (x : HOkN h n) (hd : DrOk d) : HOkN (stepH h d) (n + 1) := by
  refine ⟨fun e he => ?_, hd, (fun e he => nomatch he), ?_⟩
  · rcases List.mem_append.1 he with he | he
    · exact x.past e he
    · rw [List.mem_singleton.1 he]; exact x.here
  · have := x.len
    show (h.past ++ [h.here]).length + 0 ≤ n + 1
    rw [List.length_append, List.length_singleton]
    omega
abbrev IsS (K : PySem.W.Frag) (M : List Addr) (H : Hp) (p : Addr) (h : Hist) : Prop := IsStream (ga K "Row") (ga K "Stream") M H p h
theorem rws_nil {G : Hp} {C a : Addr} (h : G a = some (.tup [])) : IsRws G C a [] := ⟨[], h, .nil⟩
theorem set_state {K : PySem.W.Frag} {M : List Addr} {H : Hp} {t p dx a y b : Addr} {h : Hist} (hT : Tr M H) (pM : p ∈ M) (hn : H t = none) (r1 : IsRws (im M H) (ga K "Row") a h.past) (r2 : IsRw (im M H) (ga K "Row") y h.here) (r3 : IsRws (im M H) (ga K "Row") b h.later) :
    IsS K M (upd (upd H t (.tup [.ref a, .ref y, .ref b])) p (.ins (ga K "Stream") dx (stF t))) p h := by
  have e := im_ext (M := M) (Ext.new (N := []) (o := .tup [.ref a, .ref y, .ref b]) hn)
  refine ⟨dx, t, upd_same, a, y, b, ?_, ?_, ?_, ?_⟩
  · rw [im_in pM]; exact im_new hT hn rfl
  · rw [im_in pM]; exact r1.mono e
  · rw [im_in pM]; exact r2.mono e
  · rw [im_in pM]; exact r3.mono e
def spStInit (K : PySem.W.Frag) : Sp := fun vs H Q _ => ∃ (x dx : Addr) (p z : Int) (M : List Addr), vs = [.ref x, .int p, .int z] ∧ H x = some (.ins (ga K "Stream") dx []) ∧ isPr p ∧ 0 ≤ z ∧ z ≤ 6 ∧ Tr M H ∧ x ∈ M ∧
  ∀ H', Ext [x] H H' → IsS K M H' x ⟨[], ⟨[], p, [z], []⟩, []⟩ → Q .non H'
def spStRow (K : PySem.W.Frag) : Sp := fun vs H Q _ => ∃ (p : Addr) (h : Hist) (M : List Addr), vs = [.ref p] ∧ IsS K M H p h ∧ ∀ y, IsRw (im M H) (ga K "Row") y h.here → Q (.ref y) H
def spStLen (K : PySem.W.Frag) : Sp := fun vs H Q _ => ∃ (p : Addr) (h : Hist) (M : List Addr), vs = [.ref p] ∧ IsS K M H p h ∧ Q (.int h.here.szs.length) H
def spStUndoable (K : PySem.W.Frag) : Sp := fun vs H Q _ => ∃ (p : Addr) (h : Hist) (M : List Addr), vs = [.ref p] ∧ IsS K M H p h ∧ Q (.int h.past.length) H
def spStRedoable (K : PySem.W.Frag) : Sp := fun vs H Q _ => ∃ (p : Addr) (h : Hist) (M : List Addr), vs = [.ref p] ∧ IsS K M H p h ∧ Q (.int h.later.length) H
def spStepTo (K : PySem.W.Frag) : Sp := fun vs H Q _ => ∃ (p x : Addr) (h : Hist) (d : Dr) (M : List Addr), vs = [.ref p, .ref x] ∧ IsS K M H p h ∧ p ∈ M ∧ Tr M H ∧ h.past.length ≤ 900 ∧ IsRw (im M H) (ga K "Row") x d ∧ ∀ H', Ext [p] H H' → IsS K M H' p (stepH h d) → Q .non H'
def spStGrow (K : PySem.W.Frag) : Sp := fun vs H Q _ => ∃ (p mA : Addr) (h : Hist) (c : Nat) (z : Int) (m : Mat) (M : List Addr), vs = [.ref p, .str (pS [c]), .int z, .ref mA] ∧ IsS K M H p h ∧ p ∈ M ∧ Tr M H ∧ h.past.length ≤ 900 ∧ IsMat (im M H) mA m ∧ DrOk (growD h.here c z m) ∧
  ∀ H', Ext [p] H H' → IsS K M H' p (stepH h (growD h.here c z m)) → Q .non H'
def spStCut (K : PySem.W.Frag) : Sp := fun vs H Q E => ∃ (p : Addr) (h : Hist) (n : Int) (M : List Addr), vs = [.ref p, .int n] ∧ IsS K M H p h ∧ p ∈ M ∧ Tr M H ∧ h.past.length ≤ 900 ∧ DrOk h.here ∧
  ((n = 1 ∧ 1 ≤ h.here.pat.length ∧ ∀ H', Ext [p] H H' → IsS K M H' p (stepH h (cutD h.here)) → Q .non H') ∨
   (n = 99 ∧ ∀ d, H d = none → E (.ref (ga K "InvalidNumber")) (some d) (upd H d (.xd [("value", .int 99)]))))
def spStUndo (K : PySem.W.Frag) : Sp := fun vs H Q E => ∃ (p : Addr) (h : Hist) (M : List Addr), vs = [.ref p] ∧ IsS K M H p h ∧ p ∈ M ∧ Tr M H ∧ h.past.length + h.later.length ≤ 900 ∧
  ((h.past = [] ∧ E (.ref (ga K "NothingToUndo")) none H) ∨ (∃ ps q, h.past = ps ++ [q] ∧ ∀ H', Ext [p] H H' → IsS K M H' p ⟨ps, q, h.here :: h.later⟩ → Q .non H'))
def spStRedo (K : PySem.W.Frag) : Sp := fun vs H Q E => ∃ (p : Addr) (h : Hist) (M : List Addr), vs = [.ref p] ∧ IsS K M H p h ∧ p ∈ M ∧ Tr M H ∧ h.past.length + h.later.length ≤ 900 ∧
  ((h.later = [] ∧ E (.ref (ga K "NothingToRedo")) none H) ∨ (∃ q ls, h.later = q :: ls ∧ ∀ H', Ext [p] H H' → IsS K M H' p ⟨h.past ++ [h.here], q, ls⟩ → Q .non H'))
theorem scStInit : FnScope ["self", "prime", "size"] ["self", "prime", "size"] (defScope sStInit) := ⟨rfl, rfl, rfl, by decide +kernel, rfl, by decide +kernel, by decide +kernel⟩
theorem scStRow : FnScope ["self"] ["self"] (defScope sStRow) := ⟨rfl, rfl, rfl, by decide +kernel, rfl, by decide +kernel, by decide +kernel⟩
theorem scStLen : FnScope ["self"] ["self"] (defScope sStLen) := ⟨rfl, rfl, rfl, by decide +kernel, rfl, by decide +kernel, by decide +kernel⟩
theorem scStUndoable : FnScope ["self"] ["self"] (defScope sStUndoable) := ⟨rfl, rfl, rfl, by decide +kernel, rfl, by decide +kernel, by decide +kernel⟩
theorem scStRedoable : FnScope ["self"] ["self"] (defScope sStRedoable) := ⟨rfl, rfl, rfl, by decide +kernel, rfl, by decide +kernel, by decide +kernel⟩
theorem scStStepTo : FnScope ["self", "row"] ["self", "row"] (defScope sStStepTo) := ⟨rfl, rfl, rfl, by decide +kernel, rfl, by decide +kernel, by decide +kernel⟩
theorem scStGrow : FnScope ["self", "arrow", "size", "matrix"] ["self", "arrow", "size", "matrix"] (defScope sStGrow) := ⟨rfl, rfl, rfl, by decide +kernel, rfl, by decide +kernel, by decide +kernel⟩
theorem scStCut : FnScope ["self", "count", "places"] ["self", "count"] (defScope sStCut) := ⟨rfl, rfl, rfl, by decide +kernel, rfl, by decide +kernel, by decide +kernel⟩
theorem scStUndo : FnScope ["self", "ahead", "row", "behind"] ["self"] (defScope sStUndo) := ⟨rfl, rfl, rfl, by decide +kernel, rfl, by decide +kernel, by decide +kernel⟩
theorem scStRedo : FnScope ["self", "ahead", "row", "behind"] ["self"] (defScope sStRedo) := ⟨rfl, rfl, rfl, by decide +kernel, rfl, by decide +kernel, by decide +kernel⟩
theorem dr0_ok {p z : Int} (hp : isPr p) (h0 : 0 ≤ z) (h1 : z ≤ 6) : DrOk ⟨[], p, [z], []⟩ :=
  ⟨⟨Nat.zero_le _, fun c hc => nomatch hc⟩, hp, rfl, fun x hx => by rw [List.mem_singleton.1 hx]; exact ⟨h0, h1⟩, rfl, fun i c s t m h => by simp at h⟩
section
variable {P : Program} {w : World} {K : PySem.W.Frag} {mg : Str → Option Value} {base : Heap}
theorem ok_st_init (T : Txt w K mg) : OkF P w K mg base 6 (ma K "Stream" "__init__") ["self", "prime", "size"] (spStInit K) := by
  obtain ⟨fN, kN, bN, FN⟩ := ok_need_prime (P := P) (base := base) T
  obtain ⟨fI, kI, bI, _, FI⟩ := ok_is_integer (P := P) (base := base) T
  obtain ⟨fR, kR, bR, FR⟩ := ok_row_init (P := P) (base := base) T
  obtain ⟨tm, gm⟩ := T.i_MS
  refine okf_of T.d_Stream_init scStInit (fun _ _ _ _ _ _ us hl => match us, hl with | [_, _, _], _ => rfl) (fun vs H Q E h => ?_) (fun cdv A outer s H vs Q E hr h => ?_)
  · obtain ⟨x, dx, p, z, M, rfl, _⟩ := h
    rfl
  · obtain ⟨x, dx, p, z, M, rfl, hx, hp, h0, h1, hT, xM, q⟩ := h
    refine ⟨_, pss_cons (ps_expr (pe_call FN (hr.mono (by decide)) rfl T.g_need_prime kN bN .nil passL (pa_cons (pv 1) pa_nil)))
      (pss_cons (ps_if (pt_not (pt_val (pe_call FI (hr.mono (by decide)) rfl T.g_is_integer kI bI .nil passL (pa_cons (pv 2) (pa_cons pe_int (pa_cons (pe_glob (v := .int 6) rfl gm ⟨_, rfl⟩) pa_nil)))))) (pss_one ps_never) pss_nil)
      (pss_one (ps_fld (pv 0) (pe_tup (pa_cons (pe_tup pa_nil) (pa_cons (pe_make T.mk_Row FR hr rfl T.g_Row bR .nil passL (pa_cons pe_str (pa_cons (pv 1) (pa_cons (pe_lst (pa_cons (pv 2) pa_nil)) (pa_cons (pe_lst pa_nil) pa_nil))))) (pa_cons (pe_tup pa_nil) pa_nil)))) rfl))), ?_⟩
    refine ⟨_, rfl, p, rfl, hp, ?_⟩
    refine ⟨_, rfl, z, .int 0, .int 6, rfl, .inr ⟨_, rfl⟩, .inr ⟨_, rfl⟩, true, ?_, iteF ?_⟩
    · rw [show (leB (.int 0) z && geB (.int 6) z) = true by simp [leB, geB, h0, h1]]
    refine ⟨Nat.zero_le _, fun a ha => ?_⟩
    have e1 := Ext.new (N := []) (o := .tup []) ha
    refine ⟨_, rfl, _, rfl, szl (by show 1 ≤ 1000; decide), fun l hl => ⟨Nat.zero_le _, fun m hm => ?_⟩⟩
    have e2 := Ext.new (N := []) (o := .lst [V.int z]) hl
    have e3 := Ext.new (N := []) (o := .lst []) hm
    have e13 := e1.trans (e2.trans e3)
    intro y dy ny ndy ney
    have hT1 := hT.ext e1
    have hT2 := hT1.ext e2
    have e0 : ("" : Str) = pS [] := by decide +kernel
    rw [e0]
    refine make_row (b := false) (M := M) (d := ⟨[], p, [z], []⟩) (hT2.ext e3) ny ndy ney (dr0_ok hp h0 h1) (im_ext e3 _ _ (im_new hT1 hl rfl)) ⟨[], im_new hT2 hm rfl, .nil⟩ fun H4 e4 hy => ?_
    have e14 := e13.trans e4
    refine ⟨Nat.zero_le _, fun b hb => ⟨szl (by show 3 ≤ 1000; decide), fun t ht => ?_⟩⟩
    have e5 := Ext.new (N := []) (o := .tup []) hb
    have e6 := Ext.new (N := []) (o := .tup [.ref a, .ref y, .ref b]) ht
    have hx6 := ((e14.trans e5).trans e6).keep _ _ notNil hx
    refine ⟨_, rfl, x, _, dx, _, rfl, hx6, T.cl_Stream, T.n_Stream_state, by decide, q _ (((e14.trans e5).trans e6).any.trans (Ext.put (by simp))) ?_⟩
    exact set_state (h := ⟨[], ⟨[], p, [z], []⟩, []⟩) ((hT.ext e14).ext e5) xM ht (rws_nil (im_ext (e2.trans (e3.trans (e4.trans e5))) _ _ (im_new hT ha rfl))) (hy.mono (im_ext e5)) (rws_nil (im_new (hT.ext e14) hb rfl))
theorem ok_st_row (T : Txt w K mg) : OkF P w K mg base 1 (ma K "Stream" "row") ["self"] (spStRow K) := by
  refine okf_of T.d_Stream_row scStRow (fun _ _ _ _ _ _ us hl => match us, hl with | [_], _ => rfl) (fun vs H Q E h => ?_) (fun cdv A outer s H vs Q E hr h => ?_)
  · obtain ⟨p, h, M, rfl, _⟩ := h
    rfl
  · obtain ⟨p, h, M, rfl, ⟨dx, t, hp, x, y, z, ht, hx, hy, hz⟩, q⟩ := h
    refine ⟨_, pss_one (ps_ret (pe_ix ix_tup (pe_fld (pv 0) rfl) pe_int (fun _ _ => rfl))), ?_⟩
    exact ⟨_, rfl, p, _, dx, _, .ref t, rfl, hp, T.cl_Stream, T.n_Stream_state, rfl, t, _, _, _, rfl, rfl, SqT.of (im_at ht), (show atI [V.ref x, V.ref y, V.ref z] 1 = some (V.ref y) from rfl), q y hy⟩
theorem ok_st_len (T : Txt w K mg) : OkF P w K mg base 3 (ma K "Stream" "__len__") ["self"] (spStLen K) := by
  obtain ⟨fS, kS, bS, FS⟩ := ok_row_sizes (P := P) (base := base) T
  refine okf_of T.d_Stream_u_lenu_ scStLen (fun _ _ _ _ _ _ us hl => match us, hl with | [_], _ => rfl) (fun vs H Q E h => ?_) (fun cdv A outer s H vs Q E hr h => ?_)
  · obtain ⟨p, h, M, rfl, _⟩ := h
    rfl
  · obtain ⟨p, h, M, rfl, ⟨dx, t, hp, x, y, z, ht, hx, ⟨dy, tA, mA, hy, htA, _⟩, hz⟩, q⟩ := h
    refine ⟨_, pss_one (ps_ret (pe_callB call_len_seq (by rfl) T.b_len bt_len (pa_cons (pe_prop (pe_ix ix_tup (pe_fld (pv 0) rfl) pe_int (fun _ _ => rfl)) T.cl_Row T.p_Row_sizes FS hr bS .nil passL rfl) pa_nil))), ?_⟩
    refine ⟨_, rfl, p, _, dx, _, .ref t, rfl, hp, T.cl_Stream, T.n_Stream_state, rfl, t, _, _, _, rfl, rfl, SqT.of (im_at ht), (show atI [V.ref x, V.ref y, V.ref z] 1 = some (V.ref y) from rfl), y, dy, _, rfl, im_at hy, y, dy, _, .ref tA, rfl, im_at hy, rfl, tA, _, rfl, .inr (SqT.of (im_at htA)), ?_⟩
    rw [List.length_map]
    exact q
theorem ok_undoable (T : Txt w K mg) : OkF P w K mg base 1 (pg K "Stream" "undoable") ["self"] (spStUndoable K) := by
  refine okf_of T.d_Stream_undoable scStUndoable (fun _ _ _ _ _ _ us hl => match us, hl with | [_], _ => rfl) (fun vs H Q E h => ?_) (fun cdv A outer s H vs Q E hr h => ?_)
  · obtain ⟨p, h, M, rfl, _⟩ := h
    rfl
  · obtain ⟨p, h, M, rfl, ⟨dx, t, hp, x, y, z, ht, ⟨xs, hx, hxs⟩, hy, hz⟩, q⟩ := h
    refine ⟨_, pss_one (ps_ret (pe_callB call_len_seq (by rfl) T.b_len bt_len (pa_cons (pe_ix ix_tup (pe_fld (pv 0) rfl) pe_int (fun _ _ => rfl)) pa_nil))), ?_⟩
    refine ⟨_, rfl, p, _, dx, _, .ref t, rfl, hp, T.cl_Stream, T.n_Stream_state, rfl, t, _, _, _, rfl, rfl, SqT.of (im_at ht), (show atI [V.ref x, V.ref y, V.ref z] 0 = some (V.ref x) from rfl), x, _, rfl, .inr (SqT.of (im_at hx)), ?_⟩
    rw [List.length_map, paired_len hxs]
    exact q
theorem ok_redoable (T : Txt w K mg) : OkF P w K mg base 1 (pg K "Stream" "redoable") ["self"] (spStRedoable K) := by
  refine okf_of T.d_Stream_redoable scStRedoable (fun _ _ _ _ _ _ us hl => match us, hl with | [_], _ => rfl) (fun vs H Q E h => ?_) (fun cdv A outer s H vs Q E hr h => ?_)
  · obtain ⟨p, h, M, rfl, _⟩ := h
    rfl
  · obtain ⟨p, h, M, rfl, ⟨dx, t, hp, x, y, z, ht, hx, hy, ⟨xs, hz, hxs⟩⟩, q⟩ := h
    refine ⟨_, pss_one (ps_ret (pe_callB call_len_seq (by rfl) T.b_len bt_len (pa_cons (pe_ix ix_tup (pe_fld (pv 0) rfl) pe_int (fun _ _ => rfl)) pa_nil))), ?_⟩
    refine ⟨_, rfl, p, _, dx, _, .ref t, rfl, hp, T.cl_Stream, T.n_Stream_state, rfl, t, _, _, _, rfl, rfl, SqT.of (im_at ht), (show atI [V.ref x, V.ref y, V.ref z] 2 = some (V.ref z) from rfl), z, _, rfl, .inr (SqT.of (im_at hz)), ?_⟩
    rw [List.length_map, paired_len hxs]
    exact q
theorem ok_step_to (T : Txt w K mg) : OkF P w K mg base 1 (ma K "Stream" "step_to") ["self", "row"] (spStepTo K) := by
  refine okf_of T.d_Stream_step_to scStStepTo (fun _ _ _ _ _ _ us hl => match us, hl with | [_, _], _ => rfl) (fun vs H Q E h => ?_) (fun cdv A outer s H vs Q E hr h => ?_)
  · obtain ⟨p, x, h, d, M, rfl, _⟩ := h
    rfl
  · obtain ⟨p, r, h, d, M, rfl, ⟨dx, t, hp, x, y, z, ht, ⟨xs, hx, hxs⟩, hy, hz⟩, pM, hT, hl, hr', q⟩ := h
    refine ⟨_, pss_one (ps_fld (pv 0) (pe_tup (pa_cons (pe_tup (StX.pa_star (pe_ix ix_tup (pe_fld (pv 0) rfl) pe_int (fun _ _ => rfl)) (pa_cons (pe_ix ix_tup (pe_fld (pv 0) rfl) pe_int (fun _ _ => rfl)) pa_nil))) (pa_cons (pv 1) (pa_cons (pe_tup pa_nil) pa_nil)))) rfl), ?_⟩
    have xl := paired_len hxs
    refine ⟨_, rfl, p, _, dx, _, .ref t, rfl, hp, T.cl_Stream, T.n_Stream_state, rfl, t, _, _, _, rfl, rfl, SqT.of (im_at ht), (show atI [V.ref x, V.ref y, V.ref z] 0 = some (V.ref x) from rfl), x, _, rfl, .inl (SqT.of (im_at hx)), ?_⟩
    refine ⟨_, rfl, p, _, dx, _, .ref t, rfl, hp, T.cl_Stream, T.n_Stream_state, rfl, t, _, _, _, rfl, rfl, SqT.of (im_at ht), (show atI [V.ref x, V.ref y, V.ref z] 1 = some (V.ref y) from rfl), ?_⟩
    refine ⟨szl (by simp only [List.length_append, List.length_map, List.length_cons, List.length_nil]; omega), fun a ha => ?_⟩
    have e1 := Ext.new (N := []) (o := .tup (xs.map V.ref ++ [.ref y])) ha
    have hT1 := hT.ext e1
    refine ⟨_, rfl, Nat.zero_le _, fun b hb => ⟨szl (by show 3 ≤ 1000; decide), fun u hu => ?_⟩⟩
    have e2 := Ext.new (N := []) (o := .tup []) hb
    have e3 := Ext.new (N := []) (o := .tup [.ref a, .ref r, .ref b]) hu
    have e13 := (e1.trans e2).trans e3
    refine ⟨_, rfl, p, _, dx, _, rfl, e13.keep _ _ notNil hp, T.cl_Stream, T.n_Stream_state, (by show 1 < 1000; decide), q _ (e13.any.trans (Ext.put (by simp))) ?_⟩
    refine set_state (h := stepH h d) (hT1.ext e2) pM hu ⟨xs ++ [y], ?_, paired_snoc (Paired.mapP hxs fun _ _ h => h.mono (im_ext (e1.trans e2))) (hy.mono (im_ext (e1.trans e2)))⟩ (hr'.mono (im_ext (e1.trans e2))) (rws_nil (im_new hT1 hb rfl))
    rw [im_ext e2 _ _ (im_new hT ha rfl), List.map_append]
    rfl
end
end Mr

set_option Elab.async false
set_option linter.all false
set_option maxRecDepth 100000
set_option maxHeartbeats 4000000
namespace Mr
open PySem PySem.Spec PyProof.Rows L2 Ru Tx
theorem paired_unsnoc {α β : Type} {R : α → β → Prop} : ∀ {ys : List β} {y : β} {xs : List α}, Paired R xs (ys ++ [y]) → ∃ zs z, xs = zs ++ [z] ∧ Paired R zs ys ∧ R z y
  | [], y, _, .cons a .nil => ⟨[], _, rfl, .nil, a⟩
  | _ :: ys, y, _, .cons a r => by
    obtain ⟨zs, z, e, h1, h2⟩ := paired_unsnoc (ys := ys) r
    exact ⟨_ :: zs, z, by rw [e]; rfl, .cons a h1, h2⟩
theorem cutV_init (xs : List V) (v : V) : cutV (xs ++ [v]) none (some (-1)) = xs := by
  unfold cutV
  have e : HT.sIx (xs ++ [v]).length (xs ++ [v]).length (some (-1)) = xs.length := by
    show (if (-1 : Int) < 0 then ((-1 : Int) + ((xs ++ [v]).length : Int)).toNat else min (-1 : Int).toNat (xs ++ [v]).length) = _
    rw [if_pos (by decide), List.length_append, List.length_singleton]
    omega
  rw [e, HT.sIx_none]
  simp
section
variable {P : Program} {w : World} {K : PySem.W.Frag} {mg : Str → Option Value} {base : Heap}
theorem ok_st_grow (T : Txt w K mg) : OkF P w K mg base 7 (ma K "Stream" "grow") ["self", "arrow", "size", "matrix"] (spStGrow K) := by
  obtain ⟨fG, kG, bG, FG⟩ := ok_grown (P := P) (base := base) T
  obtain ⟨fS, kS, bS, FS⟩ := ok_step_to (P := P) (base := base) T
  refine okf_of T.d_Stream_grow scStGrow (fun _ _ _ _ _ _ us hl => match us, hl with | [_, _, _, _], _ => rfl) (fun vs H Q E h => ?_) (fun cdv A outer s H vs Q E hr h => ?_)
  · obtain ⟨p, mA, h, c, z, m, M, rfl, _⟩ := h
    rfl
  · obtain ⟨p, mA, h, c, z, m, M, rfl, hS, pM, hT, hl, hm, hd, q⟩ := h
    refine ⟨_, pss_one (ps_expr (pe_meth (pv 0) T.cl_Stream T.m_Stream_step_to FS (hr.mono (by decide)) bS .nil passL (pa_cons (pe_call FG hr rfl T.g_grown kG bG .nil passL (pa_cons (pe_ix ix_tup (pe_fld (pv 0) rfl) pe_int (fun _ _ => rfl)) (pa_cons (pv 1) (pa_cons (pv 2) (pa_cons (pv 3) pa_nil))))) pa_nil))), ?_⟩
    obtain ⟨dx, t, hp, x, y, b, ht, hx, hy, hb⟩ := id hS
    refine ⟨_, rfl, p, dx, _, rfl, hp, rfl, ?_⟩
    refine ⟨_, rfl, p, _, dx, _, .ref t, rfl, hp, T.cl_Stream, T.n_Stream_state, rfl, t, _, _, _, rfl, rfl, SqT.of (im_at ht), (show atI [V.ref x, V.ref y, V.ref b] 1 = some (V.ref y) from rfl), ?_⟩
    refine ⟨_, rfl, _, rfl, _, rfl, y, mA, h.here, c, z, m, M, rfl, hy, hT, hm, hd, fun r H1 e1 n1 hr1 => ?_⟩
    refine ⟨p, r, h, _, M, rfl, hS.ext e1 (notNil) (fun _ z => nomatch z), pM, hT.ext e1, hl, hr1, fun H2 e2 h2 => q H2 (e1.any.trans e2) h2⟩
theorem ok_st_cut (T : Txt w K mg) : OkF P w K mg base 7 (ma K "Stream" "cut") ["self", "count"] (spStCut K) := by
  obtain ⟨fL, kL, bL, FL⟩ := ok_st_len (P := P) (base := base) T
  obtain ⟨fI, kI, bI, _, FI⟩ := ok_is_integer (P := P) (base := base) T
  obtain ⟨fV, kV, bV, FV⟩ := ok_ivnum (P := P) (base := base) T
  obtain ⟨fP, kP, bP, FP⟩ := ok_row_part (P := P) (base := base) T
  obtain ⟨fS, kS, bS, FS⟩ := ok_step_to (P := P) (base := base) T
  refine okf_of T.d_Stream_cut scStCut (fun _ _ _ _ _ _ us hl => match us, hl with | [_, _], _ => rfl) (fun vs H Q E h => ?_) (fun cdv A outer s H vs Q E hr h => ?_)
  · obtain ⟨p, h, n, M, rfl, _⟩ := h
    rfl
  · obtain ⟨p, h, n, M, rfl, hS, pM, hT, hl, hd, q⟩ := h
    refine ⟨_, pss_cons (ps_set (i := 2) scStCut.nd rfl (Or.inl rfl) (pe_callB (call_len_own T.le_f T.le_n FL (hr.mono (by decide)) bL) (by rfl) T.b_len bt_len (pa_cons (pv 0) pa_nil)))
      (pss_cons (ps_if (pt_not (pt_val (pe_call FI (hr.mono (by decide)) rfl T.g_is_integer kI bI .nil passL (pa_cons (pv 1) (pa_cons pe_int (pa_cons (pe_op op_sub (pv 2) pe_int) pa_nil))))))
        (pss_one (ps_raise rfl (takes_of rfl rfl rfl rfl) (pmk_oex T.x_InvalidNumber.o T.x_InvalidNumber.i T.x_InvalidNumber.t FV (hr.mono (by decide)) bV .nil passL rfl T.g_InvalidNumber (pa_cons (pv 1) pa_nil)))) pss_nil)
      (pss_one (ps_expr (pe_meth (pv 0) T.cl_Stream T.m_Stream_step_to FS (hr.mono (by decide)) bS .nil passL (pa_cons (pe_meth (pe_ix ix_tup (pe_fld (pv 0) rfl) pe_int (fun _ _ => rfl)) T.cl_Row T.m_Row_part FP hr bP .nil passL (pa_cons (pv 1) (pa_cons (pe_op op_sub (pv 2) pe_int) pa_nil))) pa_nil))))), ?_⟩
    obtain ⟨dx, t, hp, x, y, b, ht, hx, hy, hb⟩ := id hS
    have lz := hd.szl
    have pl := hd.pat.1
    refine ⟨_, rfl, p, dx, _, rfl, hp, p, h, M, rfl, hS, h.here.szs.length, rfl, (by omega), ?_⟩
    refine ⟨_, rfl, _, rfl, _, _, rfl, rfl, n, .int 1, .int (h.here.szs.length - 1), rfl, .inr ⟨_, rfl⟩, .inr ⟨_, rfl⟩, ?_⟩
    rcases q with ⟨rfl, h1, q⟩ | ⟨rfl, q⟩
    · refine ⟨true, ?_, iteF ?_⟩
      · rw [show (leB (.int 1) 1 && geB (.int ((h.here.szs.length : Int) - 1)) 1) = true by
          show (decide ((1 : Int) ≤ 1) && decide ((1 : Int) ≤ (h.here.szs.length : Int) - 1)) = true
          rw [decide_eq_true (show (1 : Int) ≤ (h.here.szs.length : Int) - 1 by omega)]
          rfl]
      refine ⟨_, rfl, p, dx, _, rfl, hp, rfl, ?_⟩
      obtain ⟨dy, tA, mA, hyy, _⟩ := id hy
      refine ⟨_, rfl, p, _, dx, _, .ref t, rfl, hp, T.cl_Stream, T.n_Stream_state, rfl, t, _, _, _, rfl, rfl, SqT.of (im_at ht), (show atI [V.ref x, V.ref y, V.ref b] 1 = some (V.ref y) from rfl), y, dy, _, rfl, im_at hyy, rfl, ?_⟩
      refine ⟨_, rfl, _, rfl, _, _, rfl, rfl, ?_⟩
      refine ⟨y, h.here, M, ?_, hy, hT, hd, h1, fun r H1 e1 n1 hr1 => ?_⟩
      · show [V.ref y, V.int 1, V.int ((h.here.szs.length : Int) - 1)] = _
        rw [show ((h.here.szs.length : Int) - 1) = (h.here.pat.length : Int) by omega]
      exact ⟨p, r, h, _, M, rfl, hS.ext e1 (notNil) (fun _ z => nomatch z), pM, hT.ext e1, hl, hr1, fun H2 e2 h2 => q H2 (e1.any.trans e2) h2⟩
    · refine ⟨false, ?_, iteT ?_⟩
      · rw [show (leB (.int 1) 99 && geB (.int ((h.here.szs.length : Int) - 1)) 99) = false by
          show (decide ((1 : Int) ≤ 99) && decide ((99 : Int) ≤ (h.here.szs.length : Int) - 1)) = false
          rw [decide_eq_false (show ¬ (99 : Int) ≤ (h.here.szs.length : Int) - 1 by omega)]
          rfl]
      exact ⟨_, rfl, rd_err1 q⟩
theorem ok_st_undo (T : Txt w K mg) : OkF P w K mg base 3 (ma K "Stream" "undo") ["self"] (spStUndo K) := by
  obtain ⟨fV, kV, bV, FV⟩ := ok_ntu (P := P) (base := base) T
  refine okf_of T.d_Stream_undo scStUndo (fun _ _ _ _ _ _ us hl => match us, hl with | [_], _ => rfl) (fun vs H Q E h => ?_) (fun cdv A outer s H vs Q E hr h => ?_)
  · obtain ⟨p, h, M, rfl, _⟩ := h
    rfl
  · obtain ⟨p, h, M, rfl, ⟨dx, t, hp, x, y, b, ht, ⟨xs, hx, hxs⟩, hy, ⟨bs, hb, hbs⟩⟩, pM, hT, hl, q⟩ := h
    refine ⟨_, pss_cons (ps_asg (pe_fld (pv 0) rfl) (pg_tup rfl (pgs_cons (pg_name (i := 1) scStUndo.nd rfl (Or.inl rfl)) (pgs_cons (pg_name (i := 2) scStUndo.nd rfl (Or.inl rfl)) (pgs_cons (pg_name (i := 3) scStUndo.nd rfl (Or.inl rfl)) pgs_nil)))))
      (pss_cons (ps_if (pt_cmpR op_eq (pe_callB call_len_seq (by rfl) T.b_len bt_len (pa_cons (pv 1) pa_nil)) pe_int (nomark _))
        (pss_one (ps_raise rfl (takes_of rfl rfl rfl rfl) (pmk_oex0 T.x_NothingToUndo.o T.x_NothingToUndo.i T.x_NothingToUndo.t FV hr bV passL rfl T.g_NothingToUndo))) pss_nil)
      (pss_one (ps_fld (pv 0) (pe_tup (pa_cons (pe_slice sl_tup (pv 1) po_none (po_some (pe_un un_neg pe_int))) (pa_cons (pe_ix ix_tup (pv 1) (pe_un un_neg pe_int) (fun _ _ => rfl)) (pa_cons (pe_tup (pa_cons (pv 2) (StX.pa_star (pv 3) pa_nil))) pa_nil)))) rfl))), ?_⟩
    have xl := paired_len hxs
    have bl := paired_len hbs
    refine ⟨_, rfl, p, _, dx, _, .ref t, rfl, hp, T.cl_Stream, T.n_Stream_state, rfl, t, _, rfl, SqT.of (im_at ht), rfl, _, _, rfl, _, _, rfl, _, _, rfl, rfl, ?_⟩
    refine ⟨_, rfl, x, _, rfl, .inr (SqT.of (im_at hx)), rfl, _, rfl, ?_⟩
    rw [List.length_map, xl]
    rcases q with ⟨e0, q⟩ | ⟨ps, r, e0, q⟩
    · rw [e0]
      exact iteT (rd_err0 q)
    · rw [e0] at hxs xl ⊢
      obtain ⟨zs, z, rfl, hzs, hz⟩ := paired_unsnoc hxs
      rw [decide_eq_false (show ¬ V.int ((ps ++ [r]).length : Int) = V.int 0 from fun e => by have := V.int.inj e; rw [List.length_append, List.length_singleton] at this; omega)]
      rw [e0] at hl
      rw [List.map_append] at hx
      have zl : zs.length = ps.length := paired_len hzs
      refine iteF ⟨_, rfl, _, rfl, _, rfl, x, _, rfl, SqT.of (im_at hx), ?_, fun a ha => ?_⟩
      · rintro ⟨_, z2⟩
        have : HT.sIx (zs.map V.ref ++ [z].map V.ref).length (zs.map V.ref ++ [z].map V.ref).length (some (-1)) = zs.length := by
          show (if (-1 : Int) < 0 then ((-1 : Int) + ((zs.map V.ref ++ [z].map V.ref).length : Int)).toNat else min (-1 : Int).toNat (zs.map V.ref ++ [z].map V.ref).length) = _
          rw [if_pos (by decide), List.length_append, List.length_map, List.length_map, List.length_singleton]
          omega
        rw [this, List.length_append, List.length_map, List.length_map, List.length_singleton] at z2
        omega
      have e1 := Ext.new (N := []) (o := .tup (zs.map V.ref)) ha
      rw [show cutV (zs.map V.ref ++ [z].map V.ref) none (some (-1)) = zs.map V.ref from cutV_init _ _]
      have hT1 := hT.ext e1
      refine ⟨_, rfl, _, rfl, x, _, _, _, rfl, rfl, SqT.of (e1.keep _ _ notNil (im_at hx)), (show atI (zs.map V.ref ++ [V.ref z]) (-1) = some (V.ref z) from atI_last _ _), ?_⟩
      refine ⟨_, rfl, _, rfl, b, _, rfl, .inl (SqT.of (e1.keep _ _ notNil (im_at hb))), ?_⟩
      rw [List.length_append, List.length_singleton] at hl
      refine ⟨szl (by simp only [List.length_append, List.length_nil, List.length_map, List.length_cons]; omega), fun c hc => ⟨szl (by show 3 ≤ 1000; decide), fun u hu => ?_⟩⟩
      have e2 := Ext.new (N := []) (o := .tup (.ref y :: (bs.map V.ref ++ []))) hc
      have e3 := Ext.new (N := []) (o := .tup [.ref a, .ref z, .ref c]) hu
      have e13 := (e1.trans e2).trans e3
      refine ⟨_, rfl, p, _, dx, _, rfl, e13.keep _ _ notNil hp, T.cl_Stream, T.n_Stream_state, (by show 1 < 1000; decide), q _ (e13.any.trans (Ext.put (by simp))) ?_⟩
      refine set_state (h := ⟨ps, r, h.here :: h.later⟩) (hT1.ext e2) pM hu ⟨zs, im_ext e2 _ _ (im_new hT ha rfl), Paired.mapP hzs fun _ _ h => h.mono (im_ext (e1.trans e2))⟩ (hz.mono (im_ext (e1.trans e2)))
        ⟨y :: bs, by rw [im_new hT1 hc rfl, List.append_nil]; rfl, .cons (hy.mono (im_ext (e1.trans e2))) (Paired.mapP hbs fun _ _ h => h.mono (im_ext (e1.trans e2)))⟩
theorem ok_st_redo (T : Txt w K mg) : OkF P w K mg base 3 (ma K "Stream" "redo") ["self"] (spStRedo K) := by
  obtain ⟨fV, kV, bV, FV⟩ := ok_ntr (P := P) (base := base) T
  refine okf_of T.d_Stream_redo scStRedo (fun _ _ _ _ _ _ us hl => match us, hl with | [_], _ => rfl) (fun vs H Q E h => ?_) (fun cdv A outer s H vs Q E hr h => ?_)
  · obtain ⟨p, h, M, rfl, _⟩ := h
    rfl
  · obtain ⟨p, h, M, rfl, ⟨dx, t, hp, x, y, b, ht, ⟨xs, hx, hxs⟩, hy, ⟨bs, hb, hbs⟩⟩, pM, hT, hl, q⟩ := h
    refine ⟨_, pss_cons (ps_asg (pe_fld (pv 0) rfl) (pg_tup rfl (pgs_cons (pg_name (i := 1) scStRedo.nd rfl (Or.inl rfl)) (pgs_cons (pg_name (i := 2) scStRedo.nd rfl (Or.inl rfl)) (pgs_cons (pg_name (i := 3) scStRedo.nd rfl (Or.inl rfl)) pgs_nil)))))
      (pss_cons (ps_if (pt_cmpR op_eq (pe_callB call_len_seq (by rfl) T.b_len bt_len (pa_cons (pv 3) pa_nil)) pe_int (nomark _))
        (pss_one (ps_raise rfl (takes_of rfl rfl rfl rfl) (pmk_oex0 T.x_NothingToRedo.o T.x_NothingToRedo.i T.x_NothingToRedo.t FV hr bV passL rfl T.g_NothingToRedo))) pss_nil)
      (pss_one (ps_fld (pv 0) (pe_tup (pa_cons (pe_tup (StX.pa_star (pv 1) (pa_cons (pv 2) pa_nil))) (pa_cons (pe_ix ix_tup (pv 3) pe_int (fun _ _ => rfl)) (pa_cons (pe_slice sl_tup (pv 3) (po_some pe_int) po_none) pa_nil)))) rfl))), ?_⟩
    have xl := paired_len hxs
    have bl := paired_len hbs
    refine ⟨_, rfl, p, _, dx, _, .ref t, rfl, hp, T.cl_Stream, T.n_Stream_state, rfl, t, _, rfl, SqT.of (im_at ht), rfl, _, _, rfl, _, _, rfl, _, _, rfl, rfl, ?_⟩
    refine ⟨_, rfl, b, _, rfl, .inr (SqT.of (im_at hb)), rfl, _, rfl, ?_⟩
    rw [List.length_map, bl]
    rcases q with ⟨e0, q⟩ | ⟨r, ls, e0, q⟩
    · rw [e0]
      exact iteT (rd_err0 q)
    · rw [e0] at hbs bl ⊢
      cases hbs with
      | @cons z _ zs _ hz hzs =>
      rw [decide_eq_false (show ¬ V.int ((r :: ls).length : Int) = V.int 0 from fun e => by have := V.int.inj e; rw [List.length_cons] at this; omega)]
      rw [e0, List.length_cons] at hl
      have zl : zs.length = ls.length := paired_len hzs
      refine iteF ⟨_, rfl, x, _, rfl, .inl (SqT.of (im_at hx)), _, rfl, szl (by simp only [List.length_append, List.length_map, List.length_cons, List.length_nil]; omega), fun a ha => ?_⟩
      have e1 := Ext.new (N := []) (o := .tup (xs.map V.ref ++ [.ref y])) ha
      have hT1 := hT.ext e1
      refine ⟨_, rfl, b, _, _, _, rfl, rfl, SqT.of (e1.keep _ _ notNil (im_at hb)), (show atI (V.ref z :: zs.map V.ref) 0 = some (V.ref z) from atI_nat (j := 0) rfl), ?_⟩
      refine ⟨_, rfl, _, rfl, b, _, rfl, SqT.of (e1.keep _ _ notNil (im_at hb)), ?_, fun c hc => ?_⟩
      · rintro ⟨z1, _⟩
        rw [show (some (1 : Int)) = some ((1 : Nat) : Int) from rfl, HT.sIx_nat, List.map_cons, List.length_cons] at z1
        omega
      rw [cutV_tail (by rw [List.map_cons, List.length_cons]; omega), show ((z :: zs).map V.ref).drop 1 = zs.map V.ref from rfl]
      refine ⟨szl (by show 3 ≤ 1000; decide), fun u hu => ?_⟩
      have e2 := Ext.new (N := []) (o := .tup (zs.map V.ref)) hc
      have e3 := Ext.new (N := []) (o := .tup [.ref a, .ref z, .ref c]) hu
      have e13 := (e1.trans e2).trans e3
      refine ⟨_, rfl, p, _, dx, _, rfl, e13.keep _ _ notNil hp, T.cl_Stream, T.n_Stream_state, (by show 1 < 1000; decide), q _ (e13.any.trans (Ext.put (by simp))) ?_⟩
      refine set_state (h := ⟨h.past ++ [h.here], r, ls⟩) (hT1.ext e2) pM hu ⟨xs ++ [y], ?_, paired_snoc (Paired.mapP hxs fun _ _ h => h.mono (im_ext (e1.trans e2))) (hy.mono (im_ext (e1.trans e2)))⟩ (hz.mono (im_ext (e1.trans e2)))
        ⟨zs, im_new hT1 hc rfl, Paired.mapP hzs fun _ _ h => h.mono (im_ext (e1.trans e2))⟩
      rw [im_ext e2 _ _ (im_new hT ha rfl), List.map_append]
      rfl
end
end Mr

set_option Elab.async false
set_option linter.all false
set_option maxRecDepth 100000
set_option maxHeartbeats 4000000
namespace Mr
open PySem PySem.Spec PyProof.Rows L2 Ru Tx
def spTrial (K : PySem.W.Frag) : Sp := fun vs H Q _ => ∃ p : Addr, vs = [.ref p] ∧ ∀ x dx, H x = none → H dx = none → dx ≠ x → Q (.ref x) (upd (upd H dx (.own x)) x (.ins (ga K "Trial") dx (tF p .non)))
/-- the heap with a new trial of the stream at p, entered -/
def inTrial (K : PySem.W.Frag) (H : Hp) (p u t dt : Addr) : Hp := upd (upd H dt (.own t)) t (.ins (ga K "Trial") dt (tF p (.ref u)))
/-- what a tried act must leave, and what is put back -/
def Left (K : PySem.W.Frag) (p u t dt : Addr) (H : Hp) (R : Hp → Prop) : Prop := H t = some (.ins (ga K "Trial") dt (tF p (.ref u))) ∧ ∃ dy' u', H p = some (.ins (ga K "Stream") dy' (stF u')) ∧ R (upd H p (.ins (ga K "Stream") dy' (stF u)))
def spTried (P : Program) (w : World) (K : PySem.W.Frag) (mg : Str → Option Value) (base : Heap) (kA : Nat) : Sp := fun vs H Q E => ∃ (p f dy u : Addr) (G : Hp → Prop) (spA : Sp), vs = [.ref p, .ref f] ∧ H p = some (.ins (ga K "Stream") dy (stF u)) ∧ Act P w K mg base kA f G spA ∧
  ∀ t dt, H t = none → H dt = none → dt ≠ t → G (inTrial K H p u t dt) ∧ ∀ (Q' : VK) (E' : XK), (∀ v H2, Left K p u t dt H2 (Q v) → Q' v H2) → (∀ cls d H2, (∃ c : V, RelV c cls) → Left K p u t dt H2 (E cls d) → E' cls d H2) → spA [.ref p] (inTrial K H p u t dt) Q' E'
theorem scStTrial : FnScope ["self"] ["self"] (defScope sStTrial) := ⟨rfl, rfl, rfl, by decide +kernel, rfl, by decide +kernel, by decide +kernel⟩
theorem scStTried : FnScope ["self", "act"] ["self", "act"] (defScope sStTried) := ⟨rfl, rfl, rfl, by decide +kernel, rfl, by decide +kernel, by decide +kernel⟩
section
variable {P : Program} {w : World} {K : PySem.W.Frag} {mg : Str → Option Value} {base : Heap}
theorem ok_trial (T : Txt w K mg) : OkF P w K mg base 3 (ma K "Stream" "trial") ["self"] (spTrial K) := by
  obtain ⟨fI, kI, bI, FI⟩ := ok_trial_init (P := P) (base := base) T
  refine okf_of T.d_Stream_trial scStTrial (fun _ _ _ _ _ _ us hl => match us, hl with | [_], _ => rfl) (fun vs H Q E h => ?_) (fun cdv A outer s H vs Q E hr h => ?_)
  · obtain ⟨p, rfl, _⟩ := h
    rfl
  · obtain ⟨p, rfl, q⟩ := h
    refine ⟨_, pss_one (ps_ret (pe_make T.mk_Trial FI hr rfl T.g_Trial bI .nil passL (pa_cons (pv 0) pa_nil))), ?_⟩
    refine ⟨_, rfl, ?_⟩
    intro x dx nx ndx nex
    refine ⟨x, dx, p, rfl, upd_same, rfl, ?_⟩
    rw [upd_upd]
    exact q x dx nx ndx nex
theorem ok_tried (T : Txt w K mg) (kA : Nat) : OkF P w K mg base (kA + 4) (ma K "Stream" "tried") ["self", "act"] (spTried P w K mg base kA) := by
  obtain ⟨fI, kI, bI, FI⟩ := ok_trial (P := P) (base := base) T
  obtain ⟨fe, be, FE⟩ := ok_trial_enter (P := P) (base := base) T
  obtain ⟨fx, bx, FX⟩ := ok_trial_exit (P := P) (base := base) T
  refine okf_of T.d_Stream_tried scStTried (fun _ _ _ _ _ _ us hl => match us, hl with | [_, _], _ => rfl) (fun vs H Q E h => ?_) (fun cdv A outer s H vs Q E hr h => ?_)
  · obtain ⟨p, f, dy, u, G, spA, rfl, _⟩ := h
    rfl
  · obtain ⟨p, f, dy, u, G, spA, rfl, hp, FA, q⟩ := h
    have r1 := L2H.roomH_of (hr.mono (show 1 ≤ kA + 3 by omega))
    refine ⟨_, pss_one (ps_with rfl rfl T.en_f T.en_n T.ex_f T.ex_n FE r1 be FX r1 bx (pe_meth0 (pv 0) T.cl_Stream T.m_Stream_trial FI (hr.mono (by omega)) bI .nil passL) (takes_of rfl rfl rfl rfl)
      (fun W pn xe tk => pss_one (ps_ret (pe_callAct (i := 1) (E := fun cls d H => ∀ σ, W cls d σ H) FA (hr.mono (by omega)) rfl (Or.inl rfl) (passes_call tk (fun cls d σ H h => h σ)) (pv 0))))), ?_⟩
    refine ⟨_, rfl, p, dy, _, rfl, hp, rfl, p, rfl, fun t dt nt ndt net => ?_⟩
    obtain ⟨hG, hA⟩ := q t dt nt ndt net
    have hpt : p ≠ t := fun z => by rw [z, nt] at hp; cases hp
    have hpd : p ≠ dt := fun z => by rw [z, ndt] at hp; cases hp
    refine ⟨t, dt, _, rfl, upd_same, t, dt, p, dy, u, .non, rfl, upd_same, by rw [upd_ne hpt, upd_ne hpd]; exact hp, ?_⟩
    rw [upd_upd]
    refine ⟨rfl, hG, _, rfl, hG, ?_⟩
    have fin : ∀ {R : Hp → Prop} (H2 : Hp) (c e tr : V) (QQ : VK), Left K p u t dt H2 R → (∀ H3, R H3 → QQ (.bl false) H3) → spExit K [.ref t, c, e, tr] H2 QQ E0 := fun H2 c e tr QQ ⟨l1, dy', u', l2, l3⟩ k => ⟨t, dt, p, dy', u, u', c, e, tr, rfl, l1, l2, k _ l3⟩
    refine hA _ _ (fun v H2 l => (show spExit K [.ref t, .non, .non, .non] H2 (fun _ H3 => Q v H3) E0 from fin H2 _ _ _ _ l fun H3 h => h)) fun cls d H2 ⟨c, hc⟩ l σ => ⟨c, hc, fun tr e _ => fin H2 _ _ _ _ l fun H3 h => ⟨rfl, h⟩⟩
end
end Mr

set_option Elab.async false
set_option linter.all false
set_option maxRecDepth 100000
set_option maxHeartbeats 4000000
namespace Mr
open PySem PySem.Spec PyProof.Rows L2 Ru Tx
/-! ### drafts as data -/
def dMat (m : Mat) : PyData := .list (m.map fun v => .tuple (v.map .int))
def dDr (d : Dr) : PyData := .list [.str (pS d.pat), .int d.pr, .list (d.szs.map .int), .list (d.maps.map dMat)]
def Gd (n : Nat) (d : PyData) : Prop := d.canLay0 = true ∧ d.depth ≤ n
theorem gd_int {n : Nat} {i : Int} : Gd n (.int i) := ⟨by simp [PyData.canLay0], by simp [PyData.depth]⟩
theorem gd_all {n : Nat} : ∀ {xs : List PyData}, (∀ x ∈ xs, Gd n x) → PyData.canLayAll0 xs = true ∧ PyData.depthAll xs ≤ n
  | [], _ => ⟨by simp [PyData.canLayAll0], by simp [PyData.depthAll]⟩
  | x :: xs, h => by
    obtain ⟨a, b⟩ := gd_all (xs := xs) fun y hy => h y (List.mem_cons_of_mem _ hy)
    obtain ⟨c, d⟩ := h x List.mem_cons_self
    refine ⟨by simp [PyData.canLayAll0, a, c], ?_⟩
    simp only [PyData.depthAll]
    omega
theorem gd_list {n : Nat} {xs : List PyData} (h : ∀ x ∈ xs, Gd n x) : Gd (n + 1) (.list xs) := by
  obtain ⟨a, b⟩ := gd_all h
  exact ⟨by simp [PyData.canLay0, a], by simp only [PyData.depth]; omega⟩
theorem gd_tup {n : Nat} {xs : List PyData} (h : ∀ x ∈ xs, Gd n x) : Gd (n + 1) (.tuple xs) := by
  obtain ⟨a, b⟩ := gd_all h
  exact ⟨by simp [PyData.canLay0, a], by simp only [PyData.depth]; omega⟩
theorem gd_more {n m : Nat} {d : PyData} (h : Gd n d) (l : n ≤ m) : Gd m d := ⟨h.1, Nat.le_trans h.2 l⟩
theorem gd_ints {n : Nat} {l : List Int} : ∀ x ∈ l.map PyData.int, Gd n x := fun x hx => by
  obtain ⟨i, _, rfl⟩ := List.mem_map.1 hx
  exact gd_int
theorem gd_mat (m : Mat) : Gd 2 (dMat m) := gd_list fun x hx => by
  obtain ⟨v, _, rfl⟩ := List.mem_map.1 hx
  exact gd_tup gd_ints
theorem gd_str {n : Nat} {l : List Nat} (h : ∀ c ∈ l, c = 60 ∨ c = 62) : Gd n (.str (pS l)) := by
  refine ⟨?_, by simp [PyData.depth]⟩
  simp only [PyData.canLay0]
  show (pS l).cps.all (· < 0x110000) = true
  show l.toArray.all (· < 0x110000) = true
  rw [List.all_toArray, List.all_eq_true]
  intro c hc
  rcases h c hc with rfl | rfl <;> decide
theorem gd_dr {d : Dr} (h : ∀ c ∈ d.pat, c = 60 ∨ c = 62) : Gd 4 (dDr d) := gd_list fun x hx => by
  rcases List.mem_cons.1 hx with rfl | hx
  · exact gd_str h
  rcases List.mem_cons.1 hx with rfl | hx
  · exact gd_int
  rcases List.mem_cons.1 hx with rfl | hx
  · exact gd_list gd_ints
  rw [List.mem_singleton.1 hx]
  exact gd_list fun y hy => by
    obtain ⟨m, _, rfl⟩ := List.mem_map.1 hy
    exact gd_mat m
theorem gd_shaped {d : PyData} {n : Nat} (h : Gd n d) (l : n ≤ 64) : SeqAt.shaped d = true := by
  unfold SeqAt.shaped
  rw [h.1, decide_eq_true (Nat.le_trans h.2 l)]
  rfl
section
variable {K : PySem.W.Frag} {H : Hp}
theorem dp_ints : ∀ {l : List Int}, DpAll K H (l.map V.int) (l.map PyData.int)
  | [] => .nil
  | _ :: _ => .cons (.int _) dp_ints
theorem dp_refs {α : Type} {R : Addr → α → Prop} {f : α → PyData} (h : ∀ a x, R a x → Dp K H (.ref a) (f x)) : ∀ {xs : List Addr} {ys : List α}, Paired R xs ys → DpAll K H (xs.map V.ref) (ys.map f)
  | _, _, .nil => .nil
  | _, _, .cons a r => .cons (h _ _ a) (dp_refs h r)
theorem dp_mat {M : List Addr} {a : Addr} {m : Mat} (h : IsMat (im M H) a m) : Dp K H (.ref a) (dMat m) := by
  obtain ⟨rs, e, p⟩ := h
  exact .lst (SqL.of (im_at e)) (dp_refs (R := fun r (v : List Int) => im M H r = some (.tup (v.map V.int))) (f := fun v => PyData.tuple (v.map PyData.int)) (fun r v q => .tup (SqT.of (im_at q)) dp_ints) p)
theorem dp_dr {M : List Addr} {a : Addr} {d : Dr} (h : IsDr (im M H) a d) : Dp K H (.ref a) (dDr d) := by
  obtain ⟨sA, mA, e1, e2, ms, e3, p⟩ := h
  exact .lst (SqL.of (im_at e1)) (.cons (.str _) (.cons (.int _) (.cons (.lst (SqL.of (im_at e2)) dp_ints) (.cons (.lst (SqL.of (im_at e3)) (dp_refs (fun b m q => dp_mat q) p)) .nil))))
end
/-! ### promises -/
def spShown (K : PySem.W.Frag) : Sp := fun vs H Q _ => ∃ (a : Addr) (d : Dr) (M : List Addr), vs = [.ref a] ∧ IsRw (im M H) (ga K "Row") a d ∧ Tr M H ∧ d.maps.length ≤ 6 ∧ ∀ b H', Ext [] H H' → IsDr (im M H') b d → Q (.ref b) H'
def spCut : Sp := fun vs H Q _ => ∃ (a : Addr) (d : Dr) (M : List Addr), vs = [.ref a, .int 1] ∧ IsDr (im M H) a d ∧ Tr M H ∧ DrOk d ∧ 1 ≤ d.pat.length ∧ ∀ b H', Ext [] H H' → IsDr (im M H') b (cutD d) → Q (.ref b) H'
def spLonger : Sp := fun vs H Q _ => ∃ (b a : Addr) (d : Dr) (n : Nat) (M : List Addr), vs = [.ref b, .ref a] ∧ IsBox H b n ∧ n + 200 ≤ nMax ∧ b ∈ M ∧ Tr M H ∧ IsDr (im M H) a d ∧ DrOk d ∧ d.pat.length < 6 ∧
  ∀ (r e mA : Addr) (c : Nat) (z : Int) (m : Mat) (H' : Hp), Ext [b] H H' → IsBox H' b (n + 200) → H' r = some (.lst [.str (pS [c]), .int z, .ref mA, .ref e]) → IsMat (im M H') mA m → IsDr (im M H') e (growD d c z m) → DrOk (growD d c z m) → Q (.ref r) H'
def spStands (K : PySem.W.Frag) : Sp := fun vs H Q _ => ∃ (p s : Addr) (h : Hist) (M : List Addr), vs = [.ref p, .ref s] ∧ IsS K M H p h ∧ IsLs (im M H) s h ∧ Tr M H ∧ DrOk h.here ∧ ∀ H', Ext [] H H' → Q (.bl true) H'
theorem scShown : FnScope ["_law_row"] ["_law_row"] (defScope sShown) := ⟨rfl, rfl, rfl, by decide +kernel, rfl, by decide +kernel, by decide +kernel⟩
theorem scCut : FnScope ["_law_draft", "_law_count"] ["_law_draft", "_law_count"] (defScope sCut) := ⟨rfl, rfl, rfl, by decide +kernel, rfl, by decide +kernel, by decide +kernel⟩
abbrev nLonger : List Str := ["_law_box_here", "_law_draft", "_law_sign", "_law_amount", "_law_last", "_law_high", "_law_wide", "_law_piece"]
theorem scLonger : FnScope nLonger ["_law_box_here", "_law_draft"] (defScope sLonger) := ⟨rfl, rfl, rfl, by decide +kernel, rfl, by decide +kernel, by decide +kernel⟩
theorem scStands : FnScope ["_law_stream", "_law_state"] ["_law_stream", "_law_state"] (defScope sStands) := ⟨rfl, rfl, rfl, by decide +kernel, rfl, by decide +kernel, by decide +kernel⟩
theorem grow_ok {d : Dr} {c : Nat} {z s : Int} {m : Mat} (h : DrOk d) (hl : d.pat.length < 6) (hc : c = 60 ∨ c = 62) (h0 : 0 ≤ z) (h1 : z ≤ 6) (hs : d.szs[d.pat.length]? = some s) (hm : MatI d.pr (shp c s z).1 (shp c s z).2 m) : DrOk (growD d c z m) where
  pat := ⟨by show (d.pat ++ [c]).length ≤ 6; rw [List.length_append, List.length_singleton]; omega, fun x hx => by
    rcases List.mem_append.1 hx with hx | hx
    · exact h.pat.2 x hx
    · rw [List.mem_singleton.1 hx]; exact hc⟩
  pr := h.pr
  szl := by show (d.szs ++ [z]).length = (d.pat ++ [c]).length + 1; have := h.szl; simp only [List.length_append, List.length_singleton]; omega
  szr := fun x hx => by
    rcases List.mem_append.1 hx with hx | hx
    · exact h.szr x hx
    · rw [List.mem_singleton.1 hx]; exact ⟨h0, h1⟩
  mpl := by show (d.maps ++ [m]).length = (d.pat ++ [c]).length; have := h.mpl; simp only [List.length_append, List.length_singleton]; omega
  mp := fun i c' s' t m' a1 a2 a3 a4 => by
    have a1 : (d.pat ++ [c])[i]? = some c' := a1
    have a2 : (d.szs ++ [z])[i]? = some s' := a2
    have a3 : (d.szs ++ [z])[i + 1]? = some t := a3
    have a4 : (d.maps ++ [m])[i]? = some m' := a4
    have hz := h.szl
    have hp := h.mpl
    have hi : i < (d.pat ++ [c]).length := (List.getElem?_eq_some_iff.1 a1).1
    rw [List.length_append, List.length_singleton] at hi
    by_cases hlt : i < d.pat.length
    · rw [List.getElem?_append_left hlt] at a1
      rw [List.getElem?_append_left (by omega)] at a2 a3 a4
      exact h.mp i c' s' t m' a1 a2 a3 a4
    · have e : i = d.pat.length := by omega
      subst e
      rw [List.getElem?_append_right (Nat.le_refl _), Nat.sub_self] at a1
      rw [List.getElem?_append_left (by omega), hs] at a2
      rw [List.getElem?_append_right (by omega), show d.pat.length + 1 - d.szs.length = 0 by omega] at a3
      rw [List.getElem?_append_right (by omega), show d.pat.length - d.maps.length = 0 by omega] at a4
      simp only [List.getElem?_cons_zero, Option.some.injEq] at a1 a2 a3 a4
      subst a1 a2 a3 a4
      exact hm
theorem mat_i {p s t : Int} {h w : Nat} {m : Mat} (hm : MatOk p h w m) (e1 : (h : Int) = s) (e2 : (w : Int) = t) : MatI p s t m := ⟨by rw [hm.1]; exact e1, fun v hv => ⟨by rw [(hm.2 v hv).1]; exact e2, (hm.2 v hv).2⟩⟩
section
variable {P : Program} {w : World} {K : PySem.W.Frag} {mg : Str → Option Value} {base : Heap}
theorem ok_shown (T : Txt w K mg) : OkF P w K mg base 3 (ga K "_law_shown") ["_law_row"] (spShown K) := by
  obtain ⟨fP, kP, bP, FP⟩ := ok_row_pattern (P := P) (base := base) T
  obtain ⟨fQ, kQ, bQ, FQ⟩ := ok_row_prime (P := P) (base := base) T
  obtain ⟨fS, kS, bS, FS⟩ := ok_row_sizes (P := P) (base := base) T
  obtain ⟨fM, kM, bM, FM⟩ := ok_row_maps (P := P) (base := base) T
  refine okf_of T.d_law_shown scShown (fun _ _ _ _ _ _ us hl => match us, hl with | [_], _ => rfl) (fun vs H Q E h => ?_) (fun cdv A outer s H vs Q E hr h => ?_)
  · obtain ⟨a, d, M, rfl, _⟩ := h
    rfl
  · obtain ⟨a, d, M, rfl, ⟨dx, tA, mA, ha, htA, hms⟩, hT, hl, q⟩ := h
    refine ⟨_, pss_one (ps_ret (pe_lst (pa_cons (pe_prop (pv 0) T.cl_Row T.p_Row_pattern FP hr bP .nil passL rfl) (pa_cons (pe_prop (pv 0) T.cl_Row T.p_Row_prime FQ hr bQ .nil passL rfl)
      (pa_cons (pe_callTy call_list_of (by rfl) T.b_list bt_list (pa_cons (pe_prop (pv 0) T.cl_Row T.p_Row_sizes FS hr bS .nil passL rfl) pa_nil)) (pa_cons (pe_meth0 (pv 0) T.cl_Row T.m_Row_maps FM (hr.mono (by decide)) bM .nil passL) pa_nil)))))), ?_⟩
    have ha' := im_at ha
    refine ⟨_, rfl, a, dx, _, rfl, ha', a, dx, _, .str (pS d.pat), rfl, ha', rfl, ?_⟩
    refine ⟨_, rfl, a, dx, _, rfl, ha', a, dx, _, .int d.pr, rfl, ha', rfl, ?_⟩
    refine ⟨_, rfl, a, dx, _, rfl, ha', a, dx, _, .ref tA, rfl, ha', rfl, tA, _, rfl, .inr (SqT.of (im_at htA)), fun l hl' => ?_⟩
    have e1 := Ext.new (N := []) (o := .lst (d.szs.map V.int)) hl'
    have hT1 := hT.ext e1
    refine ⟨_, rfl, a, dx, _, rfl, e1.keep _ _ notNil ha', rfl, a, d, M, rfl, ⟨dx, tA, mA, im_ext e1 _ _ ha, im_ext e1 _ _ htA, hms.mono (im_ext e1)⟩, hT1, hl, fun b H2 e2 hb hbm => ?_⟩
    refine ⟨szl (by show 4 ≤ 1000; decide), fun r hr' => ?_⟩
    have e3 := Ext.new (N := []) (o := .lst [.str (pS d.pat), .int d.pr, .ref l, .ref b]) hr'
    exact q r _ ((e1.trans e2).trans e3) ⟨l, b, im_new (hT1.ext e2) hr' rfl, im_ext (e2.trans e3) _ _ (im_new hT hl' rfl), hbm.mono (im_ext e3)⟩
theorem ok_cut (T : Txt w K mg) : OkF P w K mg base 1 (ga K "_law_cut") ["_law_draft", "_law_count"] spCut := by
  refine okf_of T.d_law_cut scCut (fun _ _ _ _ _ _ us hl => match us, hl with | [_, _], _ => rfl) (fun vs H Q E h => ?_) (fun cdv A outer s H vs Q E hr h => ?_)
  · obtain ⟨a, d, M, rfl, _⟩ := h
    rfl
  · obtain ⟨a, d, M, rfl, ⟨sA, mA, ha, hs, ms, hm, hms⟩, hT, hd, h1, q⟩ := h
    refine ⟨_, pss_one (ps_ret (pe_lst (pa_cons (pe_slice sl_str (pe_ix ix_list (pv 0) pe_int (fun _ _ => rfl)) (po_some (pv 1)) po_none) (pa_cons (pe_ix ix_list (pv 0) pe_int (fun _ _ => rfl))
      (pa_cons (pe_slice sl_list (pe_ix ix_list (pv 0) pe_int (fun _ _ => rfl)) (po_some (pv 1)) po_none) (pa_cons (pe_slice sl_list (pe_ix ix_list (pv 0) pe_int (fun _ _ => rfl)) (po_some (pv 1)) po_none) pa_nil)))))), ?_⟩
    have pl := hd.pat.1
    have lz := hd.szl
    have lm := hd.mpl
    have ml := paired_len hms
    refine ⟨_, rfl, a, _, _, _, rfl, rfl, SqL.of (im_at ha), (show atI [V.str (pS d.pat), V.int d.pr, V.ref sA, V.ref mA] 0 = some (V.str (pS d.pat)) from rfl), _, rfl, 1, rfl, _, rfl, szl (by rw [pS_len]; omega), ?_⟩
    rw [cutS_tail h1]
    refine ⟨_, rfl, a, _, _, _, rfl, rfl, SqL.of (im_at ha), (show atI [V.str (pS d.pat), V.int d.pr, V.ref sA, V.ref mA] 1 = some (V.int d.pr) from rfl), ?_⟩
    refine ⟨_, rfl, a, _, _, _, rfl, rfl, SqL.of (im_at ha), (show atI [V.str (pS d.pat), V.int d.pr, V.ref sA, V.ref mA] 2 = some (V.ref sA) from rfl), _, rfl, 1, rfl, sA, _, rfl, SqL.of (im_at hs), fun l hl => ?_⟩
    rw [cutV_tail (by rw [List.length_map]; omega)]
    have e1 := Ext.new (N := []) (o := .lst ((d.szs.map V.int).drop 1)) hl
    have hT1 := hT.ext e1
    refine ⟨_, rfl, a, _, _, _, rfl, rfl, SqL.of (e1.keep _ _ notNil (im_at ha)), (show atI [V.str (pS d.pat), V.int d.pr, V.ref sA, V.ref mA] 3 = some (V.ref mA) from rfl), _, rfl, 1, rfl, mA, _, rfl, SqL.of (e1.keep _ _ notNil (im_at hm)), fun u hu => ?_⟩
    rw [cutV_tail (by rw [List.length_map]; omega)]
    have e2 := Ext.new (N := []) (o := .lst ((ms.map V.ref).drop 1)) hu
    have hT2 := hT1.ext e2
    refine ⟨szl (by show 4 ≤ 1000; decide), fun r hr' => ?_⟩
    have e3 := Ext.new (N := []) (o := .lst [.str (pS (d.pat.drop 1)), .int d.pr, .ref l, .ref u]) hr'
    refine q r _ ((e1.trans e2).trans e3) ⟨l, u, im_new hT2 hr' rfl, ?_, ms.drop 1, ?_, paired_drop (Paired.mapP hms fun _ _ h => h.mono (im_ext ((e1.trans e2).trans e3)))⟩
    · rw [im_ext (e2.trans e3) _ _ (im_new hT hl rfl)]
      show some (HO.lst ((d.szs.map V.int).drop 1)) = some (HO.lst ((d.szs.drop 1).map V.int))
      rw [List.map_drop]
    · rw [im_ext e3 _ _ (im_new hT1 hu rfl), List.map_drop]
theorem ok_stands (T : Txt w K mg) : OkF P w K mg base 4 (ga K "_law_stands") ["_law_stream", "_law_state"] (spStands K) := by
  obtain ⟨fS, kS, bS, FS⟩ := ok_shown (P := P) (base := base) T
  obtain ⟨fR, kR, bR, FR⟩ := ok_st_row (P := P) (base := base) T
  obtain ⟨fU, kU, bU, FU⟩ := ok_undoable (P := P) (base := base) T
  obtain ⟨fV, kV, bV, FV⟩ := ok_redoable (P := P) (base := base) T
  refine okf_of T.d_law_stands scStands (fun _ _ _ _ _ _ us hl => match us, hl with | [_, _], _ => rfl) (fun vs H Q E h => ?_) (fun cdv A outer s H vs Q E hr h => ?_)
  · obtain ⟨p, s, h, M, rfl, _⟩ := h
    rfl
  · obtain ⟨p, st, h, M, rfl, hS, ⟨x, y, z, hst, ⟨xs, hx, hxs⟩, hy, ⟨zs, hz, hzs⟩⟩, hT, hd, q⟩ := h
    refine ⟨_, pss_cons (ps_if (PW.pt (pw_or (pt_cmpR op_ne (pe_callB call_len_seq (by rfl) T.b_len bt_len (pa_cons (pv 1) pa_nil)) pe_int (nomark _))
        (pw_or1 (pt_cmpR (op_neD hr.units) (pe_call FS hr rfl T.g_law_shown kS bS .nil passL (pa_cons (pe_meth0 (pv 0) T.cl_Stream T.m_Stream_row FR (hr.mono (by decide)) bR .nil passL) pa_nil)) (pe_ix ix_list (pv 1) pe_int (fun _ _ => rfl)) (nomark _))))) (pss_one ps_never) pss_nil)
      (pss_one (ps_ret (pe_cmpR (op_eqD hr.units) (pe_lst (pa_cons (pe_prop (pv 0) T.cl_Stream T.p_Stream_undoable FU (hr.mono (by decide)) bU .nil passL rfl) (pa_cons (pe_prop (pv 0) T.cl_Stream T.p_Stream_redoable FV (hr.mono (by decide)) bV .nil passL rfl) pa_nil)))
        (pe_lst (pa_cons (pe_callB call_len_seq (by rfl) T.b_len bt_len (pa_cons (pe_ix ix_list (pv 1) pe_int (fun _ _ => rfl)) pa_nil)) (pa_cons (pe_callB call_len_seq (by rfl) T.b_len bt_len (pa_cons (pe_ix ix_list (pv 1) pe_int (fun _ _ => rfl)) pa_nil)) pa_nil))) (nomark _)))), ?_⟩
    obtain ⟨dx, t, hp, _⟩ := id hS
    have mpl := hd.mpl
    have pl := hd.pat.1
    refine ⟨_, rfl, st, _, rfl, .inl (SqL.of (im_at hst)), rfl, _, rfl, iteF ?_⟩
    refine ⟨_, rfl, p, dx, _, rfl, hp, rfl, p, h, M, rfl, hS, fun r hr' => ⟨r, h.here, M, rfl, hr', hT, by omega, fun b H1 e1 hb => ?_⟩⟩
    refine ⟨_, rfl, st, _, _, _, rfl, rfl, SqL.of (e1.keep _ _ notNil (im_at hst)), (show atI [V.ref x, V.ref y, V.ref z] 1 = some (V.ref y) from rfl), ?_⟩
    have g := gd_dr (d := h.here) hd.pat.2
    refine ⟨_, _, dp_dr hb, dp_dr (hy.mono (im_ext e1)), gd_shaped g (by decide), gd_shaped g (by decide), _, rfl, ?_⟩
    rw [SeqAt.eqv_refl _ g.1]
    refine iteF ?_
    have hS1 := hS.ext e1 notNil (fun _ z => nomatch z)
    have hp1 := e1.keep _ _ notNil hp
    refine ⟨_, rfl, p, dx, _, rfl, hp1, p, h, M, rfl, hS1, ?_⟩
    refine ⟨_, rfl, p, dx, _, rfl, hp1, p, h, M, rfl, hS1, ?_⟩
    refine ⟨szl (by show 2 ≤ 1000; decide), fun l hl => ?_⟩
    have e2 := Ext.new (N := []) (o := .lst [.int h.past.length, .int h.later.length]) hl
    have e12 := e1.trans e2
    refine ⟨_, rfl, st, _, _, _, rfl, rfl, SqL.of (e12.keep _ _ notNil (im_at hst)), (show atI [V.ref x, V.ref y, V.ref z] 0 = some (V.ref x) from rfl), x, _, rfl, .inl (SqL.of (e12.keep _ _ notNil (im_at hx))), ?_⟩
    refine ⟨_, rfl, st, _, _, _, rfl, rfl, SqL.of (e12.keep _ _ notNil (im_at hst)), (show atI [V.ref x, V.ref y, V.ref z] 2 = some (V.ref z) from rfl), z, _, rfl, .inl (SqL.of (e12.keep _ _ notNil (im_at hz))), ?_⟩
    rw [List.length_map, List.length_map, paired_len hxs, paired_len hzs]
    refine ⟨szl (by show 2 ≤ 1000; decide), fun u hu => ?_⟩
    have e3 := Ext.new (N := []) (o := .lst [.int h.past.length, .int h.later.length]) hu
    have g2 : Gd 1 (.list [.int (h.past.length : Int), .int (h.later.length : Int)]) := gd_list fun x hx => by
      rcases List.mem_cons.1 hx with rfl | hx
      · exact gd_int
      · rw [List.mem_singleton.1 hx]; exact gd_int
    refine ⟨.list [.int h.past.length, .int h.later.length], .list [.int h.past.length, .int h.later.length], .lst (SqL.of (e3.keep _ _ notNil upd_same)) (.cons (.int _) (.cons (.int _) .nil)), .lst (SqL.of upd_same) (.cons (.int _) (.cons (.int _) .nil)), gd_shaped g2 (by decide), gd_shaped g2 (by decide), ?_⟩
    rw [SeqAt.eqv_refl _ g2.1]
    exact q _ (e12.trans e3)
end
end Mr

set_option Elab.async false
set_option linter.all false
set_option maxRecDepth 100000
set_option maxHeartbeats 4000000
/-! Rules of our own, 10: o.m() in a try body, m's exceptions taken at the slots as they stand. -/
namespace Ru
open PySem PySem.Spec PyProof.Rows L2
def tMeth0A (C : Addr) (m : Str) (sp : Sp) (E : St → XK) (ta : TE) : TE := fun σ H Q => ta σ H fun x H1 => ∃ a dx fs, x = .ref a ∧ H1 a = some (.ins C dx fs) ∧ fs.lookup m = none ∧ sp [.ref a] H1 Q (E σ)
section
variable {X : Cx} {CX : CXT} {k : Nat} {C f : Addr} {fd : FuncData} {ps : List Str} {sp : Sp} {E : St → XK} {o : Expr} {m : Str} {apos pos : Pos} {ta : TE}
theorem pe_meth0A {pl : Sem Bool} (he : PE X o ta) (c : Cls X.K C) (hm : Meth X.K C m f) (F : FnOk X.prog X.w X.K X.mg X.base CX k f fd ps sp) (hr : Room k X.A) (hb : Binds X.K fd ps []) (hx : ∀ σ, PassesAt CX X σ (E σ))
    (ht : eval (.Call (.Attribute o m apos) [] [] pos) X.env = (do
      let ov ← eval o X.env
      standAt apos.atName
      let fa ← holding [ov] (getMethod ov m pl)
      callWith pos fa.1 fa.2 (backTo pos (starEach [] X.env)) (backToKw pos (keywordEach [] X.env))) := by rfl) :
    PE X (.Call (.Attribute o m apos) [] [] pos) (tMeth0A C m sp E ta) := by
  refine ⟨fun pins s σ H Q I h => ?_⟩
  refine PySem.W.methodCall_KW (pl := pl) (thn (he.run pins s σ H _ I h) fun u s1 ⟨x, H1, I1, rx, a, dx, fs, ex, ea, l, q⟩ => ?_) ht
  subst ex
  obtain rfl : u = Value.ref a := rx
  refine getmeth_ok I1 ea c hm l ?_
  exact PySem.W.callWith_K0 (first := [.ref a]) I1.kIn hm.kp (run_fnS (us := [.ref a]) (vs := [.ref a]) F hr hb (hx σ) I1 (.cons rfl .nil) q)
end
end Ru

set_option Elab.async false
set_option linter.all false
set_option maxRecDepth 100000
set_option maxHeartbeats 4000000
namespace Mr
open PySem PySem.Spec PyProof.Rows L2 Ru Tx
theorem exists_snoc {α : Type} : ∀ {l : List α}, l ≠ [] → ∃ pre s, l = pre ++ [s]
  | [], h => absurd rfl h
  | [a], _ => ⟨[], a, rfl⟩
  | a :: b :: l, _ => by
    obtain ⟨pre, s, e⟩ := exists_snoc (l := b :: l) (by simp)
    exact ⟨a :: pre, s, by rw [e]; rfl⟩
theorem if_shp {c : Nat} {s z : Int} {σ : St} {H : Hp} {Q : VK} (hc : c = 60 ∨ c = 62) (h2 : σ[2]? = some (some (.str (pS [c])))) (h3 : σ[3]? = some (some (.int z))) (h4 : σ[4]? = some (some (.int s)))
    (k : ∀ t, H t = none → Q (.ref t) (upd H t (.tup [.int (shp c s z).1, .int (shp c s z).2]))) :
    tIf (tTest (tOp rEq (tVar 2) (tC (.str ">")))) (tTup (tCons (tVar 4) (tCons (tVar 3) tNil))) (tTup (tCons (tVar 3) (tCons (tVar 4) tNil))) σ H Q := by
  rcases hc with rfl | rfl
  · exact ⟨_, h2, rfl, _, rfl, iteF ⟨_, h3, _, h4, szl (by show 2 ≤ 1000; decide), k⟩⟩
  · exact ⟨_, h2, rfl, _, rfl, iteT ⟨_, h4, _, h3, szl (by show 2 ≤ 1000; decide), k⟩⟩
section
variable {P : Program} {w : World} {K : PySem.W.Frag} {mg : Str → Option Value} {base : Heap}
theorem ok_longer (T : Txt w K mg) : OkF P w K mg base 3 (ga K "_law_longer") ["_law_box_here", "_law_draft"] spLonger := by
  obtain ⟨fT, kT, bT, FT⟩ := ok_take (P := P) (base := base) T
  obtain ⟨fM, kM, bM, FM⟩ := ok_matrix (P := P) (base := base) T
  refine okf_of T.d_law_longer scLonger (fun _ _ _ _ _ _ us hl => match us, hl with | [_, _], _ => rfl) (fun vs H Q E h => ?_) (fun cdv A outer s H vs Q E hr h => ?_)
  · obtain ⟨b, a, d, n, M, rfl, _⟩ := h
    rfl
  · obtain ⟨b, a, d, n, M, rfl, hB, hn, bM', hT, ⟨sA, mA, ha, hs, ms, hm, hms⟩, hd, hl, q⟩ := h
    have hr1 := hr.mono (show 1 ≤ 2 by decide)
    refine ⟨_, pss_cons (ps_par (i := 2) (j := 3) rfl scLonger.nd rfl rfl (by decide) rfl rfl (pa_cons (pe_ix ix_str pe_str (pe_call FT hr1 rfl T.g_law_take kT bT .nil passL (pa_cons (pv 0) (pa_cons pe_int pa_nil))) (fun _ _ => rfl)) (pa_cons (pe_call FT hr1 rfl T.g_law_take kT bT .nil passL (pa_cons (pv 0) (pa_cons pe_int pa_nil))) pa_nil)) (by rfl))
      (pss_cons (ps_set (i := 4) scLonger.nd rfl (Or.inl rfl) (pe_ix ix_list (pe_ix ix_list (pv 1) pe_int (fun _ _ => rfl)) (pe_un un_neg pe_int) (fun _ _ => rfl)))
      (pss_cons (ps_asg (pe_ifExp (pt_cmpR op_eq (pv 2) pe_str (nomark _)) (pe_tup (pa_cons (pv 4) (pa_cons (pv 3) pa_nil))) (pe_tup (pa_cons (pv 3) (pa_cons (pv 4) pa_nil)))) (pg_tup rfl (pgs_cons (pg_name (i := 5) scLonger.nd rfl (Or.inl rfl)) (pgs_cons (pg_name (i := 6) scLonger.nd rfl (Or.inl rfl)) pgs_nil))))
      (pss_cons (ps_set (i := 7) scLonger.nd rfl (Or.inl rfl) (pe_call FM hr rfl T.g_law_matrix kM bM .nil passL (pa_cons (pv 0) (pa_cons (pe_ix ix_list (pv 1) pe_int (fun _ _ => rfl)) (pa_cons (pv 5) (pa_cons (pv 6) pa_nil))))))
      (pss_one (ps_ret (pe_lst (pa_cons (pv 2) (pa_cons (pv 3) (pa_cons (pv 7) (pa_cons (pe_lst (pa_cons (pe_op op_add_str (pe_ix ix_list (pv 1) pe_int (fun _ _ => rfl)) (pv 2)) (pa_cons (pe_ix ix_list (pv 1) pe_int (fun _ _ => rfl))
        (pa_cons (pe_op op_cat (pe_ix ix_list (pv 1) pe_int (fun _ _ => rfl)) (pe_lst (pa_cons (pv 3) pa_nil))) (pa_cons (pe_op op_cat (pe_ix ix_list (pv 1) pe_int (fun _ _ => rfl)) (pe_lst (pa_cons (pv 7) pa_nil))) pa_nil))))) pa_nil)))))))))), ?_⟩
    have lz := hd.szl
    have lm := hd.mpl
    have ml := paired_len hms
    obtain ⟨pre, sz, es⟩ := exists_snoc (l := d.szs) (by intro z; rw [z] at lz; simp at lz)
    have hb1 : ∀ x ∈ [b], x ∈ M := fun x hx => by rw [List.mem_singleton.1 hx]; exact bM'
    refine ⟨_, rfl, b, 2, n, rfl, by decide, by decide, hB, by omega, fun c0 H1 c00 c01 e1 hB1 => ?_⟩
    obtain ⟨c, hc, ec⟩ : ∃ c : Nat, (c = 60 ∨ c = 62) ∧ atI ("><" : Str).cps.toList c0 = some c := by
      rcases (show c0 = 0 ∨ c0 = 1 by omega) with rfl | rfl
      · exact ⟨62, .inr rfl, by decide +kernel⟩
      · exact ⟨60, .inl rfl, by decide +kernel⟩
    refine ⟨_, _, c, rfl, rfl, szl (by decide +kernel), ec, ?_⟩
    have ep : (⟨#[c]⟩ : Str) = pS [c] := rfl
    rw [ep]
    refine ⟨_, rfl, b, 4, n + 1, rfl, by decide, by decide, hB1, by omega, fun z H2 z0 z1 e2 hB2 => ?_⟩
    refine ⟨_, _, rfl, ?_⟩
    have e12 := e1.trans e2
    have im2 := e12.im hb1
    refine ⟨_, rfl, a, _, _, _, rfl, rfl, SqL.of (im_at (im2 _ _ ha)), (show atI [V.str (pS d.pat), V.int d.pr, V.ref sA, V.ref mA] 2 = some (V.ref sA) from rfl), _, rfl, sA, _, _, V.int sz, rfl, rfl, SqL.of (im_at (im2 _ _ hs)), ?_, ?_⟩
    · rw [es, List.map_append]
      exact atI_last _ _
    refine if_shp hc rfl rfl rfl fun t ht => ?_
    refine ⟨t, _, rfl, SqT.of upd_same, rfl, _, _, rfl, _, _, rfl, rfl, ?_⟩
    have e3 := Ext.new (N := []) (o := .tup [V.int (shp c sz z).1, V.int (shp c sz z).2]) ht
    have e13 := e12.trans e3.any
    have im3 := e13.im hb1
    have hT3 := hT.ext e13
    have tb : b ≠ t := fun x => (hT.ext e12).no ht (x ▸ bM')
    refine ⟨_, rfl, _, rfl, a, _, _, _, rfl, rfl, SqL.of (im_at (im3 _ _ ha)), (show atI [V.str (pS d.pat), V.int d.pr, V.ref sA, V.ref mA] 1 = some (V.int d.pr) from rfl), _, rfl, _, rfl, ?_⟩
    have hsz : 0 ≤ sz ∧ sz ≤ 6 := hd.szr sz (by rw [es]; simp)
    have sh : 0 ≤ (shp c sz z).1 ∧ (shp c sz z).1 ≤ 6 ∧ 0 ≤ (shp c sz z).2 ∧ (shp c sz z).2 ≤ 6 := by
      unfold shp
      split <;> (refine ⟨?_, ?_, ?_, ?_⟩ <;> show (_ : Int) ≤ _ <;> omega)
    have pp := hd.pr.pos
    refine ⟨b, d.pr, (shp c sz z).1.toNat, (shp c sz z).2.toNat, n + 2, M, ?_, by omega, by omega, by omega, by omega, hB2.upd tb, by omega, bM', hT3, fun u m H4 hmo e4 hB4 hmm => ?_⟩
    · show [V.ref b, V.int d.pr, V.int (shp c sz z).1, V.int (shp c sz z).2] = _
      rw [Int.toNat_of_nonneg sh.1, Int.toNat_of_nonneg sh.2.2.1]
    have hgd : DrOk (growD d c z m) := grow_ok hd hl hc z0 (by omega) (s := sz) (by
      have : pre.length = d.pat.length := by have := congrArg List.length es; rw [List.length_append, List.length_singleton] at this; omega
      rw [es, List.getElem?_append_right (by omega), this, Nat.sub_self]
      rfl) (mat_i hmo (Int.toNat_of_nonneg sh.1) (Int.toNat_of_nonneg sh.2.2.1))
    have e14 := e13.trans e4
    have im4 := e14.im hb1
    have hT4 := hT.ext e14
    refine ⟨_, rfl, _, rfl, _, rfl, ?_⟩
    refine ⟨_, rfl, a, _, _, _, rfl, rfl, SqL.of (im_at (im4 _ _ ha)), (show atI [V.str (pS d.pat), V.int d.pr, V.ref sA, V.ref mA] 0 = some (V.str (pS d.pat)) from rfl), _, rfl, _, _, rfl, rfl, szl (by rw [pS_len, pS_len]; show d.pat.length + 1 ≤ 1000; omega), ?_⟩
    rw [pS_app]
    refine ⟨_, rfl, a, _, _, _, rfl, rfl, SqL.of (im_at (im4 _ _ ha)), (show atI [V.str (pS d.pat), V.int d.pr, V.ref sA, V.ref mA] 1 = some (V.int d.pr) from rfl), ?_⟩
    refine ⟨_, rfl, a, _, _, _, rfl, rfl, SqL.of (im_at (im4 _ _ ha)), (show atI [V.str (pS d.pat), V.int d.pr, V.ref sA, V.ref mA] 2 = some (V.ref sA) from rfl), _, rfl, szl (by show 1 ≤ 1000; decide), fun l1 hl1 => ?_⟩
    have e5 := Ext.new (N := []) (o := .lst [V.int z]) hl1
    refine ⟨sA, l1, _, _, rfl, rfl, e5.keep _ _ notNil (im_at (im4 _ _ hs)), upd_same, szl (by rw [List.length_map]; show d.szs.length + 1 ≤ 1000; omega), fun l2 hl2 => ?_⟩
    have e6 := Ext.new (N := []) (o := .lst (d.szs.map V.int ++ [V.int z])) hl2
    have im6 := im4.trans (im_ext (e5.trans e6))
    refine ⟨_, rfl, a, _, _, _, rfl, rfl, SqL.of (im_at (im6 _ _ ha)), (show atI [V.str (pS d.pat), V.int d.pr, V.ref sA, V.ref mA] 3 = some (V.ref mA) from rfl), _, rfl, szl (by show 1 ≤ 1000; decide), fun l3 hl3 => ?_⟩
    have e7 := Ext.new (N := []) (o := .lst [V.ref u]) hl3
    refine ⟨mA, l3, _, _, rfl, rfl, e7.keep _ _ notNil (im_at (im6 _ _ hm)), upd_same, szl (by rw [List.length_map]; show ms.length + 1 ≤ 1000; omega), fun l4 hl4 => ?_⟩
    have e8 := Ext.new (N := []) (o := .lst (ms.map V.ref ++ [V.ref u])) hl4
    have hT5 := hT4.ext e5
    have hT7 := (hT5.ext e6).ext e7
    refine ⟨szl (by show 4 ≤ 1000; decide), fun l5 hl5 => ?_⟩
    have e9 := Ext.new (N := []) (o := .lst [.str (pS (d.pat ++ [c])), .int d.pr, .ref l2, .ref l4]) hl5
    refine ⟨szl (by show 4 ≤ 1000; decide), fun r hr' => ?_⟩
    have e10 := Ext.new (N := []) (o := .lst [.str (pS [c]), .int z, .ref u, .ref l5]) hr'
    have f1 := (e5.trans e6).trans ((e7.trans e8).trans (e9.trans e10))
    refine q r l5 u c z m _ (e14.trans f1.any) ((hB4.ext f1 notNil).more (by omega)) upd_same (hmm.mono (im_ext f1)) ⟨l2, l4, im_ext e10 _ _ (im_new (hT7.ext e8) hl5 rfl), ?_, ms ++ [u], ?_, paired_snoc (Paired.mapP hms fun _ _ h => (h.mono im4).mono (im_ext f1)) (hmm.mono (im_ext f1))⟩ hgd
    · rw [im_ext (e7.trans (e8.trans (e9.trans e10))) _ _ (im_new hT5 hl2 rfl)]
      show some (HO.lst (d.szs.map V.int ++ [V.int z])) = some (HO.lst ((d.szs ++ [z]).map V.int))
      rw [List.map_append]
      rfl
    · rw [im_ext (e9.trans e10) _ _ (im_new hT7 hl4 rfl), List.map_append]
      rfl
end
end Mr

set_option Elab.async false
set_option linter.all false
set_option maxRecDepth 100000
set_option maxHeartbeats 4000000
namespace Mr
open PySem PySem.Spec PyProof.Rows L2 Ru Tx
/-- box and stream as they stand together -/
structure Wd (K : PySem.W.Frag) (M : List Addr) (b p : Addr) (H : Hp) (n : Nat) (h : Hist) (k : Nat) : Prop where
  box : IsBox H b n
  st : IsS K M H p h
  ok : HOkN h k
  bM : b ∈ M
  pM : p ∈ M
  bp : b ≠ p
  tr : Tr M H
theorem Wd.ext {K : PySem.W.Frag} {M : List Addr} {b p : Addr} {H H' : Hp} {n k : Nat} {h : Hist} (x : Wd K M b p H n h k) (e : Ext [] H H') : Wd K M b p H' n h k :=
  ⟨x.box.ext e notNil, x.st.ext e notNil (fun _ z => nomatch z), x.ok, x.bM, x.pM, x.bp, x.tr.ext e⟩
theorem Wd.more {K : PySem.W.Frag} {M : List Addr} {b p : Addr} {H : Hp} {n n' k k' : Nat} {h : Hist} (x : Wd K M b p H n h k) (l : n ≤ n') (l2 : k ≤ k') : Wd K M b p H n' h k' :=
  ⟨x.box.more l, x.st, x.ok.more l2, x.bM, x.pM, x.bp, x.tr⟩
theorem Wd.boxed {K : PySem.W.Frag} {M : List Addr} {b p : Addr} {H H' : Hp} {n n' k : Nat} {h : Hist} (x : Wd K M b p H n h k) (e : Ext [b] H H') (hb : IsBox H' b n') : Wd K M b p H' n' h k :=
  ⟨hb, x.st.ext e (by simpa using x.bp.symm) (fun y z => by rw [List.mem_singleton.1 z]; exact x.bM), x.ok, x.bM, x.pM, x.bp, x.tr.ext e⟩
theorem Wd.moved {K : PySem.W.Frag} {M : List Addr} {b p : Addr} {H H' : Hp} {n k k' : Nat} {h h' : Hist} (x : Wd K M b p H n h k) (e : Ext [p] H H') (hs : IsS K M H' p h') (ho : HOkN h' k') : Wd K M b p H' n h' k' :=
  ⟨x.box.ext e (by simpa using x.bp), hs, ho, x.bM, x.pM, x.bp, x.tr.ext e⟩
theorem Wd.bIn {K : PySem.W.Frag} {M : List Addr} {b p : Addr} {H : Hp} {n k : Nat} {h : Hist} (x : Wd K M b p H n h k) : ∀ y ∈ [b], y ∈ M := fun y hy => by rw [List.mem_singleton.1 hy]; exact x.bM
theorem Wd.pIn {K : PySem.W.Frag} {M : List Addr} {b p : Addr} {H : Hp} {n k : Nat} {h : Hist} (x : Wd K M b p H n h k) : ∀ y ∈ [p], y ∈ M := fun y hy => by rw [List.mem_singleton.1 hy]; exact x.pM
theorem ext_b {b p : Addr} {H H' : Hp} (e : Ext [b] H H') : Ext [b, p] H H' := e.wide fun x h => by rw [List.mem_singleton.1 h]; simp
theorem ext_p {b p : Addr} {H H' : Hp} (e : Ext [p] H H') : Ext [b, p] H H' := e.wide fun x h => by rw [List.mem_singleton.1 h]; simp
def spStep (K : PySem.W.Frag) : Sp := fun vs H Q _ => ∃ (b p s : Addr) (h : Hist) (n k : Nat) (M : List Addr), vs = [.ref b, .ref p, .ref s] ∧ Wd K M b p H n h k ∧ n + 300 ≤ nMax ∧ k ≤ 500 ∧ IsLs (im M H) s h ∧
  ∀ (s' : Addr) (h' : Hist) (H' : Hp), Ext [b, p] H H' → Wd K M b p H' (n + 300) h' (k + 1) → IsLs (im M H') s' h' → Q (.ref s') H'
theorem op_eqDK {X : Cx} {K : PySem.W.Frag} (h : X.K = K) (hu : X.A.units + 64 < cLine) : OpR X (compareOp .Eq) (rEqD K) := by
  subst h
  exact op_eqD hu
theorem sl_listK {X : Cx} {K : PySem.W.Frag} (h : X.K = K) : SlR X (rSlL K) := by
  subst h
  exact sl_list
theorem ix_listK {X : Cx} {K : PySem.W.Frag} (h : X.K = K) : IxR X (rIxL K) := by
  subst h
  exact ix_list
abbrev nStep : List Str := ["_law_box_here", "_law_stream", "_law_state", "_law_past", "_law_here", "_law_later", "_law_way", "_law_sign", "_law_amount", "_law_piece", "_law_fresh"]
theorem scStep : FnScope nStep ["_law_box_here", "_law_stream", "_law_state"] (defScope sStep) := ⟨rfl, rfl, rfl, by decide +kernel, rfl, by decide +kernel, by decide +kernel⟩
theorem and2 {A B : TT} {σ : St} {H : Hp} {Q : Bool → Hp → Prop} (b1 b2 : Bool) (h1 : ∀ Q' : Bool → Hp → Prop, Q' b1 H → A σ H Q') (h2 : ∀ Q' : Bool → Hp → Prop, Q' b2 H → B σ H Q') (k : Q (b1 && b2) H) : tAnd A B σ H Q := by
  refine h1 _ ?_
  cases b1 with
  | true => exact iteT (h2 _ k)
  | false => exact iteF k
theorem if_and2 {A B : TT} {t u : TS} {D : Ends} {σ : St} {H : Hp} (b1 b2 : Bool) (h1 : ∀ Q' : Bool → Hp → Prop, Q' b1 H → A σ H Q') (h2 : ∀ Q' : Bool → Hp → Prop, Q' b2 H → B σ H Q') (k : if (b1 && b2) = true then t D σ H else u D σ H) : tIfS (tAnd A B) t u D σ H :=
  and2 b1 b2 h1 h2 k
theorem u_gName {i : Nat} {v : V} {σ : St} {H : Hp} {Q : St → Hp → Prop} (h : Q (σ.set i (some v)) H) : gName i v σ H Q := h
theorem u_seq {t u : TS} {D : Ends} {σ : St} {H : Hp} (h : t { D with nx := u D } σ H) : tSeq t u D σ H := h
theorem drs_nil {G : Hp} {a : Addr} (h : G a = some (.lst [])) : IsDrs G a [] := ⟨[], h, .nil⟩
theorem cutV_none (xs : List V) : cutV xs none none = xs := by
  unfold cutV
  rw [HT.sIx_none, HT.sIx_none]
  simp
section
variable {P : Program} {w : World} {K : PySem.W.Frag} {mg : Str → Option Value} {base : Heap}
theorem ok_step (T : Txt w K mg) : OkF P w K mg base 8 (ga K "_law_step") ["_law_box_here", "_law_stream", "_law_state"] (spStep K) := by
  obtain ⟨fT, kT, bT, FT⟩ := ok_take (P := P) (base := base) T
  obtain ⟨fL, kL, bL, FL⟩ := ok_longer (P := P) (base := base) T
  obtain ⟨fG, kG, bG, FG⟩ := ok_st_grow (P := P) (base := base) T
  obtain ⟨fC, kC, bC, FC⟩ := ok_st_cut (P := P) (base := base) T
  obtain ⟨fD, kD, bD, FD⟩ := ok_cut (P := P) (base := base) T
  obtain ⟨fU, kU, bU, FU⟩ := ok_st_undo (P := P) (base := base) T
  obtain ⟨fR, kR, bR, FR⟩ := ok_st_redo (P := P) (base := base) T
  refine okf_of T.d_law_step scStep (fun _ _ _ _ _ _ us hl => match us, hl with | [_, _, _], _ => rfl) (fun vs H Q E h => ?_) (fun cdv A outer s H vs Q E hr h => ?_)
  · obtain ⟨b, p, s, h, n, k, M, rfl, _⟩ := h
    rfl
  · obtain ⟨b, p, st, h, n, k, M, rfl, W0, hn, hk, ⟨x, y, z, hst, hx, hy, hz⟩, q⟩ := h
    have hr1 := hr.mono (show 1 ≤ 7 by decide)
    have hr3 := hr.mono (show 3 ≤ 7 by decide)
    refine ⟨_, pss_cons (ps_asg (pv 2) (pg_lst rfl (pgs_cons (pg_name (i := 3) scStep.nd rfl (Or.inl rfl)) (pgs_cons (pg_name (i := 4) scStep.nd rfl (Or.inl rfl)) (pgs_cons (pg_name (i := 5) scStep.nd rfl (Or.inl rfl)) pgs_nil)))))
      (pss_cons (ps_set (i := 6) scStep.nd rfl (Or.inl rfl) (pe_call FT hr1 rfl T.g_law_take kT bT .nil passL (pa_cons (pv 0) (pa_cons pe_int pa_nil))))
      (pss_cons (ps_if (PW.pt (pw_and (pt_cmpR op_lt (pv 6) pe_int (nomark _)) (pw_and1 (pt_cmpR op_lt (pe_callB call_len_str (by rfl) T.b_len bt_len (pa_cons (pe_ix ix_list (pv 4) pe_int (fun _ _ => rfl)) pa_nil)) pe_int (nomark _)))))
        (pss_cons (ps_asg (pe_call FL hr3 rfl T.g_law_longer kL bL .nil passL (pa_cons (pv 0) (pa_cons (pv 4) pa_nil))) (pg_lst rfl (pgs_cons (pg_name (i := 7) scStep.nd rfl (Or.inl rfl)) (pgs_cons (pg_name (i := 8) scStep.nd rfl (Or.inl rfl)) (pgs_cons (pg_name (i := 9) scStep.nd rfl (Or.inl rfl)) (pgs_cons (pg_name (i := 10) scStep.nd rfl (Or.inl rfl)) pgs_nil))))))
        (pss_cons (ps_expr (pe_meth (pv 1) T.cl_Stream T.m_Stream_grow FG hr bG .nil passL (pa_cons (pv 7) (pa_cons (pv 8) (pa_cons (pv 9) pa_nil)))))
        (pss_one (ps_ret (pe_lst (pa_cons (pe_op op_cat (pv 3) (pe_lst (pa_cons (pv 4) pa_nil))) (pa_cons (pv 10) (pa_cons (pe_lst pa_nil) pa_nil)))))))) pss_nil)
      (pss_cons (ps_if (PW.pt (pw_and (pt_cmpR op_eq (pv 6) pe_int (nomark _)) (pw_and1 (pt_cmpR op_gt (pe_callB call_len_seq (by rfl) T.b_len bt_len (pa_cons (pe_ix ix_list (pv 4) pe_int (fun _ _ => rfl)) pa_nil)) pe_int (nomark _)))))
        (pss_cons (ps_expr (pe_meth (pv 1) T.cl_Stream T.m_Stream_cut FC hr bC .nil passL (pa_cons pe_int pa_nil)))
        (pss_one (ps_ret (pe_lst (pa_cons (pe_op op_cat (pv 3) (pe_lst (pa_cons (pv 4) pa_nil))) (pa_cons (pe_call FD hr1 rfl T.g_law_cut kD bD .nil passL (pa_cons (pv 4) (pa_cons pe_int pa_nil))) (pa_cons (pe_lst pa_nil) pa_nil))))))) pss_nil)
      (pss_one (ps_try_cls rfl rfl scStep.nd (takes_of rfl rfl rfl rfl) (fun W pn xe tk => pss_cons (ps_if (pt_cmpR op_lt (pv 6) pe_int (nomark _))
          (pss_cons (ps_expr (pe_meth0A (pv 1) T.cl_Stream T.m_Stream_undo FU hr3 bU (fun σ => passAt tk σ)))
          (pss_one (ps_ret (pe_lst (pa_cons (pe_slice (sl_listK (K := K) rfl) (pv 3) po_none (po_some (pe_un un_neg pe_int))) (pa_cons (pe_ix (ix_listK (K := K) rfl) (pv 3) (pe_un un_neg pe_int) (fun _ _ => rfl)) (pa_cons (pe_op op_cat (pe_lst (pa_cons (pv 4) pa_nil)) (pv 5)) pa_nil))))))) pss_nil)
          (pss_cons (ps_expr (pe_meth0A (pv 1) T.cl_Stream T.m_Stream_redo FR hr3 bR (fun σ => passAt tk σ)))
          (pss_one (ps_ret (pe_lst (pa_cons (pe_op op_cat (pv 3) (pe_lst (pa_cons (pv 4) pa_nil))) (pa_cons (pe_ix (ix_listK (K := K) rfl) (pv 5) pe_int (fun _ _ => rfl)) (pa_cons (pe_slice (sl_listK (K := K) rfl) (pv 5) (po_some pe_int) po_none) pa_nil))))))))
        (.cons (o := none) ⟨rfl, by decide, .inl T.g_NothingToUndo⟩ (.inl ⟨rfl, rfl⟩) (fun a oe cls d pn hz hf => pss_one (ps_ret (pe_ifExp (PW.pt (pw_and (pt_cmpR (op_eqDK (K := K) rfl hr.units) (pv 3) (pe_lst pa_nil) (nomark _)) (pw_and1 (pt_cmpR op_lt (pv 6) pe_int (nomark _))))) (pv 2) (pe_lst (pa_cons pe_str pa_nil)))))
        (.cons (o := none) ⟨rfl, by decide, .inl T.g_NothingToRedo⟩ (.inl ⟨rfl, rfl⟩) (fun a oe cls d pn hz hf => pss_one (ps_ret (pe_ifExp (PW.pt (pw_and (pt_cmpR (op_eqDK (K := K) rfl hr.units) (pv 5) (pe_lst pa_nil) (nomark _)) (pw_and1 (pt_cmpR op_gt (pv 6) pe_int (nomark _))))) (pv 2) (pe_lst (pa_cons pe_str pa_nil)))))
        .nil))))))), ?_⟩
    refine ⟨_, rfl, st, _, rfl, SqL.of (im_at hst), rfl, _, _, rfl, _, _, rfl, _, _, rfl, rfl, ?_⟩
    refine ⟨_, rfl, b, 8, n, rfl, by decide, by decide, W0.box, by omega, fun way H1 w0 w1 e1 hB1 => ?_⟩
    have W1 := W0.boxed e1 hB1
    have im1 := e1.im W0.bIn
    have hd := W0.ok.here
    have hlen := W0.ok.len
    obtain ⟨sA, mA, hya, hys, _⟩ := id hy
    obtain ⟨xs, hxa, hxs⟩ := hx
    obtain ⟨zs, hza, hzs⟩ := hz
    have xl := paired_len hxs
    have zl := paired_len hzs
    have pl := hd.pat.1
    have lz := hd.szl
    refine u_gName ?_
    dsimp only
    refine u_seq ?_
    refine if_and2 (decide (way < 3)) (decide (((pS h.here.pat).length : Int) < 6)) (fun Q' k => ⟨_, rfl, _, _, rfl, rfl, _, rfl, k⟩)
      (fun Q' k => ⟨_, rfl, y, _, _, _, rfl, rfl, SqL.of (im_at (im1 _ _ hya)), (show atI [V.str (pS h.here.pat), V.int h.here.pr, V.ref sA, V.ref mA] 0 = some (V.str (pS h.here.pat)) from rfl), _, rfl, szl (by rw [pS_len]; omega), _, _, rfl, rfl, _, rfl, k⟩) ?_
    refine ite2 (fun c => ?_) (fun c1 => ?_)
    · -- grow
      rw [Bool.and_eq_true] at c
      have c6 : h.here.pat.length < 6 := by have := of_decide_eq_true c.2; rw [pS_len] at this; omega
      refine ⟨_, rfl, _, rfl, b, y, h.here, n + 1, M, rfl, hB1, by omega, W0.bM, W1.tr, hy.mono im1, hd, c6, fun r e uA sg zz m H2 e2 hB2 hr2 hm2 he2 hg2 => ?_⟩
      have W2 := W1.boxed e2 hB2
      have im2 := im1.trans (e2.im W0.bIn)
      refine ⟨r, _, rfl, SqL.of hr2, rfl, _, _, rfl, _, _, rfl, _, _, rfl, _, _, rfl, rfl, ?_⟩
      obtain ⟨dx, t, hp2, _⟩ := id W2.st
      refine ⟨_, rfl, p, dx, _, rfl, hp2, rfl, _, rfl, _, rfl, _, rfl, p, uA, h, sg, zz, m, M, rfl, W2.st, W2.pM, W2.tr, by omega, hm2, hg2, fun H3 e3 hs3 => ?_⟩
      have W3 := W2.moved e3 hs3 (W2.ok.step hg2)
      have im3 := im2.trans (e3.im W0.pIn)
      refine ⟨_, rfl, _, rfl, szl (by show 1 ≤ 1000; decide), fun l1 hl1 => ?_⟩
      have f1 := Ext.new (N := []) (o := .lst [V.ref y]) hl1
      refine ⟨x, l1, _, _, rfl, rfl, f1.keep _ _ notNil (im_at (im3 _ _ hxa)), upd_same, szl (by rw [List.length_map]; show xs.length + 1 ≤ 1000; omega), fun l2 hl2 => ?_⟩
      have f2 := Ext.new (N := []) (o := .lst (xs.map V.ref ++ [V.ref y])) hl2
      refine ⟨_, rfl, Nat.zero_le _, fun l3 hl3 => ⟨szl (by show 3 ≤ 1000; decide), fun u hu => ?_⟩⟩
      have f3 := Ext.new (N := []) (o := .lst []) hl3
      have f4 := Ext.new (N := []) (o := .lst [.ref l2, .ref e, .ref l3]) hu
      have f := (f1.trans f2).trans (f3.trans f4)
      have t1 := W3.tr.ext f1
      have t2 := t1.ext f2
      refine q u (stepH h (growD h.here sg zz m)) _ (((ext_b e1).trans (ext_b e2)).trans ((ext_p e3).trans f.any)) ((W3.ext f).more (by omega) (Nat.le_refl _)) ⟨l2, e, l3, im_new (t2.ext f3) hu rfl, ⟨xs ++ [y], ?_, paired_snoc (Paired.mapP hxs fun _ _ h => (h.mono im3).mono (im_ext f)) ((hy.mono im3).mono (im_ext f))⟩, (he2.mono (e3.im W0.pIn)).mono (im_ext f), drs_nil (im_ext f4 _ _ (im_new t2 hl3 rfl))⟩
      rw [im_ext (f3.trans f4) _ _ (im_new t1 hl2 rfl), List.map_append]
      rfl
    dsimp only [tNext]
    refine u_seq ?_
    refine if_and2 (decide (V.int way = V.int 3)) (decide (((h.here.szs.map V.int).length : Int) > 1)) (fun Q' k => ⟨_, rfl, rfl, _, rfl, k⟩)
      (fun Q' k => ⟨_, rfl, y, _, _, _, rfl, rfl, SqL.of (im_at (im1 _ _ hya)), (show atI [V.str (pS h.here.pat), V.int h.here.pr, V.ref sA, V.ref mA] 2 = some (V.ref sA) from rfl), sA, _, rfl, .inl (SqL.of (im_at (im1 _ _ hys))), _, _, rfl, rfl, _, rfl, k⟩) ?_
    obtain ⟨dx, t, hp1, _⟩ := id W1.st
    refine ite2 (fun c => ?_) (fun c2 => ?_)
    · -- cut
      rw [Bool.and_eq_true] at c
      have c6 : 1 ≤ h.here.pat.length := by have := of_decide_eq_true c.2; rw [List.length_map] at this; omega
      refine ⟨_, rfl, p, dx, _, rfl, hp1, rfl, p, h, 1, M, rfl, W1.st, W1.pM, W1.tr, by omega, hd, .inl ⟨rfl, c6, fun H3 e3 hs3 => ?_⟩⟩
      have W3 := W1.moved e3 hs3 (W1.ok.step (cut_ok hd c6))
      have im3 := im1.trans (e3.im W0.pIn)
      refine ⟨_, rfl, _, rfl, szl (by show 1 ≤ 1000; decide), fun l1 hl1 => ?_⟩
      have f1 := Ext.new (N := []) (o := .lst [V.ref y]) hl1
      refine ⟨x, l1, _, _, rfl, rfl, f1.keep _ _ notNil (im_at (im3 _ _ hxa)), upd_same, szl (by rw [List.length_map]; show xs.length + 1 ≤ 1000; omega), fun l2 hl2 => ?_⟩
      have f2 := Ext.new (N := []) (o := .lst (xs.map V.ref ++ [V.ref y])) hl2
      have t1 := W3.tr.ext f1
      have t2 := t1.ext f2
      refine ⟨_, rfl, y, h.here, M, rfl, (hy.mono im3).mono (im_ext (f1.trans f2)), t2, hd, c6, fun e H4 e4 he4 => ?_⟩
      refine ⟨Nat.zero_le _, fun l3 hl3 => ⟨szl (by show 3 ≤ 1000; decide), fun u hu => ?_⟩⟩
      have f3 := Ext.new (N := []) (o := .lst []) hl3
      have f4 := Ext.new (N := []) (o := .lst [.ref l2, .ref e, .ref l3]) hu
      have f := ((f1.trans f2).trans e4).trans (f3.trans f4)
      have t4 := t2.ext e4
      refine q u (stepH h (cutD h.here)) _ ((ext_b e1).trans ((ext_p e3).trans f.any)) ((W3.ext f).more (by omega) (Nat.le_refl _)) ⟨l2, e, l3, im_new (t4.ext f3) hu rfl, ⟨xs ++ [y], ?_, paired_snoc (Paired.mapP hxs fun _ _ h => (h.mono im3).mono (im_ext f)) ((hy.mono im3).mono (im_ext f))⟩, he4.mono (im_ext (f3.trans f4)), drs_nil (im_ext f4 _ _ (im_new t4 hl3 rfl))⟩
      rw [im_ext (e4.trans (f3.trans f4)) _ _ (im_new t1 hl2 rfl), List.map_append]
      rfl
    refine ⟨_, rfl, _, _, rfl, rfl, _, rfl, ?_⟩
    have same : ∀ H2, Ext [] H1 H2 → Q (.ref st) H2 := fun H2 f => q st h H2 ((ext_b e1).trans f.any) ((W1.ext f).more (by omega) (by omega)) (IsLs.mono (im1.trans (im_ext f)) ⟨x, y, z, hst, ⟨xs, hxa, hxs⟩, hy, ⟨zs, hza, hzs⟩⟩)
    have gn : Gd 1 (.list []) := gd_list fun x hx => nomatch hx
    refine ite2 (fun c => ?_) (fun c => ?_)
    · -- undo
      refine ⟨_, rfl, p, dx, _, rfl, hp1, rfl, p, h, M, rfl, W1.st, W1.pM, W1.tr, by omega, ?_⟩
      by_cases hp0 : h.past = []
      · refine .inl ⟨hp0, true, T.e_NothingToUndo_NothingToUndo, fun _ a ha => ?_, fun z => nomatch z⟩
        rw [hp0] at hxs
        cases hxs
        refine ⟨_, rfl, Nat.zero_le _, fun l hl => ?_⟩
        have f := Ext.new (N := []) (o := .lst []) hl
        refine ⟨.list [], .list [], .lst (SqL.of (f.keep _ _ notNil (im_at (im1 _ _ hxa)))) .nil, .lst (SqL.of upd_same) .nil, gd_shaped gn (by decide), gd_shaped gn (by decide), _, rfl, ?_⟩
        rw [SeqAt.eqv_refl _ gn.1]
        refine iteT ⟨_, rfl, _, _, rfl, rfl, true, congrArg V.bl c, iteT ⟨_, rfl, same _ f⟩⟩
      · obtain ⟨ps, r, ep⟩ := exists_snoc hp0
        refine .inr ⟨ps, r, ep, fun H3 e3 hs3 => ?_⟩
        have hk' : HOkN ⟨ps, r, h.here :: h.later⟩ (k + 1) := ⟨fun d hd' => W0.ok.past d (by rw [ep]; exact List.mem_append_left _ hd'), W0.ok.past r (by rw [ep]; simp), fun d hd' => by
            rcases List.mem_cons.1 hd' with rfl | hd'
            · exact hd
            · exact W0.ok.later d hd', by
            show ps.length + (h.here :: h.later).length ≤ k + 1
            rw [ep, List.length_append, List.length_singleton] at hlen
            rw [List.length_cons]
            omega⟩
        have W3 := W1.moved e3 hs3 hk'
        have im3 := im1.trans (e3.im W0.pIn)
        rw [ep] at hxs xl
        obtain ⟨us, u, rfl, hus, hu1⟩ := paired_unsnoc hxs
        rw [List.map_append] at hxa
        refine ⟨_, rfl, _, rfl, _, rfl, x, _, rfl, SqL.of (im_at (im3 _ _ hxa)), fun l1 hl1 => ?_⟩
        rw [show cutV (us.map V.ref ++ [u].map V.ref) none (some (-1)) = us.map V.ref from cutV_init _ _]
        have f1 := Ext.new (N := []) (o := .lst (us.map V.ref)) hl1
        refine ⟨_, rfl, _, rfl, x, _, _, _, rfl, rfl, SqL.of (f1.keep _ _ notNil (im_at (im3 _ _ hxa))), (show atI (us.map V.ref ++ [V.ref u]) (-1) = some (V.ref u) from atI_last _ _), ?_⟩
        refine ⟨_, rfl, szl (by show 1 ≤ 1000; decide), fun l2 hl2 => ?_⟩
        have f2 := Ext.new (N := []) (o := .lst [V.ref y]) hl2
        refine ⟨_, rfl, l2, z, _, _, rfl, rfl, upd_same, (f1.trans f2).keep _ _ notNil (im_at (im3 _ _ hza)), szl (by rw [List.length_map]; show 1 + zs.length ≤ 1000; omega), fun l3 hl3 => ?_⟩
        have f3 := Ext.new (N := []) (o := .lst ([V.ref y] ++ zs.map V.ref)) hl3
        refine ⟨szl (by show 3 ≤ 1000; decide), fun v hv => ?_⟩
        have f4 := Ext.new (N := []) (o := .lst [.ref l1, .ref u, .ref l3]) hv
        have f := (f1.trans f2).trans (f3.trans f4)
        have t1 := W3.tr.ext f1
        have t2 := t1.ext f2
        exact q v ⟨ps, r, h.here :: h.later⟩ _ ((ext_b e1).trans ((ext_p e3).trans f.any)) ((W3.ext f).more (by omega) (Nat.le_refl _)) ⟨l1, u, l3, im_new (t2.ext f3) hv rfl, ⟨us, im_ext (f2.trans (f3.trans f4)) _ _ (im_new W3.tr hl1 rfl), Paired.mapP hus fun _ _ h => (h.mono im3).mono (im_ext f)⟩, (hu1.mono im3).mono (im_ext f),
          ⟨y :: zs, im_ext f4 _ _ (im_new t2 hl3 rfl), .cons ((hy.mono im3).mono (im_ext f)) (Paired.mapP hzs fun _ _ h => (h.mono im3).mono (im_ext f))⟩⟩
    · -- redo
      refine ⟨_, rfl, p, dx, _, rfl, hp1, rfl, p, h, M, rfl, W1.st, W1.pM, W1.tr, by omega, ?_⟩
      cases hl0 : h.later with
      | nil =>
        refine .inl ⟨rfl, false, T.e_NothingToRedo_NothingToUndo, (fun z => nomatch z), fun _ => ⟨true, T.e_NothingToRedo_NothingToRedo, fun _ a ha => ?_, fun z => nomatch z⟩⟩
        rw [hl0] at hzs
        cases hzs
        refine ⟨_, rfl, Nat.zero_le _, fun l hl => ?_⟩
        have f := Ext.new (N := []) (o := .lst []) hl
        refine ⟨.list [], .list [], .lst (SqL.of (f.keep _ _ notNil (im_at (im1 _ _ hza)))) .nil, .lst (SqL.of upd_same) .nil, gd_shaped gn (by decide), gd_shaped gn (by decide), _, rfl, ?_⟩
        rw [SeqAt.eqv_refl _ gn.1]
        have c' : decide ((5 : Int) < way) = true := decide_eq_true (by have := mt (fun x => decide_eq_true x) c; omega)
        refine iteT ⟨_, rfl, _, _, rfl, rfl, true, congrArg V.bl c', iteT ⟨_, rfl, ?_⟩⟩
        refine q st h _ ((ext_b e1).trans f.any) ((W1.ext f).more (by omega) (by omega)) (IsLs.mono (im1.trans (im_ext f)) ⟨x, y, z, hst, ⟨xs, hxa, hxs⟩, hy, ⟨[], hza, by rw [hl0]; exact .nil⟩⟩)
      | cons r ls =>
        refine .inr ⟨r, ls, rfl, fun H3 e3 hs3 => ?_⟩
        have hk' : HOkN ⟨h.past ++ [h.here], r, ls⟩ (k + 1) := ⟨fun d hd' => by
            rcases List.mem_append.1 hd' with hd' | hd'
            · exact W0.ok.past d hd'
            · rw [List.mem_singleton.1 hd']; exact hd, W0.ok.later r (by rw [hl0]; simp), fun d hd' => W0.ok.later d (by rw [hl0]; exact List.mem_cons_of_mem _ hd'), by
            show (h.past ++ [h.here]).length + ls.length ≤ k + 1
            rw [hl0, List.length_cons] at hlen
            rw [List.length_append, List.length_singleton]
            omega⟩
        have W3 := W1.moved e3 hs3 hk'
        have im3 := im1.trans (e3.im W0.pIn)
        rw [hl0] at hzs zl
        cases hzs with
        | @cons u _ us _ hu1 hus =>
        refine ⟨_, rfl, _, rfl, szl (by show 1 ≤ 1000; decide), fun l1 hl1 => ?_⟩
        have f1 := Ext.new (N := []) (o := .lst [V.ref y]) hl1
        refine ⟨x, l1, _, _, rfl, rfl, f1.keep _ _ notNil (im_at (im3 _ _ hxa)), upd_same, szl (by rw [List.length_map]; show xs.length + 1 ≤ 1000; omega), fun l2 hl2 => ?_⟩
        have f2 := Ext.new (N := []) (o := .lst (xs.map V.ref ++ [V.ref y])) hl2
        refine ⟨_, rfl, z, _, _, _, rfl, rfl, SqL.of ((f1.trans f2).keep _ _ notNil (im_at (im3 _ _ hza))), (show atI (V.ref u :: us.map V.ref) 0 = some (V.ref u) from atI_nat (j := 0) rfl), ?_⟩
        refine ⟨_, rfl, _, rfl, z, _, rfl, SqL.of ((f1.trans f2).keep _ _ notNil (im_at (im3 _ _ hza))), fun l3 hl3 => ?_⟩
        rw [cutV_tail (by rw [List.map_cons, List.length_cons]; omega), show ((u :: us).map V.ref).drop 1 = us.map V.ref from rfl]
        have f3 := Ext.new (N := []) (o := .lst (us.map V.ref)) hl3
        refine ⟨szl (by show 3 ≤ 1000; decide), fun v hv => ?_⟩
        have f4 := Ext.new (N := []) (o := .lst [.ref l2, .ref u, .ref l3]) hv
        have f := (f1.trans f2).trans (f3.trans f4)
        have t1 := W3.tr.ext f1
        have t2 := t1.ext f2
        refine q v ⟨h.past ++ [h.here], r, ls⟩ _ ((ext_b e1).trans ((ext_p e3).trans f.any)) ((W3.ext f).more (by omega) (Nat.le_refl _)) ⟨l2, u, l3, im_new (t2.ext f3) hv rfl, ⟨xs ++ [y], ?_, paired_snoc (Paired.mapP hxs fun _ _ h => (h.mono im3).mono (im_ext f)) ((hy.mono im3).mono (im_ext f))⟩, (hu1.mono im3).mono (im_ext f),
          ⟨us, im_ext f4 _ _ (im_new t2 hl3 rfl), Paired.mapP hus fun _ _ h => (h.mono im3).mono (im_ext f)⟩⟩
        rw [im_ext (f3.trans f4) _ _ (im_new t1 hl2 rfl), List.map_append]
        rfl
end
end Mr

set_option Elab.async false
set_option linter.all false
set_option maxRecDepth 100000
set_option maxHeartbeats 4000000
namespace Mr
open PySem PySem.Spec PyProof.Rows L2 Ru Tx LamX
abbrev TB := List (Addr × Str)
theorem tabs_ext {K : PySem.W.Frag} {M : List Addr} {b p : Addr} {H H' : Hp} {n k : Nat} {h : Hist} {T : TB} (t : Tabs T H) (x : Wd K M b p H n h k) (e : Ext [b, p] H H') : Tabs T H' := fun q hq => by
  obtain ⟨ps, h1, h2, h3⟩ := t q hq
  obtain ⟨g, f, c, eb, _⟩ := x.box
  obtain ⟨dx, u, ep, _⟩ := x.st
  have nn : ∀ {a : Addr} {o : HO}, H a = some o → (∀ xs, o ≠ .lst xs) → (∀ C d fs, o ≠ .ins C d fs) → a ∉ [b, p] := fun {a o} ha n1 n2 z => by
    rcases List.mem_cons.1 z with z | z
    · rw [z, eb] at ha; exact n1 _ (Option.some.inj ha).symm
    · rw [List.mem_singleton.1 z, ep] at ha; exact n2 _ _ _ (Option.some.inj ha).symm
  refine ⟨ps, e.keep _ _ (nn h1 (fun _ z => nomatch z) fun _ _ _ z => nomatch z) h1, h2, fun pos cv hc => ?_⟩
  obtain ⟨c, e1, e2⟩ := h3 pos cv hc
  exact ⟨c, e1, e.keep _ _ (nn e2 (fun _ z => nomatch z) fun _ _ _ z => nomatch z) e2⟩
theorem tabs_ext0 {H H' : Hp} {T : TB} (t : Tabs T H) (e : Ext [] H H') : Tabs T H' := t.ext fun b o h => e.keep b o notNil h
/-- behind a tried act -/
def Aft (K : PySem.W.Frag) (M : List Addr) (T : TB) (b p Pt : Addr) (H : Hp) (n k : Nat) (H' : Hp) : Prop := Ext [b, p, Pt] H H' ∧ (∃ h', Wd K M b p H' n h' k) ∧ Tabs T H'
theorem Aft.ext {K : PySem.W.Frag} {M : List Addr} {T : TB} {b p Pt : Addr} {H H1 H2 : Hp} {n k : Nat} (a : Aft K M T b p Pt H n k H1) (e : Ext [] H1 H2) : Aft K M T b p Pt H n k H2 := by
  obtain ⟨a1, ⟨h', a2⟩, a3⟩ := a
  exact ⟨a1.trans e.any, ⟨h', a2.ext e⟩, tabs_ext0 a3 e⟩
theorem ext_bp {b p P : Addr} {H H' : Hp} (e : Ext [b, p] H H') : Ext [b, p, P] H H' := e.wide fun x h => by
  rcases List.mem_cons.1 h with h | h
  · rw [h]; simp
  · rw [List.mem_singleton.1 h]; simp
def cost (d : Nat) : Nat := 1300 * (d + 1)
def spTr (K : PySem.W.Frag) (T : TB) (Pt : Addr) (d : Nat) : Sp := fun vs H Q _ => ∃ (b p s : Addr) (h : Hist) (n k : Nat) (M : List Addr), vs = [.ref b, .ref p, .ref s, .int d] ∧ Wd K M b p H n h k ∧ n + cost d ≤ nMax ∧ k + 4 * (d + 1) ≤ 500 ∧ IsLs (im M H) s h ∧ Tabs T H ∧ Pt ∈ M ∧
  ∀ H', Ext [b, p, Pt] H H' → Wd K M b p H' (n + cost d) h k → Tabs T H' → Q (.bl true) H'
def spUp (K : PySem.W.Frag) (T : TB) (Pt : Addr) (D : Nat) : Sp := fun vs H Q E => ∃ d, d ≤ D ∧ spTr K T Pt d vs H Q E
def spTrP (K : PySem.W.Frag) (T : TB) (Pt : Addr) : Nat → Sp
  | 0 => fun _ _ _ _ => False
  | d + 1 => spUp K T Pt d
def spWi (K : PySem.W.Frag) (T : TB) (Pt : Addr) (d : Nat) : Sp := fun vs H Q E => ∃ (b p s : Addr) (h : Hist) (n k : Nat) (M : List Addr), vs = [.ref b, .ref p, .ref p, .ref s, .int d] ∧ Wd K M b p H n h k ∧ n + cost d ≤ nMax ∧ k + 4 * (d + 1) ≤ 500 ∧ IsLs (im M H) s h ∧ Tabs T H ∧ Pt ∈ M ∧
  (∀ r H', Aft K M T b p Pt H (n + cost d) (k + 5) H' → H' r = some (.lst [.str "answer", .int 2]) → Q (.ref r) H') ∧
  (∀ x H', Aft K M T b p Pt H (n + cost d) (k + 5) H' → H' x = some (.xd [("name", .str "way")]) → E (.ref (ga K "UnknownName")) (some x) H') ∧
  (∀ x H', Aft K M T b p Pt H (n + cost d) (k + 5) H' → H' x = some (.xd [("value", .int 99)]) → E (.ref (ga K "InvalidNumber")) (some x) H') ∧
  (∀ x H', Aft K M T b p Pt H (n + cost d) (k + 5) H' → E (.type "KeyError") x H')
theorem seq_skip {A : TT} {t rest : TS} {D : Ends} {σ : St} {H : Hp} (R : Hp → Prop) (hA : ∀ Q' : Bool → Hp → Prop, (∀ H5, R H5 → Q' false H5) → A σ H Q') (k : ∀ H5, R H5 → rest D σ H5) : tSeq (tIfS A t tNext) rest D σ H := hA _ fun H5 r => iteF (k H5 r)
def spWiU (K : PySem.W.Frag) (T : TB) (Pt : Addr) (D : Nat) : Sp := fun vs H Q E => ∃ d, d ≤ D ∧ spWi K T Pt d vs H Q E
abbrev nWithin : List Str := ["_law_box_here", "_law_stream", "_law_held", "_law_state", "_law_deep", "_law_turn", "_law_way"]
theorem scWithin : FnScope nWithin ["_law_box_here", "_law_stream", "_law_held", "_law_state", "_law_deep"] (defScope sWithin) := ⟨rfl, rfl, rfl, by decide +kernel, rfl, by decide +kernel, by decide +kernel⟩
section
variable {P : Program} {w : World} {K : PySem.W.Frag} {mg : Str → Option Value} {base : Heap}
theorem ok_within (Tx : Txt w K mg) (T : TB) (Pt : Addr) (D l : Nat) (hl : 8 ≤ l) (FT : OkF P w K mg base l (ga K "_law_tried") ["_law_box_here", "_law_stream", "_law_state", "_law_deep"] (spTrP K T Pt D)) :
    OkF P w K mg base (l + 1) (ga K "_law_within") ["_law_box_here", "_law_stream", "_law_held", "_law_state", "_law_deep"] (spWiU K T Pt D) := by
  obtain ⟨fK, kK, bK, FK⟩ := ok_take (P := P) (base := base) Tx
  obtain ⟨fS, kS, bS, FS⟩ := ok_step (P := P) (base := base) Tx
  obtain ⟨fD, kD, bD, FD⟩ := ok_stands (P := P) (base := base) Tx
  obtain ⟨fC, kC, bC, FC⟩ := ok_st_cut (P := P) (base := base) Tx
  obtain ⟨fU, kU, bU, FU⟩ := ok_unk (P := P) (base := base) Tx
  obtain ⟨fT, kT, bT, FT⟩ := FT
  refine okf_of Tx.d_law_within scWithin (fun _ _ _ _ _ _ us hl => match us, hl with | [_, _, _, _, _], _ => rfl) (fun vs H Q E h => ?_) (fun cdv A outer s H vs Q E hr h => ?_)
  · obtain ⟨d, _, b, p, s, h, n, k, M, rfl, _⟩ := h
    rfl
  · obtain ⟨d, hdD, b, p, st, h, n, k, M, rfl, W0, hn, hk, hst, hT, PM, q1, q2, q3, q4⟩ := h
    refine ⟨_, pss_cons (ps_for (passes_of rfl) rfl (pi_range1 rfl Tx.b_range (pa_cons (pe_op op_add pe_int (pe_call FK (hr.mono (by omega)) rfl Tx.g_law_take kK bK .nil passL (pa_cons (pv 0) (pa_cons pe_int pa_nil)))) pa_nil)) (pg_name (i := 5) scWithin.nd rfl (Or.inl rfl))
        (pss_cons (ps_set (i := 3) scWithin.nd rfl (Or.inl rfl) (pe_call FS (hr.mono (by omega)) rfl Tx.g_law_step kS bS .nil passL (pa_cons (pv 0) (pa_cons (pv 2) (pa_cons (pv 3) pa_nil)))))
        (pss_one (ps_if (PW.pt (pw_or (pt_cmpR op_ne (pe_callB call_len_seq (by rfl) Tx.b_len bt_len (pa_cons (pv 3) pa_nil)) pe_int (nomark _))
          (pw_or (pt_not (pt_val (pe_call FD (hr.mono (by omega)) rfl Tx.g_law_stands kD bD .nil passL (pa_cons (pv 2) (pa_cons (pv 3) pa_nil)))))
          (pw_or1 (pt_not (pt_val (pe_call FD (hr.mono (by omega)) rfl Tx.g_law_stands kD bD .nil passL (pa_cons (pv 1) (pa_cons (pv 3) pa_nil))))))))) (pss_one ps_never) pss_nil))))
      (pss_cons (ps_if (PW.pt (pw_and (pt_cmpR op_gt (pv 4) pe_int (nomark _)) (pw_and1 (pt_not (pt_val (pe_call FT hr rfl Tx.g_law_tried kT bT .nil passL (pa_cons (pv 0) (pa_cons (pv 2) (pa_cons (pv 3) (pa_cons (pe_op op_sub (pv 4) pe_int) pa_nil)))))))))) (pss_one ps_never) pss_nil)
      (pss_cons (ps_set (i := 6) scWithin.nd rfl (Or.inl rfl) (pe_call FK (hr.mono (by omega)) rfl Tx.g_law_take kK bK .nil passL (pa_cons (pv 0) (pa_cons pe_int pa_nil))))
      (pss_cons (ps_if (pt_cmpR op_eq (pv 6) pe_int (nomark _)) (pss_one (ps_raise rfl (takes_of rfl rfl rfl rfl) (pmk_oex Tx.x_UnknownName.o Tx.x_UnknownName.i Tx.x_UnknownName.t FU (hr.mono (by omega)) bU .nil passL rfl Tx.g_UnknownName (pa_cons pe_str pa_nil)))) pss_nil)
      (pss_cons (ps_if (pt_cmpR op_eq (pv 6) pe_int (nomark _)) (pss_one (ps_raise rfl (takes_of rfl rfl rfl rfl) (pmk_exc excClass_KeyError ty_KeyError rfl Tx.b_KeyError boot_KeyError (pa_cons (pv 4) pa_nil)))) pss_nil)
      (pss_cons (ps_if (pt_cmpR op_eq (pv 6) pe_int (nomark _)) (pss_one (ps_expr (pe_meth (pv 2) Tx.cl_Stream Tx.m_Stream_cut FC (hr.mono (by omega)) bC .nil (passes_call (takes_of rfl rfl rfl rfl) (fun _ _ _ _ h => h)) (pa_cons pe_int pa_nil)))) pss_nil)
      (pss_one (ps_ret (pe_lst (pa_cons pe_str (pa_cons (pv 6) pa_nil)))))))))), ?_⟩
    have cd : cost d = 1300 * (d + 1) := rfl
    have im0 : Same (im M H) (im M H) := fun _ _ e => e
    refine ⟨_, rfl, b, 4, n, rfl, by decide, by decide, W0.box, by omega, fun c H1 c0 c1 e1 hB1 => ?_⟩
    have W1 := W0.boxed e1 hB1
    have T1 := tabs_ext hT W0 (ext_b e1)
    refine ⟨_, _, rfl, rfl, 1 + c, rfl, by omega, by omega, ?_⟩
    refine for_range (lo := 0) (n := (1 + c).toNat) (fun i σ H' => ∃ (s' : Addr) (h' : Hist) (v5 : Option V), σ = [some (.ref b), some (.ref p), some (.ref p), some (.ref s'), some (.int d), v5, none] ∧ Ext [b, p] H H' ∧ Wd K M b p H' (n + 1 + 300 * i) h' (k + i) ∧ IsLs (im M H') s' h' ∧ Tabs T H')
      ⟨st, h, none, rfl, ext_b e1, W1, hst.mono (e1.im W0.bIn), T1⟩ (fun i σ H' hi ⟨s', h', v5, eσ, e2, W2, hs2, T2⟩ => ?_) (fun σ H' ⟨s', h', v5, eσ, e2, W2, hs2, T2⟩ => ?_)
    · subst eσ
      refine ⟨_, rfl, _, rfl, _, rfl, b, p, s', h', n + 1 + 300 * i, k + i, M, rfl, W2, by omega, by omega, hs2, fun s3 h3 H3 e3 W3 hs3 => ?_⟩
      have T3 := tabs_ext T2 W2 e3
      obtain ⟨x, y, z, hsl, hx, hy, hz⟩ := id hs3
      refine ⟨_, rfl, s3, _, rfl, .inl (SqL.of (im_at hsl)), rfl, _, rfl, iteF ?_⟩
      refine ⟨_, rfl, _, rfl, p, s3, h3, M, rfl, W3.st, hs3, W3.tr, W3.ok.here, fun H4 e4 => ⟨true, rfl, iteF ?_⟩⟩
      have W4 := W3.ext e4
      refine ⟨_, rfl, _, rfl, p, s3, h3, M, rfl, W4.st, hs3.mono (im_ext e4), W4.tr, W4.ok.here, fun H5 e5 => ⟨true, rfl, iteF ?_⟩⟩
      have e45 := e4.trans e5
      refine ⟨s3, h3, _, rfl, e2.trans (e3.trans e45.any), (W3.ext e45).more (by omega) (by omega), hs3.mono (im_ext e45), tabs_ext0 T3 e45⟩
    · subst eσ
      have hc4 : (1 + c).toNat ≤ 4 := by omega
      dsimp only
      refine seq_skip (fun H5 => Ext [b, p, Pt] H' H5 ∧ Wd K M b p H5 (n + 1201 + 1300 * d) h' (k + 4) ∧ Tabs T H5) (fun Q' hq => ?_) (fun H5 ⟨e5, W5, T5⟩ => ?_)
      · cases d with
        | zero =>
          refine ⟨_, rfl, _, _, rfl, rfl, _, rfl, iteF (hq H' ⟨Ext.refl _, W2.more (by omega) (by omega), T2⟩)⟩
        | succ d =>
          refine ⟨_, rfl, _, _, rfl, rfl, true, congrArg V.bl (decide_eq_true (show (0 : Int) < ((d + 1 : Nat) : Int) by omega)), iteT ?_⟩
          refine ⟨_, rfl, _, rfl, _, rfl, _, rfl, _, _, rfl, rfl, ?_⟩
          cases D with
          | zero => omega
          | succ D =>
          refine ⟨d, by omega, b, p, s', h', n + 1201, k + 4, M, ?_, W2.more (by omega) (by omega), by unfold cost; omega, by omega, hs2, T2, PM, fun H5 e5 W5 T5 => ⟨true, rfl, hq H5 ⟨e5, W5.more (by unfold cost; omega) (Nat.le_refl _), T5⟩⟩⟩
          show [V.ref b, V.ref p, V.ref s', V.int (((d + 1 : Nat) : Int) - 1)] = _
          rw [show (((d + 1 : Nat) : Int) - 1) = (d : Int) by omega]
      · have e05 : Ext [b, p, Pt] H H5 := (ext_bp e2).trans e5
        refine ⟨_, rfl, b, 4, n + 1201 + 1300 * d, rfl, by decide, by decide, W5.box, by omega, fun way H6 w0 w1 e6 hB6 => ?_⟩
        have W6 := W5.boxed e6 hB6
        have T6 := tabs_ext T5 W5 (ext_b e6)
        have e06 : Ext [b, p, Pt] H H6 := e05.trans (e6.wide fun x h => by rw [List.mem_singleton.1 h]; simp)
        have af : Aft K M T b p Pt H (n + cost d) (k + 5) H6 := ⟨e06, ⟨h', W6.more (by omega) (by omega)⟩, T6⟩
        refine ⟨_, rfl, rfl, _, rfl, ?_⟩
        refine ite2 (fun c => ?_) (fun c1 => ?_)
        · refine rd_err1 fun x hx => ?_
          exact q2 x _ (af.ext (Ext.new hx)) upd_same
        refine ⟨_, rfl, rfl, _, rfl, ?_⟩
        refine ite2 (fun c => ?_) (fun c2 => ?_)
        · exact ⟨_, rfl, szl (by show 1 ≤ 1000; decide), fun x => q4 x _ af⟩
        refine ⟨_, rfl, rfl, _, rfl, ?_⟩
        refine ite2 (fun c => ?_) (fun c3 => ?_)
        · obtain ⟨dx, u, hp6, _⟩ := id W6.st
          have := W6.ok.len
          refine ⟨_, rfl, p, dx, _, rfl, hp6, rfl, p, h', 99, M, rfl, W6.st, W6.pM, W6.tr, by omega, W6.ok.here, .inr ⟨rfl, fun x hx => q3 x _ (af.ext (Ext.new hx)) upd_same⟩⟩
        have w2 : way = 2 := by
          have a1 : way ≠ 0 := fun z => c1 (by rw [z]; exact decide_eq_true rfl)
          have a2 : way ≠ 3 := fun z => c2 (by rw [z]; exact decide_eq_true rfl)
          have a3 : way ≠ 1 := fun z => c3 (by rw [z]; exact decide_eq_true rfl)
          omega
        subst w2
        exact ⟨_, rfl, szl (by show 2 ≤ 1000; decide), fun r hr' => q1 r _ (af.ext (Ext.new hr')) upd_same⟩
end
end Mr

set_option Elab.async false
set_option linter.all false
set_option maxRecDepth 100000
set_option maxHeartbeats 600000
namespace Mr
open PySem PySem.Spec PyProof.Rows L2 Ru Tx LamX NdefX
section
variable {P : Program} {w : World} {K : PySem.W.Frag} {mg : Str → Option Value} {base : Heap}
/-- as okf_of, the def's code object known -/
theorem okf_ofC {x : Str} {st : Stmt} {N ps : List Str} {k : Nat} {sp : Sp} (F : DefAt K x x st (ga K x)) (S : FnScope N ps (defScope st))
    (hb : ∀ (kV doc pm : Value) (an : Option Addr) (cdv ct : Value) (us : List Value), us.length = ps.length → bindArgs (PySem.W.fnOf x x (defArgs st) (defBody st) (defScope st) .none kV doc pm an cdv ct) ⟨us, []⟩ = pure (ps.zip us))
    (len : ∀ vs H Q E, sp vs H Q E → vs.length = ps.length)
    (hbody : ∀ (A : Around) (outer : List Env) (s : Shared) (H : Hp) (vs : List V) (Q : VK) (E : XK), Room k (A.deeper (envOfC x (defScope st) s.heap.objs.size (ga K x) (.ref (He.codeOf K (x, none))))) → sp vs H Q E →
      ∃ t, PSs (cxOf (L2.CX P w) P w K mg base N x (defScope st) (ga K x) (.ref (He.codeOf K (x, none))) A outer s H E) (defBody st) t ∧ t { nx := fun _ H' => Q .non H', rt := Q } (start N vs) H) : OkF P w K mg base (k + 1) (ga K x) ps sp := by
  obtain ⟨fd, F⟩ := F
  refine ⟨fd, F.kp, F.bindsN hb, ?_⟩
  obtain ⟨oc, od, dV, kV, doc, pm, an, cdv, ct, osl, e, lk, hcd, _, _⟩ := F.ex
  obtain ⟨c, rfl⟩ := He.codeIn_ref hcd
  have ec : He.codeOf K (x, none) = c := He.codeOf_eq (p := (x, none)) lk (by rw [e])
  subst e
  rw [← ec] at lk hcd ⊢
  exact fn_of lk hcd S len hbody
end
theorem op_neDK {X : Cx} {K : PySem.W.Frag} (h : X.K = K) (hu : X.A.units + 64 < cLine) : OpR X (compareOp .NotEq) (rNeD K) := by
  subst h
  exact op_neD hu
theorem thaw_upd {Z : Zs} {H : Hp} {p : Addr} {o : HO} (zo : ZOut Z H) (hp : Z.lookup p = none) : thaw Z (upd (frz Z H) p o) = upd H p o := by
  funext b
  by_cases hb : b = p
  · rw [hb, upd_same, thaw_no hp, upd_same]
  · rw [upd_ne hb]
    have := congrFun (thaw_frz zo) b
    rw [← this]
    cases q : Z.lookup b with
    | none => rw [thaw_no q, thaw_no q, upd_ne hb]
    | some u => rw [thaw_in q, thaw_in q]
abbrev nTried : List Str := ["_law_box_here", "_law_stream", "_law_state", "_law_deep", "_law_told", "e"]
theorem scTried : FnScope nTried ["_law_box_here", "_law_stream", "_law_state", "_law_deep"] (defScope sTried) := ⟨rfl, rfl, rfl, by decide +kernel, rfl, by decide +kernel, by decide +kernel⟩
abbrev nFr : List Str := ["_law_box_here", "_law_stream", "_law_state", "_law_deep"]
abbrev nLam : List Str := ["_law_held", "_law_box_here", "_law_stream", "_law_state", "_law_deep"]
/-- the law's one table: of the code object of _law_tried -/
abbrev tbl (K : PySem.W.Frag) : Addr := (He.cT K ("_law_tried", none)).2
abbrev qLam : Str := ("_law_tried" : Str) ++ ".<locals>." ++ "<lambda>"
abbrev TT1 (K : PySem.W.Frag) : TB := [(tbl K, qLam)]
def tryB : Stmt → List Stmt
  | .Try b _ _ _ _ => b
  | _ => []
def asgE : Stmt → Expr
  | .Assign _ e _ => e
  | _ => .Name "" ⟨0, 0, 0, 0⟩
def lamOf : Expr → Scope
  | .Call _ [.Lambda _ _ sc _] _ _ => sc
  | _ => defScope sTried
def lamE : Expr := asgE ((tryB ((defBody sTried).getD 0 (.Pass ⟨0, 0, 0, 0⟩))).getD 0 (.Pass ⟨0, 0, 0, 0⟩))
abbrev scL : Scope := lamOf lamE
theorem scLam : NScope nLam ["_law_held"] nFr scL := nscope_by (by decide +kernel)
theorem frLam : ∀ y ∈ nFr, (y, NameKind.free) ∈ scL.names := by decide +kernel
theorem freeLam : ∀ y ∈ scL.names, y.2 = .free → (defScope sTried).names.lookup y.1 = some .cell ∨ (defScope sTried).names.lookup y.1 = some .free := by decide +kernel
section
variable {P : Program} {w : World} {K : PySem.W.Frag} {mg : Str → Option Value} {base : Heap}
theorem pe_lam (Tx : Txt w K mg) (TBx : TabB base mg (He.codeOf K ("_law_tried", none)) (tbl K)) {l kR : Nat} {spW spR : Sp} {fW fR : FuncData} (kW : PySem.W.keepIn K (.ref (ga K "_law_within")) = true) (bW : Binds K fW ["_law_box_here", "_law_stream", "_law_held", "_law_state", "_law_deep"] [])
    (FW : FnOk P w K mg base (L2.CX P w) l (ga K "_law_within") fW ["_law_box_here", "_law_stream", "_law_held", "_law_state", "_law_deep"] spW) (bR : Binds K fR ["self", "act"] []) (FR : FnOk P w K mg base (L2.CX P w) kR (ma K "Stream" "tried") fR ["self", "act"] spR)
    {A : Around} {outer : List Env} {s : Shared} {H : Hp} {E : XK} (hr : Room kR (A.deeper (envOfC "_law_tried" (defScope sTried) s.heap.objs.size (ga K "_law_tried") (.ref (He.codeOf K ("_law_tried", none))))))
    (W : WX) (pn : List (Addr × Obj)) (xe : Value → Shared → Prop) (tk : Takes ((cxOf (L2.CX P w) P w K mg base nTried "_law_tried" (defScope sTried) (ga K "_law_tried") (.ref (He.codeOf K ("_law_tried", none))) A outer s H E).tr pn xe) W) :
    PE ((cxOf (L2.CX P w) P w K mg base nTried "_law_tried" (defScope sTried) (ga K "_law_tried") (.ref (He.codeOf K ("_law_tried", none))) A outer s H E).tr pn xe) lamE
      (tMethLam (tbl K) P w K mg base (ga K "Stream") "tried" (TT1 K) qLam l nLam [0, 1, 2, 3] (fun E' => tCall spW [] E' (tCons (tVar 1) (tCons (tVar 2) (tCons (tVar 0) (tCons (tVar 3) (tCons (tVar 4) tNil)))))) spR (WE W) (tVar 1)) := by
  refine pe_methLam (x := "_law_held") (fr := nFr) (pv 1) Tx.cl_Stream Tx.m_Stream_tried FR hr bR (fun σ => passAt tk σ) TBx rfl (List.mem_singleton.2 rfl) (fun p hp _ => by rw [List.mem_singleton.1 hp]; rfl) rfl
    (fun _ _ _ => rfl) scLam freeLam frLam rfl (fun _ _ _ _ => rfl) (fun f c' A outer s H E' hr2 => ?_)
  exact pe_call (E := E') FW hr2 rfl Tx.g_law_within kW bW .nil (passes_call (takes_of rfl rfl rfl rfl) (fun _ _ _ _ h => h)) (pa_cons (pv 1) (pa_cons (pv 2) (pa_cons (pv 0) (pa_cons (pv 3) (pa_cons (pv 4) pa_nil)))))
end
section
variable {P : Program} {w : World} {K : PySem.W.Frag} {mg : Str → Option Value} {base : Heap}
theorem ok_lawtried (Tx : Txt w K mg) (TBx : TabB base mg (He.codeOf K ("_law_tried", none)) (tbl K)) (D l : Nat) (hl : 8 ≤ l) (FT : OkF P w K mg base l (ga K "_law_tried") ["_law_box_here", "_law_stream", "_law_state", "_law_deep"] (spTrP K (TT1 K) (tbl K) D)) :
    OkF P w K mg base (l + 7) (ga K "_law_tried") ["_law_box_here", "_law_stream", "_law_state", "_law_deep"] (spUp K (TT1 K) (tbl K) D) := by
  obtain ⟨fW, kW, bW, FW⟩ := ok_within (P := P) (base := base) Tx (TT1 K) (tbl K) D l hl FT
  obtain ⟨fR, kR, bR, FR⟩ := ok_tried (P := P) (base := base) Tx (l + 2)
  obtain ⟨fD, kD, bD, FD⟩ := ok_stands (P := P) (base := base) Tx
  refine okf_ofC Tx.d_law_tried scTried (fun _ _ _ _ _ _ us hl => match us, hl with | [_, _, _, _], _ => rfl) (fun vs H Q E h => ?_) (fun A outer s H vs Q E hr h => ?_)
  · obtain ⟨d, _, b, p, s, h, n, k, M, rfl, _⟩ := h
    rfl
  · obtain ⟨d, hdD, b, p, st, h, n, k, M, rfl, W0, hn, hk, hst, hT, PM, q⟩ := h
    refine ⟨_, pss_cons (ps_try_cls rfl rfl scTried.nd (takes_of rfl rfl rfl rfl) (fun W pn xe tk => pss_cons (ps_set (i := 4) scTried.nd rfl (Or.inl rfl)
          (pe_lam Tx TBx kW bW FW bR FR (hr.mono (by omega)) W pn xe tk))
          (pss_one (ps_if (pt_cmpR (op_neDK (K := K) rfl hr.units) (pv 4) (pe_lst (pa_cons pe_str (pa_cons pe_int pa_nil))) (nomark _)) (pss_one (ps_ret pe_bl)) pss_nil)))
        (.cons (o := some 5) ⟨rfl, by decide, .inl Tx.g_UnknownName⟩ (.inr ⟨"e", 5, rfl, rfl, rfl, rfl⟩) (fun a oe cls d pn hz hf => pss_one (ps_if (pt_cmpR op_ne (pe_xf Tx.x_UnknownName.x Tx.n_UnknownName_name hz hf (pv 5)) pe_str (nomark _)) (pss_one (ps_ret pe_bl)) pss_nil))
        (.cons (o := some 5) ⟨rfl, by decide, .inl Tx.g_InvalidNumber⟩ (.inr ⟨"e", 5, rfl, rfl, rfl, rfl⟩) (fun a oe cls d pn hz hf => pss_one (ps_if (pt_cmpR op_ne (pe_xf Tx.x_InvalidNumber.x Tx.n_InvalidNumber_value hz hf (pv 5)) pe_int (nomark _)) (pss_one (ps_ret pe_bl)) pss_nil))
        (.cons (o := none) (names_blt rfl Tx.b_KeyError boot_KeyError) (.inl ⟨rfl, rfl⟩) (fun a oe cls d pn hz hf => pss_one ps_pass)
        .nil))))
      (pss_one (ps_ret (pe_call FD (hr.mono (by omega)) rfl Tx.g_law_stands kD bD .nil passL (pa_cons (pv 1) (pa_cons (pv 2) pa_nil))))), ?_⟩
    obtain ⟨dx, u, hp, hu⟩ := id W0.st
    obtain ⟨ps0, hP0, _⟩ := hT _ (List.mem_singleton.2 rfl)
    obtain ⟨bg, bf, bc, hb0, _⟩ := id W0.box
    have pP : p ≠ tbl K := fun z => by rw [z, hP0] at hp; cases hp
    have bP : b ≠ tbl K := fun z => by rw [z, hP0] at hb0; cases hb0
    have in3 : ∀ x ∈ [b, p, tbl K], x ∈ M := fun x hx => by
      rcases List.mem_cons.1 hx with rfl | hx
      · exact W0.bM
      rcases List.mem_cons.1 hx with rfl | hx
      · exact W0.pM
      rw [List.mem_singleton.1 hx]; exact PM
    have rest : ∀ (σ' : St) (H' : Hp), σ'[1]? = some (some (.ref p)) → σ'[2]? = some (some (.ref st)) → (Ext [b, p, tbl K] H H' ∧ Wd K M b p H' (n + cost d) h k ∧ Tabs (TT1 K) H') → tRet (tCall (spStands K) [] E0 (tCons (tVar 1) (tCons (tVar 2) tNil))) { nx := fun _ H' => Q .non H', rt := Q } σ' H' := fun σ' H' s1 s2 ⟨r1, r2, r3⟩ =>
      ⟨_, s1, _, s2, p, st, h, M, rfl, r2.st, hst.mono (r1.im in3), r2.tr, r2.ok.here, fun H'' e'' => q H'' (r1.trans e''.any) (r2.ext e'') (tabs_ext0 r3 e'')⟩
    refine ⟨_, rfl, p, dx, _, rfl, hp, rfl, hT, fun f c' Z H2 eP T2 zo hG hAct => ?_⟩
    have e12 : Ext [tbl K] H H2 := ⟨fun a o n e => eP a o (by simpa using n) e, fun a e => by
      by_cases z : a = tbl K
      · obtain ⟨ps, hh, _⟩ := T2 _ (List.mem_singleton.2 rfl)
        rw [z, hh]; exact fun q => nomatch q
      · cases r : H a with
        | none => exact absurd r e
        | some o => rw [eP a o z r]; exact fun q => nomatch q⟩
    have hp2 := e12.keep p _ (by simpa using pP) hp
    have zp : Z.lookup p = none := zo.no hp2
    refine ⟨p, f, dx, u, _, _, rfl, by rw [frz_no zp]; exact hp2, hAct, fun t dt nt ndt net => ?_⟩
    have zt : Z.lookup t = none := ZFr.of.no nt
    have n1 : upd (frz Z H2) dt (.own t) t = none := by rw [upd_ne net.symm]; exact nt
    have e2 : Ext [] (frz Z H2) (inTrial K (frz Z H2) p u t dt) := (Ext.new ndt).trans (Ext.new n1)
    have zf3 : ZFr Z (inTrial K (frz Z H2) p u t dt) := fun b o z => e2.keep _ _ notNil (frz_in z)
    refine ⟨hG.same e2.same, fun Q' E' hQ hE => ?_⟩
    have e24 := ext_frz zo e2 zf3
    have ht4 : thaw Z (inTrial K (frz Z H2) p u t dt) t = some (.ins (ga K "Trial") dt (tF p (.ref u))) := by rw [thaw_no zt]; exact upd_same
    generalize thaw Z (inTrial K (frz Z H2) p u t dt) = H4 at e24 ht4 ⊢
    have e14 : Ext [tbl K] H H4 := e12.trans e24.any
    have i14 : Same (im M H) (im M H4) := e14.im fun x hx => by rw [List.mem_singleton.1 hx]; exact PM
    have W4 : Wd K M b p H4 n h k := ⟨W0.box.ext e14 (by simpa using bP), W0.st.ext e14 (by simpa using pP) (fun x hx => by rw [List.mem_singleton.1 hx]; exact PM), W0.ok, W0.bM, W0.pM, W0.bp, W0.tr.ext e14⟩
    have T4 := tabs_ext0 T2 e24
    have nt1 : H t = none := e12.none_of (by rw [frz_no zt] at nt; exact nt)
    have t3 : t ∉ [b, p, tbl K] := fun z => W0.tr t (in3 t z) nt1
    have back : ∀ (H5 : Hp) (R : Hp → Prop), Aft K M (TT1 K) b p (tbl K) H4 (n + cost d) (k + 5) H5 → ZOut Z H5 → (∀ H6, (Ext [b, p, tbl K] H H6 ∧ Wd K M b p H6 (n + cost d) h k ∧ Tabs (TT1 K) H6) → (∀ x o, H5 x = some o → (∀ C d fs, o ≠ .ins C d fs) → H6 x = some o) → R H6) →
        Left K p u t dt (frz Z H5) (fun H3 => R (thaw Z H3)) := fun H5 R ⟨a1, ⟨h', W5⟩, T5⟩ zo5 kk => by
      obtain ⟨dy, u', hp5, _⟩ := id W5.st
      refine ⟨by rw [frz_no zt]; exact a1.keep _ _ t3 ht4, dy, u', by rw [frz_no zp]; exact hp5, ?_⟩
      show R (thaw Z (upd (frz Z H5) p (.ins (ga K "Stream") dy (stF u))))
      rw [thaw_upd zo5 zp]
      have e15 : Ext [b, p, tbl K] H H5 := (e14.wide fun x hx => by rw [List.mem_singleton.1 hx]; simp).trans a1
      have e56 : Ext [b, p] H5 (upd H5 p (.ins (ga K "Stream") dy (stF u))) := Ext.put (by simp)
      refine kk _ ⟨e15.trans (ext_bp e56), ⟨W5.box.upd W0.bp, ⟨dy, u, upd_same, ?_⟩, W0.ok, W0.bM, W0.pM, W0.bp, W5.tr.ext e56⟩, tabs_ext T5 W5 e56⟩ fun x o hx no => ?_
      · rw [im_in W0.pM]
        exact hu.mono (e15.im in3)
      · have : x ≠ p := fun z => by rw [z, hp5] at hx; exact no _ _ _ (Option.some.inj hx).symm
        rw [upd_ne this]; exact hx
    refine ⟨_, rfl, _, rfl, _, rfl, _, rfl, _, rfl, d, hdD, b, p, st, h, n, k, M, rfl, W4, hn, hk, hst.mono i14, T4, PM, fun r H5 a hr5 zo5 => ?_, fun x H5 a hx zo5 => ?_, fun x H5 a hx zo5 => ?_, fun x H5 a zo5 => ?_⟩
    · refine hQ _ _ (back H5 _ a zo5 fun H6 a6 kp => ?_)
      refine ⟨_, rfl, szl (by show 2 ≤ 1000; decide), fun l hl => ?_⟩
      have f := Ext.new (N := []) (o := .lst [.str "answer", .int 2]) hl
      have g2 : Gd 1 (.list [.str "answer", .int 2]) := ⟨by decide +kernel, by decide +kernel⟩
      refine ⟨.list [.str "answer", .int 2], .list [.str "answer", .int 2], .lst (SqL.of (f.keep _ _ notNil (kp _ _ hr5 fun _ _ _ z => nomatch z))) (.cons (.str _) (.cons (.int _) .nil)), .lst (SqL.of upd_same) (.cons (.str _) (.cons (.int _) .nil)), gd_shaped g2 (by decide), gd_shaped g2 (by decide), _, rfl, ?_⟩
      rw [SeqAt.eqv_refl _ g2.1]
      exact iteF (rest _ _ (by rfl) (by rfl) ⟨a6.1.trans f.any, a6.2.1.ext f, tabs_ext0 a6.2.2 f⟩)
    · refine hE _ _ _ ⟨.ref _, rfl⟩ (back H5 _ a zo5 fun H6 a6 kp => ?_)
      refine ⟨true, Tx.e_UnknownName_UnknownName, fun _ a' ha' => ?_, fun z => nomatch z⟩
      exact ⟨_, rfl, rfl, rfl, x, _, _, rfl, kp _ _ hx (fun _ _ _ z => nomatch z), rfl, rfl, false, rfl, iteF (rest _ _ (by rfl) (by rfl) a6)⟩
    · refine hE _ _ _ ⟨.ref _, rfl⟩ (back H5 _ a zo5 fun H6 a6 kp => ?_)
      refine ⟨false, Tx.e_InvalidNumber_UnknownName, (fun z => nomatch z), fun _ => ⟨true, Tx.e_InvalidNumber_InvalidNumber, fun _ a' ha' => ?_, fun z => nomatch z⟩⟩
      exact ⟨_, rfl, rfl, rfl, x, _, _, rfl, kp _ _ hx (fun _ _ _ z => nomatch z), rfl, rfl, false, rfl, iteF (rest _ _ (by rfl) (by rfl) a6)⟩
    · refine hE _ _ _ ⟨.ty "KeyError", rfl⟩ (back H5 _ a zo5 fun H6 a6 kp => ?_)
      exact ⟨false, Tx.e_KeyError_UnknownName, (fun z => nomatch z), fun _ => ⟨false, Tx.e_KeyError_InvalidNumber, (fun z => nomatch z), fun _ => ⟨true, exm_KE, fun _ a' ha' => rest _ _ (by rfl) (by rfl) a6, fun z => nomatch z⟩⟩⟩
end
end Mr

set_option Elab.async false
set_option linter.all false
set_option maxRecDepth 100000
set_option maxHeartbeats 2000000
namespace Mr
open PySem PySem.Spec PyProof.Rows L2 Ru Tx LamX NdefX
theorem sql_keep {K : PySem.W.Frag} {H H' : Hp} {a : Addr} {xs : List V} (h : SqL K H a xs) (e : ∀ o, H a = some o → H' a = some o) : SqL K H' a xs := by
  rcases h with (h | ⟨o, h⟩) | h
  · exact .inl (.inl (e _ h))
  · exact .inl (.inr ⟨o, e _ h⟩)
  · exact .inr h
theorem sql_tab {K : PySem.W.Frag} {H H' : Hp} {a P : Addr} {xs : List V} {ps : Array Value} (h : SqL K H a xs) (hP : H P = some (.tbl ps)) (e : Ext [P] H H') : SqL K H' a xs := by
  rcases h with (h | ⟨o, h⟩) | h
  · exact .inl (.inl (e.keep _ _ (fun z => by rw [List.mem_singleton.1 z, hP] at h; cases h) h))
  · exact .inl (.inr ⟨o, e.keep _ _ (fun z => by rw [List.mem_singleton.1 z, hP] at h; cases h) h⟩)
  · exact .inr h
theorem zero_int {i : Nat} : (0 : Int) + (i : Int) = (i : Int) := by omega
def spLaw (K : PySem.W.Frag) : Sp := fun vs H Q _ => ∃ (a : Addr) (ns : List Int), vs = [.ref a] ∧ SqL K H a (ns.map V.int) ∧ ns.length ≤ 63 ∧ H (tbl K) = some (.tbl #[]) ∧ ∀ H', Q (.bl true) H'
abbrev nLaw : List Str := ["_law_script", "_law_k", "_law_box_here", "_law_p", "_law_amount", "_law_stream", "_law_state", "_law_turn", "_law_step_here"]
theorem scLaw : FnScope nLaw ["_law_script"] (defScope sLaw) := ⟨rfl, rfl, rfl, by decide +kernel, rfl, by decide +kernel, by decide +kernel⟩
section
variable {P : Program} {w : World} {K : PySem.W.Frag} {mg : Str → Option Value} {base : Heap}
theorem ok_tried0 (Tx : Txt w K mg) : OkF P w K mg base 8 (ga K "_law_tried") ["_law_box_here", "_law_stream", "_law_state", "_law_deep"] (spTrP K (TT1 K) (tbl K) 0) :=
  (okf_of (k := 0) Tx.d_law_tried scTried (fun _ _ _ _ _ _ us hl => match us, hl with | [_, _, _, _], _ => rfl) (fun vs H Q E h => False.elim h) (fun cdv A outer s H vs Q E hr h => False.elim h)).mono (by decide)
theorem ok_tried3 (Tx : Txt w K mg) (TBx : TabB base mg (He.codeOf K ("_law_tried", none)) (tbl K)) : OkF P w K mg base 29 (ga K "_law_tried") ["_law_box_here", "_law_stream", "_law_state", "_law_deep"] (spUp K (TT1 K) (tbl K) 2) :=
  ok_lawtried Tx TBx 2 22 (by decide) (ok_lawtried Tx TBx 1 15 (by decide) (ok_lawtried Tx TBx 0 8 (by decide) (ok_tried0 Tx)))
theorem ok_law (T : Txt w K mg) (TBx : TabB base mg (He.codeOf K ("_law_tried", none)) (tbl K)) {fd : FuncData} (F : FunD K "law" "law" (defArgs sLaw) (defBody sLaw) (defScope sLaw) [] [] (ga K "law") fd) : FnOk P w K mg base (L2.CX P w) 30 (ga K "law") fd ["_law_script"] (spLaw K) := by
  obtain ⟨fC, kC, bC, FC⟩ := ok_cell (P := P) (base := base) T
  obtain ⟨fB, kB, bB, FB⟩ := ok_box (P := P) (base := base) T
  obtain ⟨fP, kP, bP, FP⟩ := ok_prime (P := P) (base := base) T
  obtain ⟨fK, kK, bK, FK⟩ := ok_take (P := P) (base := base) T
  obtain ⟨fI, kI, bI, FI⟩ := ok_st_init (P := P) (base := base) T
  obtain ⟨fS, kS, bS, FS⟩ := ok_step (P := P) (base := base) T
  obtain ⟨fD, kD, bD, FD⟩ := ok_stands (P := P) (base := base) T
  obtain ⟨fT, kT, bT, FT⟩ := ok_tried3 (P := P) T TBx
  refine F.ok scLaw (fun vs H Q E h => ?_) (fun cdv A outer s H vs Q E hr h => ?_)
  · obtain ⟨a, ns, rfl, _⟩ := h
    rfl
  · obtain ⟨a, ns, rfl, hS, hl, hP, q⟩ := h
    refine ⟨_, pss_cons (ps_for (passes_of rfl) rfl (pi_range1 rfl T.b_range (pa_cons (pe_callB (call_max2 rfl) (by rfl) T.b_max bt_max (pa_cons pe_int (pa_cons (pe_callB (call_min2 rfl) (by rfl) T.b_min bt_min (pa_cons pe_int (pa_cons (pe_callB call_len_seq (by rfl) T.b_len bt_len (pa_cons (pv 0) pa_nil)) pa_nil))) pa_nil))) pa_nil)) (pg_name (i := 1) scLaw.nd rfl (Or.inl rfl))
        (pss_cons (ps_set (i := 2) scLaw.nd rfl (Or.inl rfl) (pe_call FB (hr.mono (by decide)) rfl T.g_law_box kB bB .nil passL (pa_cons (pe_call FC (hr.mono (by decide)) rfl T.g_law_cell kC bC .nil passL (pa_cons (pv 0) (pa_cons (pv 1) pa_nil))) pa_nil)))
        (pss_cons (ps_par (i := 3) (j := 4) rfl scLaw.nd rfl rfl (by decide) rfl rfl (pa_cons (pe_call FP (hr.mono (by decide)) rfl T.g_law_prime kP bP .nil passL (pa_cons (pv 2) pa_nil)) (pa_cons (pe_call FK (hr.mono (by decide)) rfl T.g_law_take kK bK .nil passL (pa_cons (pv 2) (pa_cons pe_int pa_nil))) pa_nil)) (by rfl))
        (pss_cons (ps_par (i := 5) (j := 6) rfl scLaw.nd rfl rfl (by decide) rfl rfl (pa_cons (pe_make T.mk_Stream FI (hr.mono (by decide)) rfl T.g_Stream bI .nil passL (pa_cons (pv 3) (pa_cons (pv 4) pa_nil)))
            (pa_cons (pe_lst (pa_cons (pe_lst pa_nil) (pa_cons (pe_lst (pa_cons pe_str (pa_cons (pv 3) (pa_cons (pe_lst (pa_cons (pv 4) pa_nil)) (pa_cons (pe_lst pa_nil) pa_nil))))) (pa_cons (pe_lst pa_nil) pa_nil)))) pa_nil)) (by rfl))
        (pss_one (ps_for (passes_of rfl) rfl (pi_range1 rfl T.b_range (pa_cons pe_int pa_nil)) (pg_name (i := 7) scLaw.nd rfl (Or.inl rfl))
          (pss_cons (ps_for (passes_of rfl) rfl (pi_range1 rfl T.b_range (pa_cons (pe_call FK (hr.mono (by decide)) rfl T.g_law_take kK bK .nil passL (pa_cons (pv 2) (pa_cons pe_int pa_nil))) pa_nil)) (pg_name (i := 8) scLaw.nd rfl (Or.inl rfl))
            (pss_cons (ps_set (i := 6) scLaw.nd rfl (Or.inl rfl) (pe_call FS (hr.mono (by decide)) rfl T.g_law_step kS bS .nil passL (pa_cons (pv 2) (pa_cons (pv 5) (pa_cons (pv 6) pa_nil)))))
            (pss_one (ps_if (pt_not (pt_val (pe_call FD (hr.mono (by decide)) rfl T.g_law_stands kD bD .nil passL (pa_cons (pv 5) (pa_cons (pv 6) pa_nil))))) (pss_one ps_never) pss_nil))))
          (pss_one (ps_if (pt_not (pt_val (pe_call FT hr rfl T.g_law_tried kT bT .nil passL (pa_cons (pv 2) (pa_cons (pv 5) (pa_cons (pv 6) (pa_cons (pe_call FK (hr.mono (by decide)) rfl T.g_law_take kK bK .nil passL (pa_cons (pv 2) (pa_cons pe_int pa_nil))) pa_nil))))))) (pss_one ps_never) pss_nil)))))))))
      (pss_one (ps_ret pe_bl)), ?_⟩
    refine ⟨_, rfl, a, _, rfl, .inl hS, _, _, rfl, _, _, rfl, _, rfl, ?_, ?_, ?_⟩
    · rw [List.length_map]; split <;> split <;> omega
    · rw [List.length_map]; split <;> split <;> omega
    refine for_range (fun i σ H' => (∃ v1 v2 v3 v4 v5 v6 v7 v8, σ = [some (.ref a), v1, v2, v3, v4, v5, v6, v7, v8]) ∧ Ext [tbl K] H H' ∧ Tabs (TT1 K) H') ⟨⟨_, _, _, _, _, _, _, _, rfl⟩, Ext.refl _, fun p hp => by rw [List.mem_singleton.1 hp]; exact TabS.nil hP⟩ (fun i σ H1 hi p => ?_) (fun σ H' p => q H')
    obtain ⟨⟨v1, v2, v3, v4, v5, v6, v7, v8, rfl⟩, e1, T1⟩ := p
    have hS1 := sql_tab hS hP e1
    have nM : (10 : Nat) ≤ nMax := by decide
    refine ⟨_, rfl, _, rfl, a, ns, i, ?_, hS1, hl, fun v => ⟨v, rfl, fun b o hb hB => ?_⟩⟩
    · show [V.ref a, V.int (0 + (i : Int))] = _
      rw [zero_int]
    have e2 := Ext.new (N := []) (o := o) hb
    refine ⟨_, rfl, b, 0, rfl, hB, by decide, fun pr H2 hpr e3 hB2 => ?_⟩
    refine ⟨_, rfl, b, 4, 1, rfl, by decide, by decide, hB2, by decide, fun am H3 a0 a1 e4 hB3 => ⟨_, _, rfl, ?_⟩⟩
    have e13 : Ext [b] H1 H3 := e2.any.trans (e3.trans e4)
    refine ⟨_, rfl, _, rfl, ?_⟩
    intro x dx nx ndx nex
    have f1 : Ext [] H3 (upd (upd H3 dx (.own x)) x (.ins (ga K "Stream") dx [])) := (Ext.new ndx).trans (Ext.new (by rw [upd_ne nex.symm]; exact nx))
    have bx : b ≠ x := ne_new hB3.tr nx
    obtain ⟨ps0, hP1, _⟩ := T1 _ (List.mem_singleton.2 rfl)
    have hTr : Tr [b, x, tbl K] (upd (upd H3 dx (.own x)) x (.ins (ga K "Stream") dx [])) := fun y hy => by
      rcases List.mem_cons.1 hy with rfl | hy
      · exact f1.tr _ hB3.tr
      rcases List.mem_cons.1 hy with rfl | hy
      · exact upd_tr
      rw [List.mem_singleton.1 hy]
      exact f1.tr _ (e13.tr _ (by rw [hP1]; exact fun z => nomatch z))
    refine ⟨x, dx, pr, am, [b, x, tbl K], rfl, upd_same, hpr, a0, by omega, hTr, by simp, fun H4 e5 hS4 => ⟨rfl, ?_⟩⟩
    have T4 : Tr [b, x, tbl K] H4 := hTr.ext e5
    refine ⟨Nat.zero_le _, fun l1 h1 => ?_⟩
    have g1 := Ext.new (N := []) (o := .lst []) h1
    have U1 := T4.ext g1
    refine ⟨_, rfl, _, rfl, szl (by show 1 ≤ 1000; decide), fun l2 h2 => ?_⟩
    have g2 := Ext.new (N := []) (o := .lst [.int am]) h2
    have U2 := U1.ext g2
    refine ⟨Nat.zero_le _, fun l3 h3 => ?_⟩
    have g3 := Ext.new (N := []) (o := .lst []) h3
    have U3 := U2.ext g3
    have es : ("" : Str) = pS [] := by decide +kernel
    rw [es]
    refine ⟨szl (by show 4 ≤ 1000; decide), fun l4 h4 => ?_⟩
    have g4 := Ext.new (N := []) (o := .lst [.str (pS []), .int pr, .ref l2, .ref l3]) h4
    have U4 := U3.ext g4
    refine ⟨Nat.zero_le _, fun l5 h5 => ?_⟩
    have g5 := Ext.new (N := []) (o := .lst []) h5
    have U5 := U4.ext g5
    refine ⟨szl (by show 3 ≤ 1000; decide), fun l6 h6 => ⟨_, _, rfl, ?_⟩⟩
    have g6 := Ext.new (N := []) (o := .lst [.ref l1, .ref l4, .ref l5]) h6
    have g := ((g1.trans g2).trans (g3.trans g4)).trans (g5.trans g6)
    have hok0 : HOkN ⟨[], ⟨[], pr, [am], []⟩, []⟩ 0 := ⟨(fun d hd => nomatch hd), dr0_ok hpr a0 (by omega), (fun d hd => nomatch hd), Nat.le_refl _⟩
    have f3 : Ext [x] H3 H4 := f1.any.trans e5
    have Wf : Wd K [b, x, tbl K] b x _ 2 ⟨[], ⟨[], pr, [am], []⟩, []⟩ 0 := ⟨(hB3.ext f3 (by simpa using bx)).ext g notNil, hS4.ext g notNil (fun _ z => nomatch z), hok0, by simp, by simp, bx, U5.ext g6⟩
    have Lf : IsLs (im [b, x, tbl K] _) l6 ⟨[], ⟨[], pr, [am], []⟩, []⟩ := ⟨l1, l4, l5, im_new U5 h6 rfl, drs_nil (im_ext ((g2.trans (g3.trans g4)).trans (g5.trans g6)) _ _ (im_new T4 h1 rfl)),
      ⟨l2, l3, im_ext (g5.trans g6) _ _ (im_new U3 h4 rfl), im_ext ((g3.trans g4).trans (g5.trans g6)) _ _ (im_new U1 h2 rfl), [], im_ext (g4.trans (g5.trans g6)) _ _ (im_new U2 h3 rfl), .nil⟩, drs_nil (im_ext g6 _ _ (im_new U4 h5 rfl))⟩
    have bP : b ≠ tbl K := fun z => by rw [z, hP1] at hb; cases hb
    have hP3 : H3 (tbl K) = some (.tbl ps0) := e13.keep _ _ (by simpa using bP.symm) hP1
    have xP : x ≠ tbl K := fun z => by rw [z, hP3] at nx; cases nx
    have e14 : Ext [b, x] H1 H4 := (ext_b e13).trans (ext_p f3)
    have e1f := e14.trans g.any (N := [b, x])
    have Tf : Tabs (TT1 K) _ := fun q hq => by
      obtain ⟨ps, h1, h2, h3⟩ := T1 q hq
      have nn : ∀ {y : Addr} {o : HO}, H1 y = some o → y ∉ [b, x] := fun {y o} hy z => by
        rcases List.mem_cons.1 z with z | z
        · rw [z, hb] at hy; cases hy
        · rw [List.mem_singleton.1 z, e13.none_of nx] at hy; cases hy
      refine ⟨ps, e1f.keep _ _ (nn h1) h1, h2, fun pos cv hc => ?_⟩
      obtain ⟨c, c1, c2⟩ := h3 pos cv hc
      exact ⟨c, c1, e1f.keep _ _ (nn c2) c2⟩
    refine ⟨3, rfl, by decide, by decide, ?_⟩
    refine for_range (lo := 0) (n := 3) (fun j σ H' => ∃ (s' : Addr) (h' : Hist) (v1 v7 v8 : Option V), σ = [some (.ref a), v1, some (.ref b), some (.int pr), some (.int am), some (.ref x), some (.ref s'), v7, v8] ∧ Ext [b, x, tbl K] H1 H' ∧ Wd K [b, x, tbl K] b x H' (2 + 6000 * j) h' (3 * j) ∧ IsLs (im [b, x, tbl K] H') s' h' ∧ Tabs (TT1 K) H')
      ⟨l6, _, _, _, _, rfl, ext_bp e1f, Wf, Lf, Tf⟩ (fun j σ H5 hj p => ?_) (fun σ H5 p => ?_)
    · obtain ⟨s', h', w1, w7, w8, rfl, e6, W5, L5, T5⟩ := p
      refine ⟨_, rfl, b, 4, _, rfl, by decide, by decide, W5.box, by unfold nMax; omega, fun c H6 c0 c1 e7 hB6 => ⟨c, rfl, by omega, by omega, ?_⟩⟩
      refine for_range (lo := 0) (n := c.toNat) (fun i σ H' => ∃ (s' : Addr) (h' : Hist) (v1 v7 v8 : Option V), σ = [some (.ref a), v1, some (.ref b), some (.int pr), some (.int am), some (.ref x), some (.ref s'), v7, v8] ∧ Ext [b, x, tbl K] H1 H' ∧ Wd K [b, x, tbl K] b x H' (2 + 6000 * j + 1 + 300 * i) h' (3 * j + i) ∧ IsLs (im [b, x, tbl K] H') s' h' ∧ Tabs (TT1 K) H')
        ⟨s', h', _, _, _, rfl, e6.trans (ext_bp (ext_b e7)), W5.boxed e7 hB6, L5.mono (e7.im W5.bIn), tabs_ext T5 W5 (ext_b e7)⟩ (fun i σ H7 hi p => ?_) (fun σ H7 p => ?_)
      · obtain ⟨s', h', w1, w7, w8, rfl, e8, W7, L7, T7⟩ := p
        refine ⟨_, rfl, _, rfl, _, rfl, b, x, s', h', _, _, _, rfl, W7, by unfold nMax; omega, by omega, L7, fun s8 h8 H8 e9 W8 L8 => ?_⟩
        refine ⟨_, rfl, _, rfl, x, s8, h8, _, rfl, W8.st, L8, W8.tr, W8.ok.here, fun H9 e10 => ⟨true, rfl, iteF ?_⟩⟩
        exact ⟨s8, h8, _, _, _, rfl, e8.trans ((ext_bp e9).trans e10.any), (W8.ext e10).more (by omega) (by omega), L8.mono (im_ext e10), tabs_ext0 (tabs_ext T7 W7 e9) e10⟩
      · obtain ⟨s', h', w1, w7, w8, rfl, e8, W7, L7, T7⟩ := p
        refine ⟨_, rfl, _, rfl, _, rfl, _, rfl, b, 3, _, rfl, by decide, by decide, W7.box, by unfold nMax; omega, fun dd H8 d0 d1 e9 hB8 => ?_⟩
        refine ⟨dd.toNat, by omega, b, x, s', h', _, _, _, ?_, W7.boxed e9 hB8, by unfold nMax cost; omega, by omega, L7.mono (e9.im W7.bIn), tabs_ext T7 W7 (ext_b e9), by simp, fun H9 e10 W9 T9 => ⟨true, rfl, iteF ?_⟩⟩
        · show [V.ref b, V.ref x, V.ref s', V.int dd] = _
          rw [Int.toNat_of_nonneg d0]
        have in3 : ∀ y ∈ [b, x, tbl K], y ∈ [b, x, tbl K] := fun y hy => hy
        exact ⟨s', h', _, _, _, rfl, e8.trans ((ext_bp (ext_b e9)).trans e10), W9.more (by unfold cost; omega) (by omega), (L7.mono (e9.im W7.bIn)).mono (e10.im in3), T9⟩
    · obtain ⟨s', h', w1, w7, w8, rfl, e6, W5, L5, T5⟩ := p
      refine ⟨⟨_, _, _, _, _, _, _, _, rfl⟩, e1.trans ((e6.drop hb).drop (e13.none_of nx)), T5⟩
end
end Mr

set_option Elab.async false
set_option linter.all false
set_option maxRecDepth 100000
set_option maxHeartbeats 4000000
/-! The head's facts. Printed by gen_head.py. -/
namespace Mr
open PySem PySem.Spec PyProof.Rows L2 Ru Tx
/-! ### more Bools -/
def propB (K : PySem.W.Frag) (C m : Str) : Bool := He.eqO (PySem.W.findIn K (.ref (ga K C)) m) (some (some (.ref (ma K C m)))) && (He.eqO (PySem.W.specialIn K (.ref (ma K C m)) "__get__") (some (some (.builtin "property.__get__"))) &&
  (decide (PySem.W.takesIn K (.ref (ma K C m)) = some true) && (match PySem.W.recIn K (ma K C m) "property" with
    | some (.ref _ :: _) => true
    | _ => false)))
theorem propB_ok {K : PySem.W.Frag} {C m : Str} (h : propB K C m = true) : PropOf K (ga K C) m (ma K C m) (pg K C m) := by
  obtain ⟨h1, h⟩ := He.ba h
  obtain ⟨h2, h⟩ := He.ba h
  obtain ⟨h3, h4⟩ := He.ba h
  refine ⟨He.eqO_ok h1, He.eqO_ok h2, of_decide_eq_true h3, ?_⟩
  unfold pg
  split at h4
  · rename_i g r e
    rw [e]
    exact ⟨r, rfl⟩
  · cases h4
def oexB (K : PySem.W.Frag) (C : Addr) : Bool := match K.lookup C with
  | some ⟨.type "type", _, .cls cd, sl⟩ => (match cd.mro, sl.toList with
    | .ref C' :: bm, [_, _, _, _, some (.builtin n), _] => C' == C && n == "ValueError.__new__" && !cd.hasDel && cd.hasDict && PySem.HandSPX.refsVE bm
    | _, _ => false)
  | _ => false
theorem oexB_ok {K : PySem.W.Frag} {C : Addr} (q : oexB K C = true) : ∃ nm q N bs bm sn sub ab col dd k0 k1 k2 k3 k5, K.lookup C = some (excClassObj nm q C N bs bm true sn sub ab col dd k0 k1 k2 k3 k5 "ValueError.__new__") ∧ PySem.HandSPX.refsVE bm = true := by
  unfold oexB at q
  split at q
  · rename_i dd cd sl ho
    split at q
    · rename_i C' bm k0 k1 k2 k3 n k5 hm hs
      simp only [Bool.and_eq_true, beq_iff_eq, Bool.not_eq_true'] at q
      obtain ⟨⟨⟨⟨rfl, rfl⟩, hdel⟩, hdc⟩, ht⟩ := q
      obtain ⟨nm, bs, mro, ns, qn, hd, sn, sub, ab, col, del⟩ := cd
      dsimp only at hm hdel hdc
      subst hm hdel hdc
      have hsl : sl = #[k0, k1, k2, k3, some (.builtin "ValueError.__new__"), k5] := by
        obtain ⟨l⟩ := sl
        simp only at hs
        rw [hs]
      subst hsl
      exact ⟨nm, qn, ns, bs, bm, sn, sub, ab, col, dd, k0, k1, k2, k3, k5, ho, ht⟩
    · cases q
  · cases q
def excB (K : PySem.W.Frag) (C : Str) : Bool := oexB K (ga K C) && (He.eqO (PySem.W.findIn K (.ref (ga K C)) "__setattr__") (some (some (.builtin "object.__setattr__"))) && (decide (PySem.W.subIn K (.ref (ga K C)) (.type "BaseException") = some true) &&
  (decide (PySem.W.typeIn K (.ref (ga K C)) = some (.type "type")) && (PySem.W.keepIn K (.ref (ga K C)) && (xfB K (ga K C) && (He.eqO (PySem.W.findIn K (.ref (ga K C)) "__init__") (some (some (.ref (ma K C "__init__")))) && decide (PySem.W.typeIn K (.ref (ma K C "__init__")) = some (.type "function"))))))))
theorem excB_ok {K : PySem.W.Frag} {C : Str} (h : excB K C = true) : ExC K (ga K C) (ma K C "__init__") := by
  obtain ⟨h1, h⟩ := He.ba h
  obtain ⟨h2, h⟩ := He.ba h
  obtain ⟨h3, h⟩ := He.ba h
  obtain ⟨h4, h⟩ := He.ba h
  obtain ⟨h5, h⟩ := He.ba h
  obtain ⟨h6, h⟩ := He.ba h
  obtain ⟨h7, h8⟩ := He.ba h
  exact ⟨⟨oexB_ok h1, He.eqO_ok h2, of_decide_eq_true h3, of_decide_eq_true h4, h5⟩, xfB_ok h6, He.eqO_ok h7, of_decide_eq_true h8⟩
def viB (K : PySem.W.Frag) : Bool := match PySem.W.findCls K (.ref (ga K "RowError")) (.type "type") "__init__" with
  | some (.val (.builtin n)) => decide (n = "ValueError.__init__")
  | _ => false
theorem viB_ok {K : PySem.W.Frag} (h : viB K = true) : PySem.W.findCls K (.ref (ga K "RowError")) (.type "type") "__init__" = some (.val (.builtin "ValueError.__init__")) := by
  unfold viB at h
  split at h
  · rename_i n e
    rw [e, of_decide_eq_true h]
  · cases h
/-! ### defs found by a path of one's own -/
def fnA (K : PySem.W.Frag) (a : Addr) : He.FnW := match K.lookup a with
  | some ⟨_, _, .func fd, _⟩ => some (fd.name, fd.qualname, fd.params, fd.body, fd.scope, fd.globals, fd.closure, fd.builtins)
  | _ => none
def okA (K : PySem.W.Frag) (a : Addr) (d : He.DefD) : Bool := PySem.W.keepIn K (.ref a) && (match K.lookup a with
  | some ⟨_, _, .func fd, _⟩ => PySem.W.codeIn K fd.code d.qual && (He.dflB K fd.defaults (d.dvs K) && He.kwdB K fd.kwdefaults (d.kws K))
  | _ => false)
theorem funA {K : PySem.W.Frag} {a : Addr} {d : He.DefD} (e : fnA K a = d.val) (c : okA K a d = true) : ∃ fd, FunD K d.name d.qual d.params d.body d.scope (d.dvs K) (d.kws K) a fd := by
  obtain ⟨kp, c2⟩ := He.ba c
  unfold fnA at e
  cases q : K.lookup a with
  | none =>
    rw [q] at c2
    cases c2
  | some o =>
    obtain ⟨oc, od, dt, osl⟩ := o
    rw [q] at c2 e
    cases dt with
    | func fd =>
      obtain ⟨n1, n2, n3, n4, n5, n6, n7, n8, n9, n10, n11, n12, n13, n14, n15⟩ := fd
      have e2 : (some (n1, n2, n3, n4, n5, n6, n7, n15) : He.FnW) = some (d.name, d.qual, d.params, .stmts d.body, d.scope, mainGlobals, [], builtinsNs) := e
      simp only [Option.some.injEq, Prod.mk.injEq] at e2
      obtain ⟨h1, h2, h3, h4, h5, h6, h7, h8⟩ := e2
      subst h1 h2 h3 h4 h5 h6 h7 h8
      have c3 : (PySem.W.codeIn K n13 d.qual && (He.dflB K n8 (d.dvs K) && He.kwdB K n9 (d.kws K))) = true := c2
      obtain ⟨k1, k2⟩ := He.ba c3
      obtain ⟨k3, k4⟩ := He.ba k2
      exact ⟨_, ⟨oc, od, n8, n9, n10, n11, n12, n13, n14, osl, rfl, q, k1, He.dflB_ok k3, He.kwdB_ok k4⟩, kp⟩
    | _ => cases c2
abbrev Pd : Type := (PySem.W.Frag → Addr) × He.DefD
def SaysG (ps : List Pd) (K : PySem.W.Frag) : Prop := (∀ (i : Nat) {p : Pd}, ps[i]? = some p → fnA K (p.1 K) = p.2.val) ∧ ∀ (i : Nat) {p : Pd}, ps[i]? = some p → okA K (p.1 K) p.2 = true
def obsQ (ps : List Pd) (K : PySem.W.Frag) : List (He.FnW × Bool) := ps.map fun p => (fnA K (p.1 K), okA K (p.1 K) p.2)
def valQ (ps : List Pd) : List (He.FnW × Bool) := ps.map fun p => (p.2.val, true)
theorem saysG_of {ps : List Pd} {K : PySem.W.Frag} (e : obsQ ps K = valQ ps) : SaysG ps K := by
  have key : ∀ (i : Nat) (p : Pd), ps[i]? = some p → (fnA K (p.1 K), okA K (p.1 K) p.2) = (p.2.val, true) := fun i p h => by
    have e2 : (obsQ ps K)[i]? = (valQ ps)[i]? := by rw [e]
    unfold obsQ valQ at e2
    rw [List.getElem?_map, List.getElem?_map, h] at e2
    exact Option.some.inj e2
  exact ⟨fun i {p} h => congrArg (·.1) (key i p h), fun i {p} h => congrArg (·.2) (key i p h)⟩
abbrev AlP : Type := He.AlX × List (He.FnW × Bool)
/-- what is looked at: what the module's names reach, and the one table of the interpreter's own that a class's reading asks -/
def asP (g : Addr → Option Obj) (n : Nat) : List Addr := cStatics :: He.asD g n
def obsR (fa : List He.Fa) (fn : List He.DefD) (ts : List He.Tab) (tf : List He.Defn) (ex : PySem.W.Frag → Bool) (ps : List Pd) (g : Addr → Option Obj) (K : PySem.W.Frag) : AlP := ((He.obsT fa fn ts K, ex K && He.tabsB g tf K), obsQ ps K)
def obsP (n : Nat) (fa : List He.Fa) (fn : List He.DefD) (ts : List He.Tab) (tf : List He.Defn) (ex : PySem.W.Frag → Bool) (ps : List Pd) (g : Addr → Option Obj) : AlP := obsR fa fn ts tf ex ps g (He.frT g (asP g n))
theorem saysR_of {as : List Addr} {fa : List He.Fa} {fn : List He.DefD} {ts : List He.Tab} {tf : List He.Defn} {ex : PySem.W.Frag → Bool} {w : World} {h : Heap} (e : ((He.obsT fa fn ts (He.frT h.get? as), ex (He.frT h.get? as) && He.tabsB h.get? tf (He.frT h.get? as)) : He.AlX) = He.valX fn ts w) : He.SaysX fa fn ts tf ex w h (He.frT h.get? as) := by
  have e1 : He.obsT fa fn ts (He.frT h.get? as) = He.valT fn ts w := congrArg (fun z : He.AlX => z.1) e
  have e2 : (ex (He.frT h.get? as) && He.tabsB h.get? tf (He.frT h.get? as)) = true := congrArg (fun z : He.AlX => z.2) e
  obtain ⟨h1, h2⟩ := He.ba e2
  have key : ∀ p ∈ tf, PySem.W.codeHdIn (He.frT h.get? as) (He.cT (He.frT h.get? as) p).1 (He.cT (He.frT h.get? as) p).2 = true ∧ ∃ o, h.get? (He.cT (He.frT h.get? as) p).2 = some o ∧ He.emptyTab o = true := fun p hp => by
    obtain ⟨h3, h4⟩ := He.ba (List.all_eq_true.mp h2 p hp)
    refine ⟨h3, ?_⟩
    cases q : h.get? (He.cT (He.frT h.get? as) p).2 with
    | none =>
      rw [q] at h4
      cases h4
    | some o =>
      rw [q] at h4
      exact ⟨o, rfl, h4⟩
  exact ⟨e1, h1, fun p hp => (key p hp).1, fun p hp => by
    obtain ⟨_, o, q, z⟩ := key p hp
    exact He.frT_none q z, fun p hp => by
    obtain ⟨_, o, q, z⟩ := key p hp
    rw [q, He.emptyTab_eq z]⟩
def hookP (n : Nat) (fa : List He.Fa) (fn : List He.DefD) (ts : List He.Tab) (tf : List He.Defn) (ex : PySem.W.Frag → Bool) (ps : List Pd) : PySem.W.Hook where
  α := AlP
  obs := fun s => obsP n fa fn ts tf ex ps s.heap.get?
  val := fun w => (He.valX fn ts w, valQ ps)
  says := fun w h => ∃ K : PySem.W.Frag, K.In h ∧ He.SaysX fa fn ts tf ex w h K ∧ SaysG ps K
  of := fun _ _ e => ⟨_, He.frT_in, saysR_of (congrArg (·.1) e), saysG_of (congrArg (·.2) e)⟩
  keeps := fun _ _ _ ⟨K, hK, c, d⟩ k => ⟨K, PySem.W.Frag.In.keeps hK k, ⟨c.t, c.more, c.hd, c.out, fun p hp => k _ _ (c.empty p hp)⟩, d⟩
theorem obsP_eq {n : Nat} {fa : List He.Fa} {fn : List He.DefD} {ts : List He.Tab} {tf : List He.Defn} {ex : PySem.W.Frag → Bool} {ps : List Pd} {g : Addr → Option Obj} {s : Shared} (h : ∀ a, g a = s.heap.get? a) : obsP n fa fn ts tf ex ps g = (hookP n fa fn ts tf ex ps).obs s := by
  have e : g = s.heap.get? := funext h
  rw [e] <;> rfl
/-! ### this text's facts -/

def fa : List He.Fa := [.free "isinstance", .free "int", .free "bool", .free "list", .free "tuple", .free "all", .free "str", .free "len", .free "enumerate", .free "range", .free "max", .free "min", .free "KeyError", .glo "RowError", .glo "InvalidNumber", .glo "UnknownName", .glo "NothingToUndo", .glo "NothingToRedo", .glo "PRIMES", .glo "is_integer", .glo "is_prime", .glo "need_prime", .glo "is_vector", .glo "is_matrix", .glo "reduced", .glo "reduced_rows", .glo "OTHER", .glo "is_pattern", .glo "need_pattern", .glo "shape_of", .glo "Row", .glo "need_arrow", .glo "need_place_size", .glo "grown", .glo "Trial", .glo "Stream", .glo "_law_cell", .glo "_law_box", .glo "_law_take", .glo "_law_prime", .glo "_law_matrix", .glo "_law_shown", .glo "_law_cut", .glo "_law_longer", .glo "_law_step", .glo "_law_stands", .glo "_law_within", .glo "_law_tried", .glo "law", .int "MOST_ARROWS" 6, .int "MOST_SIZE" 6, .meth "Row" "maps", .meth "Row" "part", .meth "Trial" "__enter__", .meth "Trial" "__exit__", .meth "Stream" "row", .meth "Stream" "step_to", .meth "Stream" "grow", .meth "Stream" "cut", .meth "Stream" "undo", .meth "Stream" "redo", .meth "Stream" "trial", .meth "Stream" "tried", .meth "Stream" "__len__", .cls "Row", .mkr "Row", .cls "Trial", .mkr "Trial", .cls "Stream", .mkr "Stream", .noat "Row" "own_pattern", .noat "Row" "own_prime", .noat "Row" "own_sizes", .noat "Row" "own_maps", .noat "Trial" "stream", .noat "Trial" "kept", .noat "Stream" "state", .meth "InvalidNumber" "__init__", .noat "InvalidNumber" "value", .meth "UnknownName" "__init__", .noat "UnknownName" "name", .meth "NothingToUndo" "__init__", .meth "NothingToRedo" "__init__", .exm "NothingToUndo" "NothingToUndo" true, .exm "NothingToUndo" "NothingToRedo" false, .exm "NothingToUndo" "UnknownName" false, .exm "NothingToUndo" "InvalidNumber" false, .exm "NothingToRedo" "NothingToUndo" false, .exm "NothingToRedo" "NothingToRedo" true, .exm "NothingToRedo" "UnknownName" false, .exm "NothingToRedo" "InvalidNumber" false, .exm "UnknownName" "NothingToUndo" false, .exm "UnknownName" "NothingToRedo" false, .exm "UnknownName" "UnknownName" true, .exm "UnknownName" "InvalidNumber" false, .exm "InvalidNumber" "NothingToUndo" false, .exm "InvalidNumber" "NothingToRedo" false, .exm "InvalidNumber" "UnknownName" false, .exm "InvalidNumber" "InvalidNumber" true]
def dd0 : He.DefD := ⟨("is_integer", none), "is_integer", "is_integer", defArgs sIsInt, defBody sIsInt, defScope sIsInt, [.non, .non], []⟩
def dd1 : He.DefD := ⟨("is_prime", none), "is_prime", "is_prime", defArgs sIsPrime, defBody sIsPrime, defScope sIsPrime, [], []⟩
def dd2 : He.DefD := ⟨("need_prime", none), "need_prime", "need_prime", defArgs sNeedPrime, defBody sNeedPrime, defScope sNeedPrime, [], []⟩
def dd3 : He.DefD := ⟨("is_vector", none), "is_vector", "is_vector", defArgs sIsVector, defBody sIsVector, defScope sIsVector, [], []⟩
def dd4 : He.DefD := ⟨("is_matrix", none), "is_matrix", "is_matrix", defArgs sIsMatrix, defBody sIsMatrix, defScope sIsMatrix, [], []⟩
def dd5 : He.DefD := ⟨("reduced", none), "reduced", "reduced", defArgs sReduced, defBody sReduced, defScope sReduced, [], []⟩
def dd6 : He.DefD := ⟨("reduced_rows", none), "reduced_rows", "reduced_rows", defArgs sReducedRows, defBody sReducedRows, defScope sReducedRows, [], []⟩
def dd7 : He.DefD := ⟨("is_pattern", none), "is_pattern", "is_pattern", defArgs sIsPattern, defBody sIsPattern, defScope sIsPattern, [], []⟩
def dd8 : He.DefD := ⟨("need_pattern", none), "need_pattern", "need_pattern", defArgs sNeedPattern, defBody sNeedPattern, defScope sNeedPattern, [], []⟩
def dd9 : He.DefD := ⟨("shape_of", none), "shape_of", "shape_of", defArgs sShapeOf, defBody sShapeOf, defScope sShapeOf, [], []⟩
def dd10 : He.DefD := ⟨("need_arrow", none), "need_arrow", "need_arrow", defArgs sNeedArrow, defBody sNeedArrow, defScope sNeedArrow, [], []⟩
def dd11 : He.DefD := ⟨("need_place_size", none), "need_place_size", "need_place_size", defArgs sNeedPlaceSize, defBody sNeedPlaceSize, defScope sNeedPlaceSize, [], []⟩
def dd12 : He.DefD := ⟨("grown", none), "grown", "grown", defArgs sGrown, defBody sGrown, defScope sGrown, [], []⟩
def dd13 : He.DefD := ⟨("_law_cell", none), "_law_cell", "_law_cell", defArgs sCell, defBody sCell, defScope sCell, [], []⟩
def dd14 : He.DefD := ⟨("_law_box", none), "_law_box", "_law_box", defArgs sBox, defBody sBox, defScope sBox, [], []⟩
def dd15 : He.DefD := ⟨("_law_take", none), "_law_take", "_law_take", defArgs sTake, defBody sTake, defScope sTake, [], []⟩
def dd16 : He.DefD := ⟨("_law_prime", none), "_law_prime", "_law_prime", defArgs sPrime, defBody sPrime, defScope sPrime, [], []⟩
def dd17 : He.DefD := ⟨("_law_matrix", none), "_law_matrix", "_law_matrix", defArgs sMatrix, defBody sMatrix, defScope sMatrix, [], []⟩
def dd18 : He.DefD := ⟨("_law_shown", none), "_law_shown", "_law_shown", defArgs sShown, defBody sShown, defScope sShown, [], []⟩
def dd19 : He.DefD := ⟨("_law_cut", none), "_law_cut", "_law_cut", defArgs sCut, defBody sCut, defScope sCut, [], []⟩
def dd20 : He.DefD := ⟨("_law_longer", none), "_law_longer", "_law_longer", defArgs sLonger, defBody sLonger, defScope sLonger, [], []⟩
def dd21 : He.DefD := ⟨("_law_step", none), "_law_step", "_law_step", defArgs sStep, defBody sStep, defScope sStep, [], []⟩
def dd22 : He.DefD := ⟨("_law_stands", none), "_law_stands", "_law_stands", defArgs sStands, defBody sStands, defScope sStands, [], []⟩
def dd23 : He.DefD := ⟨("_law_within", none), "_law_within", "_law_within", defArgs sWithin, defBody sWithin, defScope sWithin, [], []⟩
def dd24 : He.DefD := ⟨("_law_tried", none), "_law_tried", "_law_tried", defArgs sTried, defBody sTried, defScope sTried, [], []⟩
def dd25 : He.DefD := ⟨("law", none), "law", "law", defArgs sLaw, defBody sLaw, defScope sLaw, [], []⟩
def dd26 : He.DefD := ⟨("Row", some "maps"), "maps", "Row.maps", defArgs sRowMaps, defBody sRowMaps, defScope sRowMaps, [], []⟩
def dd27 : He.DefD := ⟨("Row", some "part"), "part", "Row.part", defArgs sRowPart, defBody sRowPart, defScope sRowPart, [], []⟩
def dd28 : He.DefD := ⟨("Trial", some "__enter__"), "__enter__", "Trial.__enter__", defArgs sTrialEnter, defBody sTrialEnter, defScope sTrialEnter, [], []⟩
def dd29 : He.DefD := ⟨("Trial", some "__exit__"), "__exit__", "Trial.__exit__", defArgs sTrialExit, defBody sTrialExit, defScope sTrialExit, [], []⟩
def dd30 : He.DefD := ⟨("Stream", some "row"), "row", "Stream.row", defArgs sStRow, defBody sStRow, defScope sStRow, [], []⟩
def dd31 : He.DefD := ⟨("Stream", some "step_to"), "step_to", "Stream.step_to", defArgs sStStepTo, defBody sStStepTo, defScope sStStepTo, [], []⟩
def dd32 : He.DefD := ⟨("Stream", some "grow"), "grow", "Stream.grow", defArgs sStGrow, defBody sStGrow, defScope sStGrow, [], []⟩
def dd33 : He.DefD := ⟨("Stream", some "cut"), "cut", "Stream.cut", defArgs sStCut, defBody sStCut, defScope sStCut, [], []⟩
def dd34 : He.DefD := ⟨("Stream", some "undo"), "undo", "Stream.undo", defArgs sStUndo, defBody sStUndo, defScope sStUndo, [], []⟩
def dd35 : He.DefD := ⟨("Stream", some "redo"), "redo", "Stream.redo", defArgs sStRedo, defBody sStRedo, defScope sStRedo, [], []⟩
def dd36 : He.DefD := ⟨("Stream", some "trial"), "trial", "Stream.trial", defArgs sStTrial, defBody sStTrial, defScope sStTrial, [], []⟩
def dd37 : He.DefD := ⟨("Stream", some "tried"), "tried", "Stream.tried", defArgs sStTried, defBody sStTried, defScope sStTried, [], []⟩
def dd38 : He.DefD := ⟨("Stream", some "__len__"), "__len__", "Stream.__len__", defArgs sStLen, defBody sStLen, defScope sStLen, [], []⟩
def dd39 : He.DefD := ⟨("Row", some "__init__"), "__init__", "Row.__init__", defArgs sRowInit, defBody sRowInit, defScope sRowInit, [], []⟩
def dd40 : He.DefD := ⟨("Trial", some "__init__"), "__init__", "Trial.__init__", defArgs sTrialInit, defBody sTrialInit, defScope sTrialInit, [], []⟩
def dd41 : He.DefD := ⟨("Stream", some "__init__"), "__init__", "Stream.__init__", defArgs sStInit, defBody sStInit, defScope sStInit, [], []⟩
def dd42 : He.DefD := ⟨("InvalidNumber", some "__init__"), "__init__", "InvalidNumber.__init__", defArgs sIvNumInit, defBody sIvNumInit, defScope sIvNumInit, [], []⟩
def dd43 : He.DefD := ⟨("UnknownName", some "__init__"), "__init__", "UnknownName.__init__", defArgs sUnkInit, defBody sUnkInit, defScope sUnkInit, [], []⟩
def dd44 : He.DefD := ⟨("NothingToUndo", some "__init__"), "__init__", "NothingToUndo.__init__", defArgs sNtUInit, defBody sNtUInit, defScope sNtUInit, [], []⟩
def dd45 : He.DefD := ⟨("NothingToRedo", some "__init__"), "__init__", "NothingToRedo.__init__", defArgs sNtRInit, defBody sNtRInit, defScope sNtRInit, [], []⟩
def fn : List He.DefD := [dd0, dd1, dd2, dd3, dd4, dd5, dd6, dd7, dd8, dd9, dd10, dd11, dd12, dd13, dd14, dd15, dd16, dd17, dd18, dd19, dd20, dd21, dd22, dd23, dd24, dd25, dd26, dd27, dd28, dd29, dd30, dd31, dd32, dd33, dd34, dd35, dd36, dd37, dd38, dd39, dd40, dd41, dd42, dd43, dd44, dd45]
def tOther : He.Tab := ((fun K => ga K "OTHER"), [">", "<"])
def ts : List He.Tab := [tOther]
def tf : List He.Defn := [("_law_tried", none)]
def bx0 (K : PySem.W.Frag) : Bool := He.tupB K "PRIMES" [.int 2, .int 3, .int 5, .int 7, .int 11, .int 13]
def bx1 (K : PySem.W.Frag) : Bool := He.valsB K (ga K "OTHER") [(">", .str "<"), ("<", .str ">")]
def bx2 (K : PySem.W.Frag) : Bool := propB K "Row" "pattern"
def bx3 (K : PySem.W.Frag) : Bool := propB K "Row" "prime"
def bx4 (K : PySem.W.Frag) : Bool := propB K "Row" "sizes"
def bx5 (K : PySem.W.Frag) : Bool := propB K "Stream" "undoable"
def bx6 (K : PySem.W.Frag) : Bool := propB K "Stream" "redoable"
def bx7 (K : PySem.W.Frag) : Bool := excB K "InvalidNumber"
def bx8 (K : PySem.W.Frag) : Bool := excB K "UnknownName"
def bx9 (K : PySem.W.Frag) : Bool := excB K "NothingToUndo"
def bx10 (K : PySem.W.Frag) : Bool := excB K "NothingToRedo"
def bx11 (K : PySem.W.Frag) : Bool := decide (PySem.W.exmOne K (.ref (ga K "NothingToUndo")) (.type "KeyError") = some false)
def bx12 (K : PySem.W.Frag) : Bool := decide (PySem.W.exmOne K (.type "KeyError") (.ref (ga K "NothingToUndo")) = some false)
def bx13 (K : PySem.W.Frag) : Bool := decide (PySem.W.exmOne K (.ref (ga K "NothingToRedo")) (.type "KeyError") = some false)
def bx14 (K : PySem.W.Frag) : Bool := decide (PySem.W.exmOne K (.type "KeyError") (.ref (ga K "NothingToRedo")) = some false)
def bx15 (K : PySem.W.Frag) : Bool := decide (PySem.W.exmOne K (.ref (ga K "UnknownName")) (.type "KeyError") = some false)
def bx16 (K : PySem.W.Frag) : Bool := decide (PySem.W.exmOne K (.type "KeyError") (.ref (ga K "UnknownName")) = some false)
def bx17 (K : PySem.W.Frag) : Bool := decide (PySem.W.exmOne K (.ref (ga K "InvalidNumber")) (.type "KeyError") = some false)
def bx18 (K : PySem.W.Frag) : Bool := decide (PySem.W.exmOne K (.type "KeyError") (.ref (ga K "InvalidNumber")) = some false)
def bx19 (K : PySem.W.Frag) : Bool := PySem.W.readsIn K (ga K "RowError") (.type "type")
def bx20 (K : PySem.W.Frag) : Bool := He.eqO (PySem.W.specialIn K (.ref (ga K "RowError")) "__getattribute__") (some (some (.builtin "type.__getattribute__")))
def bx21 (K : PySem.W.Frag) : Bool := viB K
def exs : List (PySem.W.Frag → Bool) := [bx0, bx1, bx2, bx3, bx4, bx5, bx6, bx7, bx8, bx9, bx10, bx11, bx12, bx13, bx14, bx15, bx16, bx17, bx18, bx19, bx20, bx21]
def ex (K : PySem.W.Frag) : Bool := exs.all fun b => b K
theorem ex_at {K : PySem.W.Frag} (h : ex K = true) (i : Nat) {b : PySem.W.Frag → Bool} (e : exs[i]? = some b) : b K = true := List.all_eq_true.mp h b (List.mem_of_getElem? e)
def ps : List Pd := [((fun K => pg K "Row" "pattern"), ⟨("Row", some "pattern"), "pattern", "Row.pattern", defArgs sRowPattern, defBody sRowPattern, defScope sRowPattern, [], []⟩),
  ((fun K => pg K "Row" "prime"), ⟨("Row", some "prime"), "prime", "Row.prime", defArgs sRowPrime, defBody sRowPrime, defScope sRowPrime, [], []⟩),
  ((fun K => pg K "Row" "sizes"), ⟨("Row", some "sizes"), "sizes", "Row.sizes", defArgs sRowSizes, defBody sRowSizes, defScope sRowSizes, [], []⟩),
  ((fun K => pg K "Stream" "undoable"), ⟨("Stream", some "undoable"), "undoable", "Stream.undoable", defArgs sStUndoable, defBody sStUndoable, defScope sStUndoable, [], []⟩),
  ((fun K => pg K "Stream" "redoable"), ⟨("Stream", some "redoable"), "redoable", "Stream.redoable", defArgs sStRedoable, defBody sStRedoable, defScope sStRedoable, [], []⟩)]
end Mr

set_option Elab.async false
set_option linter.all false
set_option maxRecDepth 100000
set_option maxHeartbeats 4000000
namespace Mr
open PySem PySem.Spec PyProof.Rows L2 Ru Tx
theorem txt_of {w : World} {K : PySem.W.Frag} {h : Heap} {mg : Str → Option Value} (X : K.In h) (G : h.Ns mainGlobals mg) (c : He.SaysX fa fn ts tf ex w h K) (g : SaysG ps K) : Txt w K mg where
  b_isinstance := He.free_ok X G (c.t.d.fact 0 (f := .free "isinstance") rfl)
  b_int := He.free_ok X G (c.t.d.fact 1 (f := .free "int") rfl)
  b_bool := He.free_ok X G (c.t.d.fact 2 (f := .free "bool") rfl)
  b_list := He.free_ok X G (c.t.d.fact 3 (f := .free "list") rfl)
  b_tuple := He.free_ok X G (c.t.d.fact 4 (f := .free "tuple") rfl)
  b_all := He.free_ok X G (c.t.d.fact 5 (f := .free "all") rfl)
  b_str := He.free_ok X G (c.t.d.fact 6 (f := .free "str") rfl)
  b_len := He.free_ok X G (c.t.d.fact 7 (f := .free "len") rfl)
  b_enumerate := He.free_ok X G (c.t.d.fact 8 (f := .free "enumerate") rfl)
  b_range := He.free_ok X G (c.t.d.fact 9 (f := .free "range") rfl)
  b_max := He.free_ok X G (c.t.d.fact 10 (f := .free "max") rfl)
  b_min := He.free_ok X G (c.t.d.fact 11 (f := .free "min") rfl)
  b_KeyError := He.free_ok X G (c.t.d.fact 12 (f := .free "KeyError") rfl)
  g_RowError := He.glo_ok X G (c.t.d.fact 13 (f := .glo "RowError") rfl)
  g_InvalidNumber := He.glo_ok X G (c.t.d.fact 14 (f := .glo "InvalidNumber") rfl)
  g_UnknownName := He.glo_ok X G (c.t.d.fact 15 (f := .glo "UnknownName") rfl)
  g_NothingToUndo := He.glo_ok X G (c.t.d.fact 16 (f := .glo "NothingToUndo") rfl)
  g_NothingToRedo := He.glo_ok X G (c.t.d.fact 17 (f := .glo "NothingToRedo") rfl)
  g_PRIMES := He.glo_ok X G (c.t.d.fact 18 (f := .glo "PRIMES") rfl)
  g_is_integer := He.glo_ok X G (c.t.d.fact 19 (f := .glo "is_integer") rfl)
  g_is_prime := He.glo_ok X G (c.t.d.fact 20 (f := .glo "is_prime") rfl)
  g_need_prime := He.glo_ok X G (c.t.d.fact 21 (f := .glo "need_prime") rfl)
  g_is_vector := He.glo_ok X G (c.t.d.fact 22 (f := .glo "is_vector") rfl)
  g_is_matrix := He.glo_ok X G (c.t.d.fact 23 (f := .glo "is_matrix") rfl)
  g_reduced := He.glo_ok X G (c.t.d.fact 24 (f := .glo "reduced") rfl)
  g_reduced_rows := He.glo_ok X G (c.t.d.fact 25 (f := .glo "reduced_rows") rfl)
  g_OTHER := He.glo_ok X G (c.t.d.fact 26 (f := .glo "OTHER") rfl)
  g_is_pattern := He.glo_ok X G (c.t.d.fact 27 (f := .glo "is_pattern") rfl)
  g_need_pattern := He.glo_ok X G (c.t.d.fact 28 (f := .glo "need_pattern") rfl)
  g_shape_of := He.glo_ok X G (c.t.d.fact 29 (f := .glo "shape_of") rfl)
  g_Row := He.glo_ok X G (c.t.d.fact 30 (f := .glo "Row") rfl)
  g_need_arrow := He.glo_ok X G (c.t.d.fact 31 (f := .glo "need_arrow") rfl)
  g_need_place_size := He.glo_ok X G (c.t.d.fact 32 (f := .glo "need_place_size") rfl)
  g_grown := He.glo_ok X G (c.t.d.fact 33 (f := .glo "grown") rfl)
  g_Trial := He.glo_ok X G (c.t.d.fact 34 (f := .glo "Trial") rfl)
  g_Stream := He.glo_ok X G (c.t.d.fact 35 (f := .glo "Stream") rfl)
  g_law_cell := He.glo_ok X G (c.t.d.fact 36 (f := .glo "_law_cell") rfl)
  g_law_box := He.glo_ok X G (c.t.d.fact 37 (f := .glo "_law_box") rfl)
  g_law_take := He.glo_ok X G (c.t.d.fact 38 (f := .glo "_law_take") rfl)
  g_law_prime := He.glo_ok X G (c.t.d.fact 39 (f := .glo "_law_prime") rfl)
  g_law_matrix := He.glo_ok X G (c.t.d.fact 40 (f := .glo "_law_matrix") rfl)
  g_law_shown := He.glo_ok X G (c.t.d.fact 41 (f := .glo "_law_shown") rfl)
  g_law_cut := He.glo_ok X G (c.t.d.fact 42 (f := .glo "_law_cut") rfl)
  g_law_longer := He.glo_ok X G (c.t.d.fact 43 (f := .glo "_law_longer") rfl)
  g_law_step := He.glo_ok X G (c.t.d.fact 44 (f := .glo "_law_step") rfl)
  g_law_stands := He.glo_ok X G (c.t.d.fact 45 (f := .glo "_law_stands") rfl)
  g_law_within := He.glo_ok X G (c.t.d.fact 46 (f := .glo "_law_within") rfl)
  g_law_tried := He.glo_ok X G (c.t.d.fact 47 (f := .glo "_law_tried") rfl)
  g_law := He.glo_ok X G (c.t.d.fact 48 (f := .glo "law") rfl)
  i_MA := He.int_ok X G (c.t.d.fact 49 (f := .int "MOST_ARROWS" 6) rfl)
  i_MS := He.int_ok X G (c.t.d.fact 50 (f := .int "MOST_SIZE" 6) rfl)
  t_PRIMES := fun H => He.tupB_ok (vs := [.int 2, .int 3, .int 5, .int 7, .int 11, .int 13]) (ex_at c.more 0 (b := bx0) rfl) H
  t_OTHER := c.t.tab 0 (t := tOther) rfl
  k_OTHER1 := by obtain ⟨u, h, _⟩ := He.valsB_ok (a := ga K "OTHER") (kvs := [(">", .str "<"), ("<", .str ">")]) (ex_at c.more 1 (b := bx1) rfl) (q := (">", .str "<")) (by simp); exact ⟨u, h⟩
  k_OTHER2 := by obtain ⟨u, h, _⟩ := He.valsB_ok (a := ga K "OTHER") (kvs := [(">", .str "<"), ("<", .str ">")]) (ex_at c.more 1 (b := bx1) rfl) (q := ("<", .str ">")) (by simp); exact ⟨u, h⟩
  d_is_integer := c.t.d.def_ 0 (d := dd0) rfl
  d_is_prime := c.t.d.def_ 1 (d := dd1) rfl
  d_need_prime := c.t.d.def_ 2 (d := dd2) rfl
  d_is_vector := c.t.d.def_ 3 (d := dd3) rfl
  d_is_matrix := c.t.d.def_ 4 (d := dd4) rfl
  d_reduced := c.t.d.def_ 5 (d := dd5) rfl
  d_reduced_rows := c.t.d.def_ 6 (d := dd6) rfl
  d_is_pattern := c.t.d.def_ 7 (d := dd7) rfl
  d_need_pattern := c.t.d.def_ 8 (d := dd8) rfl
  d_shape_of := c.t.d.def_ 9 (d := dd9) rfl
  d_need_arrow := c.t.d.def_ 10 (d := dd10) rfl
  d_need_place_size := c.t.d.def_ 11 (d := dd11) rfl
  d_grown := c.t.d.def_ 12 (d := dd12) rfl
  d_law_cell := c.t.d.def_ 13 (d := dd13) rfl
  d_law_box := c.t.d.def_ 14 (d := dd14) rfl
  d_law_take := c.t.d.def_ 15 (d := dd15) rfl
  d_law_prime := c.t.d.def_ 16 (d := dd16) rfl
  d_law_matrix := c.t.d.def_ 17 (d := dd17) rfl
  d_law_shown := c.t.d.def_ 18 (d := dd18) rfl
  d_law_cut := c.t.d.def_ 19 (d := dd19) rfl
  d_law_longer := c.t.d.def_ 20 (d := dd20) rfl
  d_law_step := c.t.d.def_ 21 (d := dd21) rfl
  d_law_stands := c.t.d.def_ 22 (d := dd22) rfl
  d_law_within := c.t.d.def_ 23 (d := dd23) rfl
  d_law_tried := c.t.d.def_ 24 (d := dd24) rfl
  d_law := c.t.d.def_ 25 (d := dd25) rfl
  d_Row_maps := c.t.d.def_ 26 (d := dd26) rfl
  m_Row_maps := He.meth_ok (c.t.d.fact 51 (f := .meth "Row" "maps") rfl)
  d_Row_part := c.t.d.def_ 27 (d := dd27) rfl
  m_Row_part := He.meth_ok (c.t.d.fact 52 (f := .meth "Row" "part") rfl)
  d_Trial_u_enteru_ := c.t.d.def_ 28 (d := dd28) rfl
  d_Trial_u_exitu_ := c.t.d.def_ 29 (d := dd29) rfl
  d_Stream_row := c.t.d.def_ 30 (d := dd30) rfl
  m_Stream_row := He.meth_ok (c.t.d.fact 55 (f := .meth "Stream" "row") rfl)
  d_Stream_step_to := c.t.d.def_ 31 (d := dd31) rfl
  m_Stream_step_to := He.meth_ok (c.t.d.fact 56 (f := .meth "Stream" "step_to") rfl)
  d_Stream_grow := c.t.d.def_ 32 (d := dd32) rfl
  m_Stream_grow := He.meth_ok (c.t.d.fact 57 (f := .meth "Stream" "grow") rfl)
  d_Stream_cut := c.t.d.def_ 33 (d := dd33) rfl
  m_Stream_cut := He.meth_ok (c.t.d.fact 58 (f := .meth "Stream" "cut") rfl)
  d_Stream_undo := c.t.d.def_ 34 (d := dd34) rfl
  m_Stream_undo := He.meth_ok (c.t.d.fact 59 (f := .meth "Stream" "undo") rfl)
  d_Stream_redo := c.t.d.def_ 35 (d := dd35) rfl
  m_Stream_redo := He.meth_ok (c.t.d.fact 60 (f := .meth "Stream" "redo") rfl)
  d_Stream_trial := c.t.d.def_ 36 (d := dd36) rfl
  m_Stream_trial := He.meth_ok (c.t.d.fact 61 (f := .meth "Stream" "trial") rfl)
  d_Stream_tried := c.t.d.def_ 37 (d := dd37) rfl
  m_Stream_tried := He.meth_ok (c.t.d.fact 62 (f := .meth "Stream" "tried") rfl)
  d_Stream_u_lenu_ := c.t.d.def_ 38 (d := dd38) rfl
  d_Row_init := c.t.d.def_ 39 (d := dd39) rfl
  d_Trial_init := c.t.d.def_ 40 (d := dd40) rfl
  d_Stream_init := c.t.d.def_ 41 (d := dd41) rfl
  d_InvalidNumber_init := c.t.d.def_ 42 (d := dd42) rfl
  d_UnknownName_init := c.t.d.def_ 43 (d := dd43) rfl
  d_NothingToUndo_init := c.t.d.def_ 44 (d := dd44) rfl
  d_NothingToRedo_init := c.t.d.def_ 45 (d := dd45) rfl
  cl_Row := He.cls_ok (c.t.d.fact 64 (f := .cls "Row") rfl)
  mk_Row := He.mkr_ok (c.t.d.fact 65 (f := .mkr "Row") rfl)
  cl_Trial := He.cls_ok (c.t.d.fact 66 (f := .cls "Trial") rfl)
  mk_Trial := He.mkr_ok (c.t.d.fact 67 (f := .mkr "Trial") rfl)
  cl_Stream := He.cls_ok (c.t.d.fact 68 (f := .cls "Stream") rfl)
  mk_Stream := He.mkr_ok (c.t.d.fact 69 (f := .mkr "Stream") rfl)
  d_Row_pattern := funA (g.1 0 rfl) (g.2 0 rfl)
  p_Row_pattern := propB_ok (ex_at c.more 2 (b := bx2) rfl)
  d_Row_prime := funA (g.1 1 rfl) (g.2 1 rfl)
  p_Row_prime := propB_ok (ex_at c.more 3 (b := bx3) rfl)
  d_Row_sizes := funA (g.1 2 rfl) (g.2 2 rfl)
  p_Row_sizes := propB_ok (ex_at c.more 4 (b := bx4) rfl)
  d_Stream_undoable := funA (g.1 3 rfl) (g.2 3 rfl)
  p_Stream_undoable := propB_ok (ex_at c.more 5 (b := bx5) rfl)
  d_Stream_redoable := funA (g.1 4 rfl) (g.2 4 rfl)
  p_Stream_redoable := propB_ok (ex_at c.more 6 (b := bx6) rfl)
  n_Row_own_pattern := He.noat_ok (c.t.d.fact 70 (f := .noat "Row" "own_pattern") rfl)
  n_Row_own_prime := He.noat_ok (c.t.d.fact 71 (f := .noat "Row" "own_prime") rfl)
  n_Row_own_sizes := He.noat_ok (c.t.d.fact 72 (f := .noat "Row" "own_sizes") rfl)
  n_Row_own_maps := He.noat_ok (c.t.d.fact 73 (f := .noat "Row" "own_maps") rfl)
  n_Trial_stream := He.noat_ok (c.t.d.fact 74 (f := .noat "Trial" "stream") rfl)
  n_Trial_kept := He.noat_ok (c.t.d.fact 75 (f := .noat "Trial" "kept") rfl)
  n_Stream_state := He.noat_ok (c.t.d.fact 76 (f := .noat "Stream" "state") rfl)
  en_f := (He.meth_ok (c.t.d.fact 53 (f := .meth "Trial" "__enter__") rfl)).at_
  en_n := (He.meth_ok (c.t.d.fact 53 (f := .meth "Trial" "__enter__") rfl)).fn
  ex_f := (He.meth_ok (c.t.d.fact 54 (f := .meth "Trial" "__exit__") rfl)).at_
  ex_n := (He.meth_ok (c.t.d.fact 54 (f := .meth "Trial" "__exit__") rfl)).fn
  le_f := (He.meth_ok (c.t.d.fact 63 (f := .meth "Stream" "__len__") rfl)).at_
  le_n := (He.meth_ok (c.t.d.fact 63 (f := .meth "Stream" "__len__") rfl)).fn
  x_InvalidNumber := excB_ok (ex_at c.more 7 (b := bx7) rfl)
  n_InvalidNumber_value := He.noat_ok (c.t.d.fact 78 (f := .noat "InvalidNumber" "value") rfl)
  x_UnknownName := excB_ok (ex_at c.more 8 (b := bx8) rfl)
  n_UnknownName_name := He.noat_ok (c.t.d.fact 80 (f := .noat "UnknownName" "name") rfl)
  x_NothingToUndo := excB_ok (ex_at c.more 9 (b := bx9) rfl)
  x_NothingToRedo := excB_ok (ex_at c.more 10 (b := bx10) rfl)
  e_NothingToUndo_NothingToUndo := He.exm_ok (c.t.d.fact 83 (f := .exm "NothingToUndo" "NothingToUndo" true) rfl)
  e_NothingToUndo_NothingToRedo := He.exm_ok (c.t.d.fact 84 (f := .exm "NothingToUndo" "NothingToRedo" false) rfl)
  e_NothingToUndo_UnknownName := He.exm_ok (c.t.d.fact 85 (f := .exm "NothingToUndo" "UnknownName" false) rfl)
  e_NothingToUndo_InvalidNumber := He.exm_ok (c.t.d.fact 86 (f := .exm "NothingToUndo" "InvalidNumber" false) rfl)
  e_NothingToUndo_KeyError := of_decide_eq_true (ex_at c.more 11 (b := bx11) rfl)
  e_KeyError_NothingToUndo := of_decide_eq_true (ex_at c.more 12 (b := bx12) rfl)
  e_NothingToRedo_NothingToUndo := He.exm_ok (c.t.d.fact 87 (f := .exm "NothingToRedo" "NothingToUndo" false) rfl)
  e_NothingToRedo_NothingToRedo := He.exm_ok (c.t.d.fact 88 (f := .exm "NothingToRedo" "NothingToRedo" true) rfl)
  e_NothingToRedo_UnknownName := He.exm_ok (c.t.d.fact 89 (f := .exm "NothingToRedo" "UnknownName" false) rfl)
  e_NothingToRedo_InvalidNumber := He.exm_ok (c.t.d.fact 90 (f := .exm "NothingToRedo" "InvalidNumber" false) rfl)
  e_NothingToRedo_KeyError := of_decide_eq_true (ex_at c.more 13 (b := bx13) rfl)
  e_KeyError_NothingToRedo := of_decide_eq_true (ex_at c.more 14 (b := bx14) rfl)
  e_UnknownName_NothingToUndo := He.exm_ok (c.t.d.fact 91 (f := .exm "UnknownName" "NothingToUndo" false) rfl)
  e_UnknownName_NothingToRedo := He.exm_ok (c.t.d.fact 92 (f := .exm "UnknownName" "NothingToRedo" false) rfl)
  e_UnknownName_UnknownName := He.exm_ok (c.t.d.fact 93 (f := .exm "UnknownName" "UnknownName" true) rfl)
  e_UnknownName_InvalidNumber := He.exm_ok (c.t.d.fact 94 (f := .exm "UnknownName" "InvalidNumber" false) rfl)
  e_UnknownName_KeyError := of_decide_eq_true (ex_at c.more 15 (b := bx15) rfl)
  e_KeyError_UnknownName := of_decide_eq_true (ex_at c.more 16 (b := bx16) rfl)
  e_InvalidNumber_NothingToUndo := He.exm_ok (c.t.d.fact 95 (f := .exm "InvalidNumber" "NothingToUndo" false) rfl)
  e_InvalidNumber_NothingToRedo := He.exm_ok (c.t.d.fact 96 (f := .exm "InvalidNumber" "NothingToRedo" false) rfl)
  e_InvalidNumber_UnknownName := He.exm_ok (c.t.d.fact 97 (f := .exm "InvalidNumber" "UnknownName" false) rfl)
  e_InvalidNumber_InvalidNumber := He.exm_ok (c.t.d.fact 98 (f := .exm "InvalidNumber" "InvalidNumber" true) rfl)
  e_InvalidNumber_KeyError := of_decide_eq_true (ex_at c.more 17 (b := bx17) rfl)
  e_KeyError_InvalidNumber := of_decide_eq_true (ex_at c.more 18 (b := bx18) rfl)
  rd_RowError := ex_at c.more 19 (b := bx19) rfl
  ga_RowError := He.eqO_ok (ex_at c.more 20 (b := bx20) rfl)
  vi_RowError := viB_ok (ex_at c.more 21 (b := bx21) rfl)
end Mr

set_option Elab.async false
set_option linter.all false
set_option maxRecDepth 100000
set_option maxHeartbeats 0
namespace Mr
open PySem PySem.Spec PyProof.Rows L2 Ru Tx
abbrev R : PySem.W.OpenRow := PySem.W.OpenLaw.row PySem.Challenge.rw_maprows_k58_whole_trials_of_streams
def names1 : List PySem.Str := ["_wall", "RowError", "InvalidPrime", "InvalidSize", "InvalidMatrix", "InvalidPattern", "InvalidPlace", "InvalidSizes", "InvalidMaps", "InvalidNumber", "InvalidArrow", "TooLarge", "UnlikeRows", "UnknownName", "NothingToUndo", "NothingToRedo", "PRIMES", "is_integer", "is_prime", "need_prime", "is_vector", "is_matrix", "reduced", "reduced_rows"]
def names2 : List PySem.Str := ["MOST_ARROWS", "MOST_SIZE", "OTHER", "is_pattern", "need_pattern", "shape_of", "Row", "need_arrow", "need_place_size", "grown", "Trial", "Stream", "_law_cell", "_law_box", "_law_take", "_law_prime", "_law_matrix", "_law_shown", "_law_cut", "_law_longer", "_law_step", "_law_stands", "_law_within", "_law_tried"]
def names : List PySem.Str := names1 ++ names2
abbrev hk : PySem.W.Hook := hookP 5 fa fn ts tf ex ps
def ob (s : PySem.W.SharedT) : AlP := obsP 5 fa fn ts tf ex ps (HandSHeadRun.getT s)
theorem ob_eq (s : PySem.W.SharedT) : ob s = hk.obs s.abs := obsP_eq (HandSHeadRun.getT_eq s)
end Mr

set_option Elab.async false
set_option linter.all false
set_option maxRecDepth 100000
set_option maxHeartbeats 0
namespace Mr
open PySem PySem.Spec PyProof.Rows L2 Ru Tx
theorem run_false (w : World) : HandSHeadRun.RunEq R (PySem.W.view R.prog [54]) hk ob 7000 names (w.withFollow "special-get-raises" false) := by
  intro os
  kernel_rfl
end Mr

set_option Elab.async false
set_option linter.all false
set_option maxRecDepth 100000
set_option maxHeartbeats 0
namespace Mr
open PySem PySem.Spec PyProof.Rows L2 Ru Tx
theorem run_true (w : World) : HandSHeadRun.RunEq R (PySem.W.view R.prog [54]) hk ob 7000 names (w.withFollow "special-get-raises" true) := by
  intro os
  kernel_rfl
end Mr

set_option Elab.async false
set_option linter.all false
set_option maxRecDepth 100000
set_option maxHeartbeats 0
namespace Mr
open PySem PySem.Spec PyProof.Rows L2 Ru Tx
theorem run (w : World) : HandSHeadRun.RunEq R (PySem.W.view R.prog [54]) hk ob 7000 names w :=
  PySem.W.byRow2 (P := fun w => HandSHeadRun.RunEq R (PySem.W.view R.prog [54]) hk ob 7000 names w) "special-get-raises" run_false run_true w
abbrev OL : PySem.W.OpenLaw := PySem.Challenge.rw_maprows_k58_whole_trials_of_streams
theorem facts {w : World} {K : PySem.W.Frag} {h : Heap} {mg : Str → Option Value} {f : Addr} (X : K.In h) (G : h.Ns mainGlobals mg) (hfa : mg ("law" : Str) = some (.ref f)) (c : He.SaysX fa fn ts tf ex w h K) (g : SaysG ps K) :
    LamX.LawAtS OL w K (L2.CX OL.prog w) 30 63 "_law_script" mg f h := by
  have T := txt_of X G c g
  have e := hfa.symm.trans T.g_law
  cases e
  obtain ⟨fd, F⟩ := T.d_law
  have b := FunD.bindsA (ps := ["_law_script"]) F fun _ _ _ _ _ _ us hl => match us, hl with | [_], _ => rfl
  have m0 : (("_law_tried" : Str), (none : Option Str)) ∈ tf := List.mem_singleton.2 rfl
  refine ⟨fd, [He.cT K ("_law_tried", none)], spLaw K, fun p hp => ?_, fun p hp => ?_, fun p hp => ?_, fun s v => b s [v] rfl, fun H a ns hl _ hT hS => ⟨a, ns, rfl, hS, hl, hT _ (List.mem_singleton.2 rfl), fun _ => rfl⟩, fun base KB NB TB => ok_law T (TB _ (List.mem_singleton.2 rfl)) F⟩
  · rw [List.mem_singleton.1 hp]; exact c.empty _ m0
  · rw [List.mem_singleton.1 hp]; exact c.out _ m0
  · rw [List.mem_singleton.1 hp]; exact PySem.W.codeHd_of_K X (c.hd _ m0)
end Mr

open PySem PySem.W PySem.Calls PyProof.Rows
theorem PySem.Challenge.cw_maprows_k58_whole_trials_of_streams_holds : PySem.Challenge.rw_maprows_k58_whole_trials_of_streams.Holds := by
  w_on; o_law
  refine HandSHeadRun.head_any (r := OpenLaw.row PySem.Challenge.rw_maprows_k58_whole_trials_of_streams) (q := view (OpenLaw.row PySem.Challenge.rw_maprows_k58_whole_trials_of_streams).prog [54]) (H := Mr.hk) (ob := Mr.ob) (M := 7000) (loose := Mr.names) (d := HandSHeadRun.topDef (OpenLaw.row PySem.Challenge.rw_maprows_k58_whole_trials_of_streams).prog 54) (kwd := []) Mr.ob_eq
    (by kernel_rfl) (fun s => by kernel_rfl) Mr.run (by kernel_rfl) (by kernel_rfl) (by kernel_rfl) (by rfl) (by first | assumption | decide +kernel) (by decide +kernel) ⟨rfl, rfl, rfl, rfl, rfl, by decide +kernel⟩ ?hw ?hc
  case hw => w_witness2
  case hc =>
    refine LamX.walk_ofTsE (l := PySem.Challenge.rw_maprows_k58_whole_trials_of_streams) (n := 63) (k := 30) (x := "_law_script") (CX := fun w => L2.CX Mr.OL.prog w) rfl (by decide) (by kernel_rfl) ⟨rfl, by decide, by decide⟩ ?F ?hCX
    case F =>
      intro w mg fa h Y G hmg0
      obtain ⟨K, KX, c, g⟩ := Y
      have hmg : mg ("law" : PySem.Str) = some (.ref fa) := by
        have e : (HandSHeadRun.topDef (OpenLaw.row PySem.Challenge.rw_maprows_k58_whole_trials_of_streams).prog 54).name = ("law" : PySem.Str) := by kernel_rfl
        rw [← e]
        exact hmg0
      exact ⟨K, KX, Mr.facts KX G hmg c g⟩
    case hCX =>
      intro w H s e s' h
      obtain ⟨_, _, _, _, _, _, _, _, _, _, _, _, z⟩ := h
      exact z.elim
