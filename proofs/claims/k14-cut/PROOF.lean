import PyProof.Rows.All
import Wide.All
import OpenK.AllK
import Wide.FinOn
import HandS.ForMost
import HandS.ForExc
import HandS.ExcInit
import HandS.ExcField
import HandS.ExcIs
import HandS.IsInst
import HandS.HotCalls
import HandS.Wide
import HandS.WideBits
import HandS.Flow
import KE.KExcIs
import KE.KCount
import KE.KBytesJoin
import HandS.WordsExc
import HandS.ExcValue
import HandS.Property
import HandS.MakeKwOnly
import HandS.Iter
import HandS.More
import HandS.Conv
import HandS.SetFor
import HandS.Style
import HandS.NoneIn
import HandS.TupMul
import HandS.TupAny
import PySem.Challenge.RW_allgivenback_k14_cut
set_option Elab.async false
set_option linter.all false
set_option maxRecDepth 100000
set_option maxHeartbeats 3000000
namespace Gv
open PySem L2 PySem.Spec PyProof.Rows
/-! ## Rules -/
/-! Own rules: a caught exception tracked in the abstract heap; defs that run while one is handled. -/
abbrev St := L2.St
/-- at a: an exception object of the class cls, its dict at d -/
def exi (a : Addr) (cls : Value) (d : Option Addr) : HO := .ext fun g => ∃ (ob : Obj) (fv : Array Value), g.get? a = some ob ∧ L2N.Zn cls d ob ∧ ob.data = .fields fv
theorem exi_ok {P : Program} {w : World} {H : Hp} {g : Heap} {a : Addr} {cls : Value} {d : Option Addr} {ob : Obj} {fv : Array Value} (e : g.get? a = some ob) (z : L2N.Zn cls d ob) (hd : ob.data = .fields fv) : ObjOk P w H g a (exi a cls d) :=
  ⟨⟨ob, fv, e, z, hd⟩, ⟨ob, e⟩, fun _ _ ⟨o, v, q, r⟩ k => ⟨o, v, k o q, r⟩⟩
theorem exi_at {P : Program} {w : World} {H : Hp} {g : Heap} {a : Addr} {cls : Value} {d : Option Addr} (ok : HOk P w H g) (he : H a = some (exi a cls d)) : ∃ (ob : Obj) (fv : Array Value), g.get? a = some ob ∧ L2N.Zn cls d ob ∧ ob.data = .fields fv :=
  (show ObjOk P w H g a (.ext fun g => ∃ (ob : Obj) (fv : Array Value), g.get? a = some ob ∧ L2N.Zn cls d ob ∧ ob.data = .fields fv) from ok a _ he).1
/-- a pinned exception that the entry did not know becomes a tracked one -/
theorem track {X : Cx} {σ : St} {H : Hp} {s : Shared} {a : Addr} {ob : Obj} {pn : List (Addr × Obj)} {cls : Value} {d : Option Addr} (okX : X.Ok) (I : Inv (X.suite a ((a, ob) :: pn)) [] σ H s) (new0 : X.s_0.heap.get? a = none) (off : ∀ p ∈ pn, p.1 ≠ a) (hz : L2N.Zn cls d ob) (hd : ∃ fv, ob.data = .fields fv) :
    Inv (X.suite a pn) [] σ (upd H a (exi a cls d)) s := by
  obtain ⟨at0, free0, nloc, _, ncell⟩ := I.pin (a, ob) (List.mem_append_left _ List.mem_cons_self)
  obtain ⟨fv, hd⟩ := hd
  have old : ∀ {b : Addr} {o : HO}, H b = some o → upd H a (exi a cls d) b = some o := fun {b o} e => by rw [upd_ne (ne_of_none e free0)]; exact e
  have non : ∀ {b : Addr}, b ≠ a → H b = none → upd H a (exi a cls d) b = none := fun {b} n e => by rw [upd_ne n]; exact e
  exact
    { ok := okX.suite _ _, os := I.os, bare := I.bare, loc := I.loc, cell := I.cell, len := I.len
      base :=
        { keep := I.base.keep, slot := I.base.slot, there := I.base.there
          free := fun b o e n hx => non (fun z => by rw [z, new0] at e; cases e) (I.base.free b o e n hx)
          tups := fun b xs e => old (I.base.tups b xs e), frzs := fun b o u e => old (I.base.frzs b o u e)
          tbls := fun b ps e => (I.base.tbls b ps e).elim fun m q => ⟨m, old q⟩ }
      free := non (Ne.symm nloc) I.free
      freeC := fun x c e => non (fun z => (I.cell x c e).elim fun v ⟨o, ho, hv⟩ => ncell v (by rw [z] at ho; have q := Option.some.inj (at0.symm.trans ho); rw [← hv, ← q])) (I.freeC x c e)
      pin := fun p hp => by
        have hp' : p ∈ pn := by simpa using hp
        obtain ⟨c1, c2, c3⟩ := I.pin p (List.mem_append_left _ (List.mem_cons_of_mem _ hp'))
        exact ⟨c1, non (off p hp') c2, c3⟩
      hok := fun b o e => by
        by_cases hb : b = a
        · rw [hb, upd_same] at e
          rw [hb, ← Option.some.inj e]
          exact exi_ok at0 hz hd
        · rw [upd_ne hb] at e
          exact (I.hok b o e).stay (fun _ _ _ q => q) (fun _ q => old q) fun _ _ q => old q }
theorem unsuite0 {X : Cx} {pins pn' : List (Addr × Obj)} {σ : St} {H : Hp} {s : Shared} {a : Addr} (I : Inv (X.suite a (X.pn ++ pins)) pn' σ H s) (okX : X.Ok) : Inv X pins σ H s :=
  { ok := okX, os := I.os, bare := I.bare, base := I.base, loc := I.loc, cell := I.cell, free := I.free, freeC := I.freeC, pin := fun p hp => I.pin p (List.mem_append_left _ hp), hok := I.hok, len := I.len }
/-- except x as n: the exception is tracked while the suite runs, and behind it -/
def wAsD (K : PySem.W.Frag) (c : Value) (i : Nat) (ts : Addr → TS) (Wout : WX) (D : Ends) : WX := fun cls d σ H => ∃ yes, PySem.W.exmOne K cls c = some yes ∧ (yes = false → Wout cls d σ H) ∧
  (yes = true → ∀ a, H a = none → ts a ⟨fun σ' H' => D.nx (σ'.set i none) H', D.rt, fun σ' H' => D.bk (σ'.set i none) H', fun σ' H' => D.ct (σ'.set i none) H'⟩ (σ.set i (some (.ref a))) (upd H a (exi a cls d)))
def wAsT (K : PySem.W.Frag) (c : Value) (i : Nat) (ts : TS) (Wout : WX) (D : Ends) : WX := wAsD K c i (fun _ => ts) Wout D
section
variable {X : Cx} {x n : Str} {c : Value} {i : Nat} {body suite : List Stmt} {b₀ : Stmt} {np pos pos' : Pos} {tb : WX → TS} {ts : Addr → TS} {Wout : WX} {pins : List (Addr × Obj)} {D : Ends}
/-- the way of an exception of the body into the clause -/
theorem caught (hs : X.stack = X.env :: X.outer) (hf : X.env.frame = some X.env.locals) (hex : X.ex = []) (hN : X.N.Nodup) (hi : X.N[i]? = some n) (hln : X.env.kindOf n = some .local) (hc : Names X x c) (tk : L2N.Takes X Wout)
    (hsu : ∀ (a : Addr) (pn : List (Addr × Obj)), PSs (X.suite a pn) (b₀ :: suite) (ts a)) (okX : X.Ok) {ev : Value} {sE : Shared} {xe : Value → Shared → Prop} (air : L2N.XE (X.tr (X.pn ++ pins) xe) (wAsD X.K c i ts Wout D) ev sE) :
    wpAny (model X.prog X.w) X.A (noteFrame ev X.env) (fun _ s2 => wpAny (model X.prog X.w) X.A (setFlight ev none) (fun _ s3 => wpAny (model X.prog X.w) X.A (handleBy ev X.env [.ExceptHandler (some (.Name x np)) (some n) (b₀ :: suite) pos']) (SP X pins D) X.xe s3) X.xe s2) X.xe sE := by
  obtain ⟨ea, gr, sG, pG, σ1, H1, cls, dd, rfl, J1, inB, lift, sky, unk, eos, ebare, yes, hyes, hout, hin⟩ := air
  have J : Inv X pins σ1 H1 sG := J1.ofTry okX
  rw [show (X.tr (X.pn ++ pins) xe).stack = X.env :: X.outer from hs] at inB sky
  have frm : X.A.frames = some (X.env :: X.outer) := hs ▸ okX.frames
  have inB' : ∀ b o, sG.heap.get? b = some o → b ∉ frs X.stack → gr.get? b = some o := by rw [hs]; exact inB
  refine L2N.Sky.land L2N.Zn.steady frm hf sky fun hA flA upA => ?_
  obtain ⟨obA, fvA, getA, zA, dA⟩ := flA.there
  have offFr : ea ∉ frs (X.env :: X.outer) := fun hm => (flA.2.2.1.mem hm).elim fun _ ⟨o', e', hn⟩ => by
    rw [getA] at e'
    cases e'
    exact hn _ dA
  have offL : ea ≠ X.env.locals := fun z => offFr (List.mem_filterMap.mpr ⟨X.env, List.mem_cons_self, z ▸ hf⟩)
  have offF : ea ∉ X.fs := fun hm => offFr ((List.mem_filterMap.mp hm).elim fun e ⟨he, q⟩ => List.mem_filterMap.mpr ⟨e, List.mem_cons_of_mem _ he, q⟩)
  have newG : sG.heap.get? ea = none := by
    cases e : sG.heap.get? ea with
    | none => rfl
    | some o => exact absurd ((inB ea o e offFr).symm.trans flA.2.1) (by simp)
  have new0 : X.s_0.heap.get? ea = none := by
    cases e : X.s_0.heap.get? ea with
    | none => rfl
    | some o => exact (J.base.there ea o e (by rw [hex]; simp)).elim fun o' q => absurd (q.symm.trans newG) (by simp)
  have off : ∀ p ∈ X.pn ++ pins, p.1 ≠ ea := fun p hp z => absurd ((J.pin p hp).1.symm.trans (z ▸ newG)) (by simp)
  have JA : Inv X pins σ1 H1 { sE with heap := hA } := J.landed inB' flA.1 (lift.trans upA) eos ebare
  have SA := JA.suite getA dA unk offL offF
  refine wpAny_handleBy_cons (codeAny_handlers_test ?_) (fun q => nomatch q)
  have clsOf : PySem.W.Looks (model X.prog X.w) hA (typeOf (.ref ea)) cls := fun _ _ _ _ k q => wpAny_typeOf_ref (k _ _ getA) (by rw [zA.1]; exact q)
  have look : ∀ {Q : Value → Shared → Prop} {E : Value → Shared → Prop}, Q c { sE with heap := hA } → wpAny (model X.prog X.w) (X.A.mark (some (.ref ea))) (eval (.Name x np) X.env) Q E { sE with heap := hA } := fun {Q E} q => by
    rcases hc with ⟨hg, hdb, hm | ⟨hm, hv, hnn⟩⟩
    · exact ld_glob (X := X.suite ea ((ea, obA) :: (X.pn ++ pins))) SA hg hm q hdb
    · exact ld_blt (X := X.suite ea ((ea, obA) :: (X.pn ++ pins))) SA hg hm hv q hnn hdb
  refine look ((PySem.W.exm_one (M := model X.prog X.w) JA.kIn clsOf hyes).here ?_)
  cases yes with
  | false =>
    refine wpAny_handleBy_nil ?_
    obtain ⟨_, _, _, ob, fv, tr, _, _, e1, _, e3, e4, _⟩ := id flA
    have up : wpAny (model X.prog X.w) X.A (setFlight (.ref ea) X.env.frame) (fun _ s4 => wpAny (model X.prog X.w) X.A (throw (.ref ea) : Sem Flow) (SP X pins D) X.xe s4) X.xe { sE with heap := hA } := by
      rw [hf]
      exact HandSPX.setFlight_upZ flA fun h4 held u4 => wpAny_throw (tk _ _ ⟨ea, gr, sG, pins, σ1, H1, cls, dd, rfl, J, inB', (lift.trans upA).trans u4, .inr (.inr (by rw [hs]; exact held)), unk, eos, ebare, hout rfl⟩)
    unfold PySem.passOn
    refine wpAny_bind (wpAny_field e1 e3 e4 ?_)
    rw [if_neg (show ¬ ((Value.ref tr == Value.none) = true) by simp)]
    first
      | exact wpAny_bind up
      | exact wpAny_bind (wpAny_pure (wpAny_bind up))
  | true =>
    refine codeAny_handlers_suite_as (HandSPX.lands_againZ flA fun hB flB upB => ?_)
    obtain ⟨obB, fvB, getB, zB, dB⟩ := flB.there
    have SB := (J.landed (s' := { sE with heap := hB }) inB' flB.1 ((lift.trans upA).trans upB) eos ebare).suite getB dB unk offL offF
    refine store_ok (X := X.suite ea ((ea, obB) :: (X.pn ++ pins))) (v := .ref ea) SB hN hi (.inl hln) rfl (fun s5 S5 => ?_) (.inr hln)
    refine wpAny_mono ((hsu ea (X.pn ++ pins)).run [] s5 _ _ _ (track okX S5 new0 off zB ⟨_, dB⟩) (hin rfl ea unk)) (fun fl s6 r6 => ?_) (fun _ _ z => z.elim)
    have shut : ∀ {σ6 : St} {H6 : Hp} {R : Shared → Prop}, Inv (X.suite ea (X.pn ++ pins)) [] σ6 H6 s6 → (∀ s7, Inv X pins (σ6.set i none) H6 s7 → R s7) →
        wpAny (model X.prog X.w) X.A (do bindName X.env n .none; unbindBehindTheSuite X.env n pos') (fun _ s7 => R s7) X.xe s6 := fun S6 hR => gone_ok (unsuite0 S6 okX) hN hi hln hR
    cases fl with
    | ret u => exact r6.elim fun v ⟨_, _, S6, rv, q⟩ => shut S6 fun _ J7 => ⟨v, _, _, J7, rv, q⟩
    | _ => exact r6.elim fun _ ⟨_, S6, q⟩ => shut S6 fun _ J7 => ⟨_, _, J7, q⟩
theorem ps_try_asD (hs : X.stack = X.env :: X.outer) (hf : X.env.frame = some X.env.locals) (hex : X.ex = []) (hN : X.N.Nodup) (hi : X.N[i]? = some n) (hln : X.env.kindOf n = some .local) (hc : Names X x c) (tk : L2N.Takes X Wout)
    (bod : ∀ (W : WX) (pn : List (Addr × Obj)) (xe : Value → Shared → Prop), L2N.Takes (X.tr pn xe) W → PassesOwn (model X.prog X.w) X.A X.env xe → PSs (X.tr pn xe) body (tb W))
    (hsu : ∀ (a : Addr) (pn : List (Addr × Obj)), PSs (X.suite a pn) (b₀ :: suite) (ts a)) :
    PS X (.Try body [.ExceptHandler (some (.Name x np)) (some n) (b₀ :: suite) pos'] [] [] pos) (fun D σ H => tb (wAsD X.K c i ts Wout D) D σ H) := by
  constructor
  intro pins s σ H D I h
  have okX := I.ok
  refine wpAny_Try_except (wpAny_mono ((bod (wAsD X.K c i ts Wout D) (X.pn ++ pins) _ (fun u s' z => caught hs hf hex hN hi hln hc tk hsu okX z) PassesOwn.looking).run [] s σ H D (I.toTry _) h) (fun fl s1 r => ?_) (fun _ _ z => z))
  cases fl with
  | next => exact r.elim fun _ ⟨_, J, q⟩ => wpAny_execs_nil ⟨_, _, J.ofTry okX, q⟩
  | ret u => exact r.elim fun v ⟨_, _, J, rv, q⟩ => ⟨v, _, _, J.ofTry okX, rv, q⟩
  | _ => exact r.elim fun _ ⟨_, J, q⟩ => ⟨_, _, J.ofTry okX, q⟩
theorem ps_try_asT {ts : TS} (hs : X.stack = X.env :: X.outer) (hf : X.env.frame = some X.env.locals) (hex : X.ex = []) (hN : X.N.Nodup) (hi : X.N[i]? = some n) (hln : X.env.kindOf n = some .local) (hc : Names X x c) (tk : L2N.Takes X Wout)
    (bod : ∀ (W : WX) (pn : List (Addr × Obj)) (xe : Value → Shared → Prop), L2N.Takes (X.tr pn xe) W → PassesOwn (model X.prog X.w) X.A X.env xe → PSs (X.tr pn xe) body (tb W))
    (hsu : ∀ (a : Addr) (pn : List (Addr × Obj)), PSs (X.suite a pn) (b₀ :: suite) ts) :
    PS X (.Try body [.ExceptHandler (some (.Name x np)) (some n) (b₀ :: suite) pos'] [] [] pos) (fun D σ H => tb (wAsT X.K c i ts Wout D) D σ H) :=
  ps_try_asD hs hf hex hN hi hln hc tk bod hsu
end
/-! ### defs that may be called while an exception is handled -/
structure FnU (P : Program) (w : World) (K : PySem.W.Frag) (mg : Str → Option Value) (base : Heap) (k : Nat) (f : Addr) (fd : FuncData) (ps : List Str) (sp : Sp) : Prop where
  len : ∀ xs G R Z, sp xs G R Z → xs.length = ps.length
  run : ∀ (A : Around) (outer : List Env) (s : Shared) (H : Hp) (args : Args) (us : List Value) (vs : List V) (Q : VK) (E : XK), L2H.RoomH k A → Env0 P w K mg base A outer s H → BindsTo s fd args (ps.zip us) → Vals vs us → sp vs H Q E → codeAny (model P w) A (.call (.ref f) args) (CR CX0 outer P w H s Q E) s
def cxU (P : Program) (w : World) (K : PySem.W.Frag) (mg : Str → Option Value) (base : Heap) (N : List Str) (qual : Str) (scope : Scope) (f : Addr) (cd : Value) (A : Around) (outer : List Env) (s : Shared) (H : Hp) (E : XK) : Cx :=
  { cxOf CX0 P w K mg base N qual scope f cd A outer s H E with calm := false }
/-- the entry, from the quiet one: nothing but the calm speaks of what is handled -/
theorem inv_startU {P : Program} {w : World} {K : PySem.W.Frag} {mg : Str → Option Value} {base : Heap} {N ps : List Str} {qual : Str} {scope : Scope} {f : Addr} {cd : Value} {A : Around} {outer : List Env} {s s1 : Shared} {H : Hp} {E : XK} {us : List Value} {vs : List V}
    (S : FnScope N ps scope) (e0 : Env0 P w K mg base A outer s H) (hl : vs.length = ps.length) (r : Vals vs us)
    (ic : InCallC s s.heap.objs.size (bindL (envOfC qual scope s.heap.objs.size f cd).kindOf (ps.zip us) fun _ => none) (cellsFrom (s.heap.objs.size + 1) scope.names []) (bindC (envOfC qual scope s.heap.objs.size f cd).kindOf (ps.zip us) fun _ => none) s1) :
    Inv (cxU P w K mg base N qual scope f cd A outer s H E) [] (L2.start N vs) H s1 := by
  have e1 : Env0 P w K mg base { A with handled := none } outer s H := ⟨e0.frames, e0.mod, e0.bs, e0.bsz, e0.funs, e0.frf, e0.hok, e0.bare⟩
  have I := inv_start (CX := CX0) (E := E) (cd := cd) (f := f) (qual := qual) S (A := { A with handled := none }) rfl e1 hl r ic
  have o := I.ok
  exact
    { ok := { mod := o.mod, kind := o.kind, glob := o.glob, blt := o.blt, above := o.above, inj := o.inj, has := o.has, cab := o.cab, hd := fun z => Bool.noConfusion (show false = true from z), frames := Around.frames_deeper e0.frames, stk := o.stk, exf := o.exf, bs := o.bs, bsz := o.bsz, noex := o.noex, exfs := o.exfs, funs := o.funs, frf := o.frf }
      os := I.os, bare := I.bare, base := I.base, loc := I.loc, cell := I.cell, free := I.free, freeC := I.freeC, pin := I.pin, hok := I.hok, len := I.len }
theorem Fun_okU {P : Program} {w : World} {K : PySem.W.Frag} {mg : Str → Option Value} {base : Heap} {x qual : Str} {st : Stmt} {f : Addr} {fd : FuncData} {N ps : List Str} {k : Nat} {sp : Sp} (F : Fun K x qual st f fd) (S : FnScope N ps (defScope st)) (len : ∀ vs H Q E, sp vs H Q E → vs.length = ps.length)
    (bod : ∀ (cdv : Value) (A : Around) (outer : List Env) (s : Shared) (H : Hp) (vs : List V) (Q : VK) (E : XK), L2H.RoomH k (A.deeper (envOfC qual (defScope st) s.heap.objs.size f cdv)) → sp vs H Q E →
      ∃ t, PSs (cxU P w K mg base N qual (defScope st) f cdv A outer s H E).nox (defBody st) t ∧ t { nx := fun _ H' => Q .non H', rt := Q } (L2.start N vs) H) : FnU P w K mg base (k + 1) f fd ps sp := by
  rcases F.ex with ⟨oc, od, kV, doc, pm, an, cdv, ct, osl, rfl, lk, code⟩
  refine ⟨len, fun A outer s H args us vs Q E room env bind rel pre => ?_⟩
  have up : ∀ b o, base.get? b = some o → s.heap.get? b = some o := fun b o e => (env.bs b o e).1
  have KX : K.In s.heap := env.mod.kin.keeps up
  have kinds : ∀ y ∈ ps.zip us, (defScope st).names.lookup y.1 = some .local ∨ ((defScope st).names.lookup y.1 = some .cell ∧ ((cellsFrom (s.heap.objs.size + 1) (defScope st).names []).lookup y.1).isSome = true) := fun y hy =>
    (S.par y.1 (List.of_mem_zip (a := y.1) (b := y.2) hy).1).imp id fun q => ⟨q, PySem.W.cellsFrom_some _ _ _ (.inl q)⟩
  refine codeAny_call_function room.depth (KX _ _ lk) rfl S.co S.gen rfl (PySem.W.codeRec_of KX code) (bind _ _ _ _ (wpAny_newFunctionEnv_cells S.kind kinds fun ev hev s1 ic => ?_))
  subst hev
  refine ⟨(env.mod.nolimit.keeps up).keeps ic.toInCall.keep, codeAny_func ?_⟩
  obtain ⟨t, ht, rd⟩ := bod cdv A outer s H vs Q E (room.deeper _) pre
  refine wpAny_mono (ht.nox.run [] s1 (L2.start N vs) H _ (inv_startU S env (len _ _ _ _ pre) rel ic) rd) (fun fl s' z => ?_) fun _ _ z => z
  cases fl with
  | ret u => exact z.elim fun v ⟨_, H', J, rv, q⟩ => ⟨v, H', J.os, J.bare, J.base, J.hok, rv, q⟩
  | next => exact z.elim fun _ ⟨H', J, q⟩ => ⟨V.non, H', J.os, J.bare, J.base, J.hok, rfl, q⟩
  | _ => exact z.elim fun _ ⟨_, _, q⟩ => q.elim
theorem pe_callU {X : Cx} {k : Nat} {f : Addr} {fd : FuncData} {ps : List Str} {sp : Sp} {x : Str} {q pos : Pos} {e : Expr} {es : List Expr} {t : TA} (F : FnU X.prog X.w X.K X.mg X.base k f fd ps sp) (room : L2H.RoomH k X.A) (hg : Gl X x) (hm : X.mg x = some (.ref f)) (hk : PySem.W.keepIn X.K (.ref f) = true) (hb : Binds X.K fd ps [])
    (ha : PA X (e :: es) t) (hdb : (x == ("__debug__" : Str)) = false := by decide) (he : starEach (e :: es) X.env = (false, eval e X.env) :: starEach es X.env := by rfl) (hpl : (backTo pos (starEach es X.env)).any (·.1) = false := by rfl) : PE X (.Call (.Name x q) (e :: es) [] pos) (tCall sp [] E0 t) := by
  constructor
  intro pins s σ H Q I h
  refine wpAny_Call_Name_kw (ld_glob I hg hm (PySem.W.callWith_K (h₀ := X.base) I.ok.mod.kin hk (thn (ha.run pos pins s σ H _ I h) fun us s1 ⟨vs, H1, J, rel, pre⟩ => ⟨J.kIn, ?_⟩) he hpl) hdb)
  have pre : sp vs H1 Q E0 := by
    have z : sp (vs ++ []) H1 Q E0 := pre
    rwa [List.append_nil] at z
  have bind : BindsTo s1 fd ⟨us, []⟩ (ps.zip us) := by
    have z := hb s1 us J.kIn (by rw [List.append_nil, ← rel.length]; exact F.len _ _ _ _ pre)
    rwa [List.append_nil] at z
  refine wpAny_call (codeAny_mono (F.run X.A X.stack s1 H1 ⟨us, []⟩ us vs Q E0 room J.env0 bind rel pre) fun res s' z => ?_)
  rcases res with er | fl
  · exact False.elim z
  · cases fl with
    | ret u => exact J.after z
    | _ => exact False.elim z
theorem roomH_suite {k : Nat} {A : Around} {v : Option Value} (r : Room k A) : L2H.RoomH k (A.mark v) := ⟨r.dp, r.un⟩
/-! ### a tracked exception: its fields, isinstance of it -/
def tXt (K : PySem.W.Frag) (f : Str) (te : TE) : TE := fun σ H Q => te σ H fun x H1 => ∃ (a C dd : Addr) (fs : List (Str × V)) (v : V), x = .ref a ∧ H1 a = some (exi a (.ref C) (some dd)) ∧ XfC K C ∧ PySem.W.findIn K (.ref C) f = some none ∧ H1 dd = some (.xd fs) ∧ fs.lookup f = some v ∧ Q v H1
theorem inst_of {P : Program} {w : World} {H : Hp} {g : Heap} {a C dd : Addr} {fs : List (Str × V)} (ok : HOk P w H g) (ha : H a = some (exi a (.ref C) (some dd))) (hd : H dd = some (.xd fs)) :
    ∃ ob od, PySem.W.InstAt g a ob C (some od) ∧ ∃ mA : Str → Option Value, (∀ n, PySem.W.lookIn n od = some (mA n)) ∧ ∀ f, RelO (fs.lookup f) (mA f) := by
  obtain ⟨ob, fv, h1, hz, h2⟩ := exi_at ok ha
  obtain ⟨mA, hns, rel⟩ := (show ObjOk P w H g dd (.xd fs) from ok dd _ hd)
  obtain ⟨od, h3, h4⟩ := lookIn_ns hns
  exact ⟨ob, od, { at_ := h1, cls := hz.1, no := by unfold PySem.W.notCls; rw [h2] <;> rfl, dict := by rw [hz.2.1]; exact h3 }, mA, h4, rel⟩
theorem pe_xt {X : Cx} {e : Expr} {te : TE} {pos : Pos} {n : Str} (he : PE X e te) (hb : attributeBase e n X.env (eval e X.env) = eval e X.env := by rfl) : PE X (.Attribute e n pos) (tXt X.K n te) := by
  constructor
  intro pins s σ H Q I h
  refine attr_of hb (thn (he.run pins s σ H _ I h) fun u s1 ⟨y, H1, J, ry, a, C, dd, fs, v, ey, ea, T, hno, ed, l, q⟩ => ?_)
  subst ey
  obtain rfl : u = .ref a := ry
  obtain ⟨ob, od, at1, mA, h4, rel⟩ := inst_of J.hok ea ed
  obtain ⟨u, hu, ru⟩ := RelO.some_of (v := v) (o := mA n) (by rw [← l]; exact rel n)
  exact HandSPX.exc_get J.kIn at1 T.ga T.gg T.exC (PySem.W.findObj_own T.hdC hno rfl (by rw [h4, hu])) (handed_of ru) ⟨v, H1, J.tok _, ru, q⟩
/-- isinstance(e, c), e a tracked exception -/
def rIsX (K : PySem.W.Frag) : List V → Hp → VK → Prop := fun xs H Q => ∃ (a D dd : Addr) (fs : List (Str × V)) (c : V) (cv : Value) (b : Bool), xs = [.ref a, c] ∧ ClsV c cv ∧ H a = some (exi a (.ref D) (some dd)) ∧ H dd = some (.xd fs) ∧ ExcC K D ∧ PySem.W.kitOne K (.ref D) cv = some b ∧ Q (.bl b) H
theorem call_isX {X : Cx} : CallR X (.builtin "isinstance") (rIsX X.K) := by
  rintro pins s σ H xs us Q I r ⟨a, D, dd, fs, c, cv, b, rfl, k, ea, ed, C, e, q⟩
  obtain ⟨ue, uc, rfl, re, rc⟩ := vals2 r
  obtain rfl : ue = .ref a := re
  rw [k.eq rc]
  obtain ⟨ob, od, at1, _⟩ := inst_of I.hok ea ed
  have there : (PySem.W.clsIn X.K D).isSome = true := (PySem.W.any_some C.hd).elim fun cd ⟨hc, _⟩ => by rw [hc]; rfl
  exact PySem.W.kia_one (PySem.W.kitx_exc there C.hg C.hk C.hs C.ha C.hn C.ht C.hm) I.kIn at1 e (fun z => nomatch z) fun tk => ⟨.bl b, H, I.tok tk, rfl, q⟩
/-! ## Pre -/
/-! Names of readings, steps through a reading, data in the heap, the draws. -/
/-! ### the operators' readings, by names -/
def oAdd : R2 := rI0 fun i j => .int (i + j)
def oSub : R2 := rI0 fun i j => .int (i - j)
def oMul : R2 := rI CMul fun i j => .int (i * j)
def oMulW : R2 := rI CMulW fun i j => .int (i * j)
def oDiv : R2 := rI CDivW fun i j => .int (i / j)
def oMod : R2 := rI (fun _ j => 0 < j) fun i j => .int (i % j)
def oPow : R2 := rI CPow fun i j => .int (i ^ j.toNat)
def oShl : R2 := rI CPow fun i j => .int (i * 2 ^ j.toNat)
def oShr : R2 := rI (fun _ j => 0 ≤ j) fun i j => .int (i / 2 ^ j.toNat)
def oAnd : R2 := rI0 fun i j => .int (Builtin.bitAnd i j)
def oOr : R2 := rI0 fun i j => .int (Builtin.bitOr i j)
def oNeg : V → Hp → VK → Prop := rU fun i => .int (-i)
def oLt : R2 := rI0 fun i j => .bl (decide (i < j))
def oLe : R2 := rI0 fun i j => .bl (decide (i ≤ j))
def oGt : R2 := rI0 fun i j => .bl (decide (j < i))
def oGe : R2 := rI0 fun i j => .bl (decide (j ≤ i))
def oIsN : R2 := fun x y H Q => y = .non ∧ Q (.bl (decide (x = .non))) H
def oNotN : R2 := fun x y H Q => y = .non ∧ Q (.bl (!decide (x = .non))) H
def oAddS : R2 := fun x y H Q => ∃ i j, x = .str i ∧ y = .str j ∧ i.length + j.length ≤ sizeLine ∧ Q (.str (i ++ j)) H
def rLen (K : PySem.W.Frag) : List V → Hp → VK → Prop := fun vs G R => ∃ x n, vs = [x] ∧ LenV K x G n ∧ R (.int n) G
def rLenStr : List V → Hp → VK → Prop := fun xs H Q => ∃ z, xs = [.str z] ∧ z.length ≤ sizeLine ∧ Q (.int z.length) H
def rMax2 : List V → Hp → VK → Prop := fun vs G R => ∃ i j, vs = [.int i, .int j] ∧ R (.int (if j > i then j else i)) G
def rMin2 : List V → Hp → VK → Prop := fun vs G R => ∃ i j, vs = [.int i, .int j] ∧ R (.int (if j < i then j else i)) G
def rInt1 : List V → Hp → VK → Prop := fun xs H Q => (∃ i, xs = [.int i] ∧ Q (.int i) H) ∨ ∃ k, xs = [.bl k] ∧ Q (.int (if k then 1 else 0)) H
def rListOf (K : PySem.W.Frag) : List V → Hp → VK → Prop := fun xs H Q => ∃ p ys, xs = [.ref p] ∧ (SqL K H p ys ∨ SqT K H p ys) ∧ ∀ l, H l = none → Q (.ref l) (upd H l (.lst ys))
def rTupleOf (K : PySem.W.Frag) : List V → Hp → VK → Prop := fun xs H Q => ∃ p ys, xs = [.ref p] ∧ ((SqL K H p ys ∧ ∀ l, H l = none → Q (.ref l) (upd H l (.tup ys))) ∨ (SqT K H p ys ∧ Q (.ref p) H))
def tTruth (K : PySem.W.Frag) (te : TE) : TT := fun σ H Q => te σ H fun x H' => ∃ k, TruV K x H' k ∧ Q k H'
/-- raise C(e, ..) -/
def tRz (t : St → Hp → XK → Prop) (W : WX) : TS := fun _ σ H => t σ H fun cls d H' => W cls d σ H'
/-- try: .. except C as n: .. -/
def tTryT (K : PySem.W.Frag) (c : Value) (i : Nat) (tb : WX → TS) (ts : TS) (Wout : WX) : TS := fun D σ H => tb (wAsT K c i ts Wout D) D σ H
/-! ### steps: from a reading to what it asks -/
class Stp (P : Prop) (R : outParam Prop) : Prop where
  go : R → P
section
variable {K : PySem.W.Frag} {σ : St} {H : Hp} {Q : VK} {QT : Bool → Hp → Prop} {QA : List V → Hp → Prop} {D : Ends} {v x y : V} {ta tb te : TE} {tt tu : TT} {ts tw : TS} {r : R2} {i j : Int} {n : Nat} {b c : Bool} {nx bk ct : St → Hp → Prop} {rt : VK}
theorem i_seqA {g : TG} (h : te σ H fun x H1 => g x σ H1 (tw D)) : tSeq (tAsg te g) tw D σ H := h
instance s_seqA {g : TG} : Stp (tSeq (tAsg te g) tw D σ H) (te σ H fun x H1 => g x σ H1 (tw D)) := ⟨i_seqA⟩
theorem i_seqD (h : te σ H fun _ H1 => tw D σ H1) : tSeq (tDrop te) tw D σ H := h
instance s_seqD : Stp (tSeq (tDrop te) tw D σ H) (te σ H fun _ H1 => tw D σ H1) := ⟨i_seqD⟩
theorem i_seqG {ti : TIp} (hx : σ[n]? = some (some x)) (h : te σ H fun y H1 => ti x y H1 fun z H2 => tw D (σ.set n (some z)) H2) : tSeq (tAug n te ti) tw D σ H := ⟨x, hx, h⟩
theorem i_seq (h : ts ⟨tw ⟨nx, rt, bk, ct⟩, rt, bk, ct⟩ σ H) : tSeq ts tw ⟨nx, rt, bk, ct⟩ σ H := h
theorem i_var (h : σ[n]? = some (some v)) (q : Q v H) : tVar n σ H Q := ⟨v, h, q⟩
theorem i_c (q : Q v H) : tC v σ H Q := q
instance s_c : Stp (tC v σ H Q) (Q v H) := ⟨i_c⟩
theorem i_op (h : ta σ H fun x H1 => tb σ H1 fun y H2 => r x y H2 Q) : tOp r ta tb σ H Q := h
instance s_op : Stp (tOp r ta tb σ H Q) (ta σ H fun x H1 => tb σ H1 fun y H2 => r x y H2 Q) := ⟨i_op⟩
theorem i_un {r : V → Hp → VK → Prop} (h : ta σ H fun x H1 => r x H1 Q) : tUn r ta σ H Q := h
instance s_un {r : V → Hp → VK → Prop} : Stp (tUn r ta σ H Q) (ta σ H fun x H1 => r x H1 Q) := ⟨i_un⟩
theorem i_nil (h : QA [] H) : tNil σ H QA := h
instance s_nil : Stp (tNil σ H QA) (QA [] H) := ⟨i_nil⟩
theorem i_cons {tr : TA} (h : ta σ H fun x H1 => tr σ H1 fun xs H2 => QA (x :: xs) H2) : tCons ta tr σ H QA := h
instance s_cons {tr : TA} : Stp (tCons ta tr σ H QA) (ta σ H fun x H1 => tr σ H1 fun xs H2 => QA (x :: xs) H2) := ⟨i_cons⟩
theorem i_tup {t : TA} (h : t σ H fun xs H1 => xs.length ≤ sizeLine ∧ ∀ p, H1 p = none → Q (.ref p) (upd H1 p (.tup xs))) : tTup t σ H Q := h
instance s_tup {t : TA} : Stp (tTup t σ H Q) (t σ H fun xs H1 => xs.length ≤ sizeLine ∧ ∀ p, H1 p = none → Q (.ref p) (upd H1 p (.tup xs))) := ⟨i_tup⟩
theorem i_lst {t : TA} (h : t σ H fun xs H1 => xs.length ≤ sizeLine ∧ ∀ p, H1 p = none → Q (.ref p) (upd H1 p (.lst xs))) : tLst t σ H Q := h
instance s_lst {t : TA} : Stp (tLst t σ H Q) (t σ H fun xs H1 => xs.length ≤ sizeLine ∧ ∀ p, H1 p = none → Q (.ref p) (upd H1 p (.lst xs))) := ⟨i_lst⟩
theorem i_call {sp : Sp} {dvs : List V} {E : XK} {t : TA} (h : t σ H fun vs H1 => sp (vs ++ dvs) H1 Q E) : tCall sp dvs E t σ H Q := h
instance s_call {sp : Sp} {dvs : List V} {E : XK} {t : TA} : Stp (tCall sp dvs E t σ H Q) (t σ H fun vs H1 => sp (vs ++ dvs) H1 Q E) := ⟨i_call⟩
theorem i_cb {r : List V → Hp → VK → Prop} {t : TA} (h : t σ H fun vs H1 => r vs H1 Q) : tCB r t σ H Q := h
instance s_cb {r : List V → Hp → VK → Prop} {t : TA} : Stp (tCB r t σ H Q) (t σ H fun vs H1 => r vs H1 Q) := ⟨i_cb⟩
theorem i_test (h : te σ H fun x H' => ∃ k, x = .bl k ∧ QT k H') : tTest te σ H QT := h
instance s_test : Stp (tTest te σ H QT) (te σ H fun x H' => ∃ k, x = .bl k ∧ QT k H') := ⟨i_test⟩
theorem i_B (h : te σ H fun x H' => ∃ k, x = .bl k ∧ QT k H') : tB te σ H QT := h
instance s_B : Stp (tB te σ H QT) (te σ H fun x H' => ∃ k, x = .bl k ∧ QT k H') := ⟨i_B⟩
theorem i_bl (q : QT b H) : ∃ k, V.bl b = .bl k ∧ QT k H := ⟨b, rfl, q⟩
theorem i_blV {P : Bool → Prop} (q : P b) : ∃ k, V.bl b = .bl k ∧ P k := ⟨b, rfl, q⟩
theorem i_and (h : tt σ H fun c H1 => if c = true then tu σ H1 QT else QT false H1) : tAnd tt tu σ H QT := h
instance s_and : Stp (tAnd tt tu σ H QT) (tt σ H fun c H1 => if c = true then tu σ H1 QT else QT false H1) := ⟨i_and⟩
theorem i_or (h : tt σ H fun c H1 => if c = true then QT true H1 else tu σ H1 QT) : tOr tt tu σ H QT := h
instance s_or : Stp (tOr tt tu σ H QT) (tt σ H fun c H1 => if c = true then QT true H1 else tu σ H1 QT) := ⟨i_or⟩
theorem i_not (h : tt σ H fun c H1 => QT (!c) H1) : tNot tt σ H QT := h
instance s_not : Stp (tNot tt σ H QT) (tt σ H fun c H1 => QT (!c) H1) := ⟨i_not⟩
theorem i_andV (h : ta σ H fun x H1 => ∃ c, x = .bl c ∧ if c = true then tb σ H1 Q else Q (.bl false) H1) : tAndV ta tb σ H Q := h
instance s_andV : Stp (tAndV ta tb σ H Q) (ta σ H fun x H1 => ∃ c, x = .bl c ∧ if c = true then tb σ H1 Q else Q (.bl false) H1) := ⟨i_andV⟩
theorem i_orV (h : ta σ H fun x H1 => ∃ c, x = .bl c ∧ if c = true then Q (.bl true) H1 else tb σ H1 Q) : tOrV ta tb σ H Q := h
instance s_orV : Stp (tOrV ta tb σ H Q) (ta σ H fun x H1 => ∃ c, x = .bl c ∧ if c = true then Q (.bl true) H1 else tb σ H1 Q) := ⟨i_orV⟩
theorem i_notV (h : ta σ H fun x H1 => ∃ c, x = .bl c ∧ Q (.bl (!c)) H1) : tNotV ta σ H Q := h
instance s_notV : Stp (tNotV ta σ H Q) (ta σ H fun x H1 => ∃ c, x = .bl c ∧ Q (.bl (!c)) H1) := ⟨i_notV⟩
theorem i_ife (h : tt σ H fun c H1 => if c = true then ta σ H1 Q else tb σ H1 Q) : tIf tt ta tb σ H Q := h
instance s_ife : Stp (tIf tt ta tb σ H Q) (tt σ H fun c H1 => if c = true then ta σ H1 Q else tb σ H1 Q) := ⟨i_ife⟩
theorem i_ifS (h : tt σ H fun b H1 => if b = true then ts D σ H1 else tw D σ H1) : tIfS tt ts tw D σ H := h
instance s_ifS : Stp (tIfS tt ts tw D σ H) (tt σ H fun b H1 => if b = true then ts D σ H1 else tw D σ H1) := ⟨i_ifS⟩
theorem i_next (h : nx σ H) : tNext ⟨nx, rt, bk, ct⟩ σ H := h
instance s_next : Stp (tNext ⟨nx, rt, bk, ct⟩ σ H) (nx σ H) := ⟨i_next⟩
theorem i_break (h : bk σ H) : tBreak ⟨nx, rt, bk, ct⟩ σ H := h
instance s_break : Stp (tBreak ⟨nx, rt, bk, ct⟩ σ H) (bk σ H) := ⟨i_break⟩
theorem i_cont (h : ct σ H) : tCont ⟨nx, rt, bk, ct⟩ σ H := h
instance s_cont : Stp (tCont ⟨nx, rt, bk, ct⟩ σ H) (ct σ H) := ⟨i_cont⟩
theorem i_ret (h : te σ H rt) : tRet te ⟨nx, rt, bk, ct⟩ σ H := h
instance s_ret : Stp (tRet te ⟨nx, rt, bk, ct⟩ σ H) (te σ H rt) := ⟨i_ret⟩
theorem i_retN (h : rt .non H) : tRetN ⟨nx, rt, bk, ct⟩ σ H := h
instance s_retN : Stp (tRetN ⟨nx, rt, bk, ct⟩ σ H) (rt .non H) := ⟨i_retN⟩
theorem i_drop (h : te σ H fun _ H1 => nx σ H1) : tDrop te ⟨nx, rt, bk, ct⟩ σ H := h
instance s_drop : Stp (tDrop te ⟨nx, rt, bk, ct⟩ σ H) (te σ H fun _ H1 => nx σ H1) := ⟨i_drop⟩
theorem i_asg {g : TG} (h : te σ H fun x H1 => g x σ H1 nx) : tAsg te g ⟨nx, rt, bk, ct⟩ σ H := h
instance s_asg {g : TG} : Stp (tAsg te g ⟨nx, rt, bk, ct⟩ σ H) (te σ H fun x H1 => g x σ H1 nx) := ⟨i_asg⟩
theorem i_gname {R : St → Hp → Prop} (h : R (σ.set n (some v)) H) : gName n v σ H R := h
instance s_gname {R : St → Hp → Prop} : Stp (gName n v σ H R) (R (σ.set n (some v)) H) := ⟨i_gname⟩
theorem i_aug {ti : TIp} (hx : σ[n]? = some (some x)) (h : te σ H fun y H1 => ti x y H1 fun z H2 => nx (σ.set n (some z)) H2) : tAug n te ti ⟨nx, rt, bk, ct⟩ σ H := ⟨x, hx, h⟩
theorem i_ipI {f : Int → Int → Int} (q : Q (.int (f i j)) H) : ipI f (.int i) (.int j) H Q := ⟨i, j, rfl, rfl, q⟩
instance s_ipI {f : Int → Int → Int} : Stp (ipI f (.int i) (.int j) H Q) (Q (.int (f i j)) H) := ⟨i_ipI⟩
theorem i_add (q : Q (.int (i + j)) H) : oAdd (.int i) (.int j) H Q := ⟨i, j, rfl, rfl, q⟩
instance s_add : Stp (oAdd (.int i) (.int j) H Q) (Q (.int (i + j)) H) := ⟨i_add⟩
theorem i_sub (q : Q (.int (i - j)) H) : oSub (.int i) (.int j) H Q := ⟨i, j, rfl, rfl, q⟩
instance s_sub : Stp (oSub (.int i) (.int j) H Q) (Q (.int (i - j)) H) := ⟨i_sub⟩
theorem i_mul (h : CMul i j) (q : Q (.int (i * j)) H) : oMul (.int i) (.int j) H Q := ⟨i, j, rfl, rfl, h, q⟩
theorem i_mulW (h : CMulW i j) (q : Q (.int (i * j)) H) : oMulW (.int i) (.int j) H Q := ⟨i, j, rfl, rfl, h, q⟩
theorem i_div (h : CDivW i j) (q : Q (.int (i / j)) H) : oDiv (.int i) (.int j) H Q := ⟨i, j, rfl, rfl, h, q⟩
theorem i_mod (h : 0 < j) (q : Q (.int (i % j)) H) : oMod (.int i) (.int j) H Q := ⟨i, j, rfl, rfl, h, q⟩
theorem i_pow (h : CPow i j) (q : Q (.int (i ^ j.toNat)) H) : oPow (.int i) (.int j) H Q := ⟨i, j, rfl, rfl, h, q⟩
theorem i_shl (h : CPow i j) (q : Q (.int (i * 2 ^ j.toNat)) H) : oShl (.int i) (.int j) H Q := ⟨i, j, rfl, rfl, h, q⟩
theorem i_band (q : Q (.int (Builtin.bitAnd i j)) H) : oAnd (.int i) (.int j) H Q := ⟨i, j, rfl, rfl, q⟩
instance s_band : Stp (oAnd (.int i) (.int j) H Q) (Q (.int (Builtin.bitAnd i j)) H) := ⟨i_band⟩
theorem i_neg (q : Q (.int (-i)) H) : oNeg (.int i) H Q := ⟨i, rfl, q⟩
instance s_neg : Stp (oNeg (.int i) H Q) (Q (.int (-i)) H) := ⟨i_neg⟩
theorem i_lt (q : Q (.bl (decide (i < j))) H) : oLt (.int i) (.int j) H Q := ⟨i, j, rfl, rfl, q⟩
instance s_lt : Stp (oLt (.int i) (.int j) H Q) (Q (.bl (decide (i < j))) H) := ⟨i_lt⟩
theorem i_le (q : Q (.bl (decide (i ≤ j))) H) : oLe (.int i) (.int j) H Q := ⟨i, j, rfl, rfl, q⟩
instance s_le : Stp (oLe (.int i) (.int j) H Q) (Q (.bl (decide (i ≤ j))) H) := ⟨i_le⟩
theorem i_gt (q : Q (.bl (decide (j < i))) H) : oGt (.int i) (.int j) H Q := ⟨i, j, rfl, rfl, q⟩
instance s_gt : Stp (oGt (.int i) (.int j) H Q) (Q (.bl (decide (j < i))) H) := ⟨i_gt⟩
theorem i_ge (q : Q (.bl (decide (j ≤ i))) H) : oGe (.int i) (.int j) H Q := ⟨i, j, rfl, rfl, q⟩
instance s_ge : Stp (oGe (.int i) (.int j) H Q) (Q (.bl (decide (j ≤ i))) H) := ⟨i_ge⟩
theorem dec_eqI : decide (V.int i = V.int j) = decide (i = j) := by
  by_cases h : i = j
  · subst h; simp
  · rw [decide_eq_false h, decide_eq_false (fun z => h (V.int.inj z))]
theorem dec_eqS {a b : Str} : decide (V.str a = V.str b) = decide (a = b) := by
  by_cases h : a = b
  · subst h; simp
  · rw [decide_eq_false h, decide_eq_false (fun z => h (V.str.inj z))]
theorem i_eq (q : Q (.bl (decide (i = j))) H) : rEq (.int i) (.int j) H Q := ⟨rfl, by rw [dec_eqI]; exact q⟩
instance s_eq : Stp (rEq (.int i) (.int j) H Q) (Q (.bl (decide (i = j))) H) := ⟨i_eq⟩
theorem i_ne (q : Q (.bl (!decide (i = j))) H) : rNe (.int i) (.int j) H Q := ⟨rfl, by rw [dec_eqI]; exact q⟩
instance s_ne : Stp (rNe (.int i) (.int j) H Q) (Q (.bl (!decide (i = j))) H) := ⟨i_ne⟩
theorem i_eqS {a b : Str} (q : Q (.bl (decide (a = b))) H) : rEq (.str a) (.str b) H Q := ⟨rfl, by rw [dec_eqS]; exact q⟩
instance s_eqS {a b : Str} : Stp (rEq (.str a) (.str b) H Q) (Q (.bl (decide (a = b))) H) := ⟨i_eqS⟩
theorem i_neS {a b : Str} (q : Q (.bl (!decide (a = b))) H) : rNe (.str a) (.str b) H Q := ⟨rfl, by rw [dec_eqS]; exact q⟩
instance s_neS {a b : Str} : Stp (rNe (.str a) (.str b) H Q) (Q (.bl (!decide (a = b))) H) := ⟨i_neS⟩
theorem i_isN (q : Q (.bl (decide (x = .non))) H) : oIsN x .non H Q := ⟨rfl, q⟩
instance s_isN : Stp (oIsN x .non H Q) (Q (.bl (decide (x = .non))) H) := ⟨i_isN⟩
theorem i_notN (q : Q (.bl (!decide (x = .non))) H) : oNotN x .non H Q := ⟨rfl, q⟩
instance s_notN : Stp (oNotN x .non H Q) (Q (.bl (!decide (x = .non))) H) := ⟨i_notN⟩
theorem i_max (q : Q (.int (if j > i then j else i)) H) : rMax2 [.int i, .int j] H Q := ⟨i, j, rfl, q⟩
instance s_max : Stp (rMax2 [.int i, .int j] H Q) (Q (.int (if j > i then j else i)) H) := ⟨i_max⟩
theorem i_min (q : Q (.int (if j < i then j else i)) H) : rMin2 [.int i, .int j] H Q := ⟨i, j, rfl, q⟩
instance s_min : Stp (rMin2 [.int i, .int j] H Q) (Q (.int (if j < i then j else i)) H) := ⟨i_min⟩
theorem i_int1 (q : Q (.int i) H) : rInt1 [.int i] H Q := .inl ⟨i, rfl, q⟩
instance s_int1 : Stp (rInt1 [.int i] H Q) (Q (.int i) H) := ⟨i_int1⟩
theorem i_chain {r r' : R2} {tc : TE} (h : ta σ H fun x H1 => tb σ H1 fun y H2 => r x y H2 fun z H3 => ∃ k, z = .bl k ∧ if k = true then tc σ H3 fun w H4 => r' y w H4 Q else Q (.bl false) H3) : tChain r r' ta tb tc σ H Q := h
instance s_chain {r r' : R2} {tc : TE} : Stp (tChain r r' ta tb tc σ H Q) (ta σ H fun x H1 => tb σ H1 fun y H2 => r x y H2 fun z H3 => ∃ k, z = .bl k ∧ if k = true then tc σ H3 fun w H4 => r' y w H4 Q else Q (.bl false) H3) := ⟨i_chain⟩
theorem i_ixL {p : Addr} {xs : List V} (h : SqL K H p xs) (e : atI xs i = some v) (q : Q v H) : rIxL K (.ref p) (.int i) H Q := ⟨p, xs, i, v, rfl, rfl, h, e, q⟩
theorem i_ixT {p : Addr} {xs : List V} (h : SqT K H p xs) (e : atI xs i = some v) (q : Q v H) : rIxT K (.ref p) (.int i) H Q := ⟨p, xs, i, v, rfl, rfl, h, e, q⟩
theorem i_setL {R : Hp → Prop} {p : Addr} {xs : List V} (h : H p = some (.lst xs)) (e : ixN xs.length i = some n) (q : R (upd H p (.lst (xs.set n v)))) : rSetL (.ref p) (.int i) v H R := ⟨p, xs, i, n, rfl, rfl, h, e, q⟩
theorem i_gsub {to ti : TE} {t : TSet} {R : St → Hp → Prop} (h : to σ H fun o H1 => ti σ H1 fun i H2 => t o i v H2 fun H3 => R σ H3) : gSub to ti t v σ H R := h
instance s_gsub {to ti : TE} {t : TSet} {R : St → Hp → Prop} : Stp (gSub to ti t v σ H R) (to σ H fun o H1 => ti σ H1 fun i H2 => t o i v H2 fun H3 => R σ H3) := ⟨i_gsub⟩
theorem i_lenL {p : Addr} {xs : List V} (h : SqL K H p xs) (q : Q (.int xs.length) H) : rLen K [.ref p] H Q := ⟨.ref p, xs.length, rfl, .inl ⟨xs, h, rfl⟩, q⟩
theorem i_lenT {p : Addr} {xs : List V} (h : SqT K H p xs) (q : Q (.int xs.length) H) : rLen K [.ref p] H Q := ⟨.ref p, xs.length, rfl, .inr ⟨xs, h, rfl⟩, q⟩
theorem sqL {p : Addr} {xs : List V} (h : H p = some (.lst xs)) : SqL K H p xs := .inl (.inl h)
theorem sqT {p : Addr} {xs : List V} (h : H p = some (.tup xs)) : SqT K H p xs := .inl (.inl h)
theorem i_gtup {p : Addr} {xs : List V} {t : TGs} {R : St → Hp → Prop} (h : SqT K H p xs) (hl : xs.length = n) (q : t xs σ H R) : gTup K n t (.ref p) σ H R := ⟨p, xs, rfl, h, hl, q⟩
theorem i_gnil {R : St → Hp → Prop} (q : R σ H) : gNil [] σ H R := ⟨rfl, q⟩
instance s_gnil {R : St → Hp → Prop} : Stp (gNil [] σ H R) (R σ H) := ⟨i_gnil⟩
theorem i_gcons {t : TG} {u : TGs} {R : St → Hp → Prop} {xs : List V} (q : t v σ H fun σ' H' => u xs σ' H' R) : gCons t u (v :: xs) σ H R := ⟨v, xs, rfl, q⟩
instance s_gcons {t : TG} {u : TGs} {R : St → Hp → Prop} {xs : List V} : Stp (gCons t u (v :: xs) σ H R) (t v σ H fun σ' H' => u xs σ' H' R) := ⟨i_gcons⟩
end
/-- an if on a test that is a decided proposition, its opposite, a known bool -/
theorem i_ifd {p A B : Prop} {inst : Decidable p} (h1 : p → A) (h2 : ¬ p → B) : if decide p = true then A else B := by
  by_cases h : p
  · rw [decide_eq_true h]; exact h1 h
  · rw [decide_eq_false h]; exact h2 h
theorem i_ifn {p A B : Prop} {inst : Decidable p} (h1 : ¬ p → A) (h2 : p → B) : if (!decide p) = true then A else B := by
  by_cases h : p
  · rw [decide_eq_true h]; exact h2 h
  · rw [decide_eq_false h]; exact h1 h
theorem i_ifb {b : Bool} {A B : Prop} (h1 : b = true → A) (h2 : b = false → B) : if b = true then A else B := by
  cases b with
  | true => exact h1 rfl
  | false => exact h2 rfl
theorem i_ifT {A B : Prop} (h : A) : if true = true then A else B := h
instance s_ifT {A B : Prop} : Stp (if true = true then A else B) (A) := ⟨i_ifT⟩
theorem i_ifF {A B : Prop} (h : B) : if false = true then A else B := h
instance s_ifF {A B : Prop} : Stp (if false = true then A else B) (B) := ⟨i_ifF⟩
theorem i_ifnT {A B : Prop} (h : B) : if (!true) = true then A else B := h
instance s_ifnT {A B : Prop} : Stp (if (!true) = true then A else B) (B) := ⟨i_ifnT⟩
theorem i_ifnF {A B : Prop} (h : A) : if (!false) = true then A else B := h
instance s_ifnF {A B : Prop} : Stp (if (!false) = true then A else B) (A) := ⟨i_ifnF⟩
theorem i_yes {p A B : Prop} {inst : Decidable p} (hp : p) (h : A) : if decide p = true then A else B := by rw [decide_eq_true hp]; exact h
theorem i_no {p A B : Prop} {inst : Decidable p} (hp : ¬ p) (h : B) : if decide p = true then A else B := by rw [decide_eq_false hp]; exact h
theorem sz {n : Nat} (h : n ≤ 100000) : n ≤ sizeLine := Nat.le_trans h (by decide)
theorem szl {n : Nat} (h : n < 100000) : n < sizeLine := Nat.lt_of_lt_of_le h (by decide)
theorem cmul_l {i j : Int} (h1 : -1000000000000 ≤ i) (h2 : i ≤ 1000000000000) : CMul i j := .inl ⟨by omega, by omega⟩
theorem cmul_r {i j : Int} (h1 : -1000000000000 ≤ j) (h2 : j ≤ 1000000000000) : CMul i j := .inr ⟨by omega, by omega⟩
theorem cdiv {i j : Int} (h0 : 0 < j) (h : j ≤ 100000000000000000000000000000000000000000000000000000000000000000000000000000) : CDivW i j := wide_div (b := 300) h0 (by
  have e : (100000000000000000000000000000000000000000000000000000000000000000000000000000 : Nat) < 2 ^ 300 := by decide
  omega) (by decide) (by decide)
theorem cpow10 {j : Int} (h0 : 0 ≤ j) (h : j ≤ 100000) : CPow 10 j := ⟨h0, by omega, by decide⟩
theorem cpow2 {j : Int} (h0 : 0 ≤ j) (h : j ≤ 100000) : CPow 2 j := ⟨h0, by omega, by decide⟩
theorem cpow1 {j : Int} (h0 : 0 ≤ j) (h : j ≤ 100000) : CPow 1 j := ⟨h0, by omega, by decide⟩
/-! ### heaps: what is kept -/
theorem same_new {H : Hp} {p : Addr} {o : HO} (h : H p = none) : Same H (upd H p o) := fun b u e => by
  rw [upd_ne (ne_of_none e h)]
  exact e
theorem upd_keep {H : Hp} {p a : Addr} {o u : HO} (h : H p = none) (e : H a = some u) : upd H p o a = some u := same_new h _ _ e
theorem upd_off {H : Hp} {p a : Addr} {o u : HO} (h : a ≠ p) (e : H a = some u) : upd H p o a = some u := by
  rw [upd_ne h]
  exact e
/-- the heap without s -/
def hid (s : Addr) (H : Hp) : Hp := fun b => if b = s then none else H b
theorem hid_of {s : Addr} {H : Hp} {b : Addr} {o : HO} (h : hid s H b = some o) : H b = some o ∧ b ≠ s := by
  unfold hid at h
  split at h
  · cases h
  · exact ⟨h, by assumption⟩
theorem hid_to {s : Addr} {H : Hp} {b : Addr} {o : HO} (h : H b = some o) (n : b ≠ s) : hid s H b = some o := by
  unfold hid
  rw [if_neg n]
  exact h
theorem hid_same {s : Addr} {H : Hp} : Same (hid s H) H := fun _ _ h => (hid_of h).1
theorem hid_upd {s : Addr} {H : Hp} {o : HO} : hid s (upd H s o) = hid s H := by
  funext b
  unfold hid
  by_cases h : b = s
  · rw [if_pos h, if_pos h]
  · rw [if_neg h, if_neg h, upd_ne h]
theorem hid_mono {s : Addr} {H H' : Hp} (h : Same H H') : Same (hid s H) (hid s H') := fun b o e => by
  obtain ⟨e1, n⟩ := hid_of e
  exact hid_to (h b o e1) n
/-- the draws at d, their state at s -/
def Dr (d s : Addr) (H : Hp) : Prop := ∃ (c : Addr) (cs : List Int) (p b n t e : Int), H d = some (.lst [.ref c, .ref s]) ∧ H c = some (.lst (cs.map V.int)) ∧ H s = some (.lst [.int p, .int b, .int n, .int t, .int e]) ∧ d ≠ s ∧ c ≠ s ∧ 0 ≤ p ∧ 0 ≤ b ∧ cs.length ≤ 100000
theorem Dr.same {d s : Addr} {H H' : Hp} (h : Dr d s H) (k : Same H H') : Dr d s H' := by
  obtain ⟨c, cs, p, b, n, t, e, h1, h2, h3, h4⟩ := h
  exact ⟨c, cs, p, b, n, t, e, k _ _ h1, k _ _ h2, k _ _ h3, h4⟩
theorem Dr.s {d s : Addr} {H : Hp} (h : Dr d s H) : ∃ o, H s = some o := by
  obtain ⟨c, cs, p, b, n, t, e, h1, h2, h3, h4⟩ := h
  exact ⟨_, h3⟩
theorem Dr.ne {d s q : Addr} {H : Hp} (h : Dr d s H) (hq : H q = none) : q ≠ s := by
  obtain ⟨o, ho⟩ := h.s
  exact fun z => by
    rw [z, ho] at hq
    cases hq
theorem hid_new {s p : Addr} {H : Hp} {o : HO} (h : p ≠ s) : hid s (upd H p o) p = some o := hid_to upd_same h
/-! ### plain data in the heap -/
inductive Dt where
  | non | bl (b : Bool) | int (i : Int) | str (x : Str) | lst (l : List Dt) | tup (l : List Dt) | dic (l : List (Str × Dt))
mutual
inductive At (H : Hp) : V → Dt → Prop where
  | non : At H .non .non
  | bl (b : Bool) : At H (.bl b) (.bl b)
  | int (i : Int) : At H (.int i) (.int i)
  | str (x : Str) : At H (.str x) (.str x)
  | lst {a : Addr} {vs : List V} {ds : List Dt} (h : H a = some (.lst vs)) (hs : Ats H vs ds) : At H (.ref a) (.lst ds)
  | tup {a : Addr} {vs : List V} {ds : List Dt} (h : H a = some (.tup vs)) (hs : Ats H vs ds) : At H (.ref a) (.tup ds)
  | dic {a : Addr} {kvs : List (Key × V)} {ds : List (Str × Dt)} (h : H a = some (.dK kvs)) (hs : Atk H kvs ds) : At H (.ref a) (.dic ds)
inductive Ats (H : Hp) : List V → List Dt → Prop where
  | nil : Ats H [] []
  | cons {v : V} {d : Dt} {vs : List V} {ds : List Dt} (h : At H v d) (hs : Ats H vs ds) : Ats H (v :: vs) (d :: ds)
inductive Atk (H : Hp) : List (Key × V) → List (Str × Dt) → Prop where
  | nil : Atk H [] []
  | cons {k : Str} {v : V} {d : Dt} {vs : List (Key × V)} {ds : List (Str × Dt)} (h : At H v d) (hs : Atk H vs ds) : Atk H ((Sum.inr k, v) :: vs) ((k, d) :: ds)
end
mutual
theorem At.mono {H H' : Hp} (k : Same H H') : ∀ {v : V} {d : Dt}, At H v d → At H' v d
  | _, _, .non => .non
  | _, _, .bl b => .bl b
  | _, _, .int i => .int i
  | _, _, .str x => .str x
  | _, _, .lst h hs => .lst (k _ _ h) (Ats.mono k hs)
  | _, _, .tup h hs => .tup (k _ _ h) (Ats.mono k hs)
  | _, _, .dic h hs => .dic (k _ _ h) (Atk.mono k hs)
theorem Ats.mono {H H' : Hp} (k : Same H H') : ∀ {v : List V} {d : List Dt}, Ats H v d → Ats H' v d
  | _, _, .nil => .nil
  | _, _, .cons h hs => .cons (At.mono k h) (Ats.mono k hs)
theorem Atk.mono {H H' : Hp} (k : Same H H') : ∀ {v : List (Key × V)} {d : List (Str × Dt)}, Atk H v d → Atk H' v d
  | _, _, .nil => .nil
  | _, _, .cons h hs => .cons (At.mono k h) (Atk.mono k hs)
end
theorem Ats.length {H : Hp} : ∀ {vs : List V} {ds : List Dt}, Ats H vs ds → vs.length = ds.length
  | _, _, .nil => rfl
  | _, _, .cons _ hs => congrArg (· + 1) (Ats.length hs)
theorem Ats.get {H : Hp} : ∀ {vs : List V} {ds : List Dt} {i : Nat} {d : Dt}, Ats H vs ds → ds[i]? = some d → ∃ v, vs[i]? = some v ∧ At H v d
  | _, _, _, _, .nil, e => by simp at e
  | _, _, 0, _, .cons h _, e => by simp at e; subst e; exact ⟨_, rfl, h⟩
  | _, _, i + 1, d, .cons _ hs, e => by
    obtain ⟨v, h1, h2⟩ := Ats.get (i := i) (d := d) hs (by simpa using e)
    exact ⟨v, by simpa using h1, h2⟩
/-- the built-in class of a known value -/
inductive Ty0 (H : Hp) : V → String → Prop where
  | non : Ty0 H .non "NoneType"
  | bl (b : Bool) : Ty0 H (.bl b) "bool"
  | int (i : Int) : Ty0 H (.int i) "int"
  | str (x : Str) : Ty0 H (.str x) "str"
  | lst {a : Addr} {vs : List V} (h : H a = some (.lst vs)) : Ty0 H (.ref a) "list"
  | tup {a : Addr} {vs : List V} (h : H a = some (.tup vs)) : Ty0 H (.ref a) "tuple"
  | dic {a : Addr} {kvs : List (Key × V)} (h : H a = some (.dK kvs)) : Ty0 H (.ref a) "dict"
theorem Ty0.tx {K : PySem.W.Frag} {H : Hp} {v : V} {n : String} (h : Ty0 H v n) : TyX K H v (.type n) := by
  cases h with
  | non => exact .base .non
  | bl b => exact .base (.bl b)
  | int i => exact .base (.int i)
  | str x => exact .base (.str x)
  | lst h => exact .base (.lst h)
  | tup h => exact .base (.tup h)
  | dic h => exact .base (.dK h)
def Dt.ty : Dt → String
  | .non => "NoneType" | .bl _ => "bool" | .int _ => "int" | .str _ => "str" | .lst _ => "list" | .tup _ => "tuple" | .dic _ => "dict"
theorem At.ty {H : Hp} {v : V} {d : Dt} (h : At H v d) : Ty0 H v d.ty := by
  cases h with
  | non => exact .non
  | bl b => exact .bl b
  | int i => exact .int i
  | str x => exact .str x
  | lst h _ => exact .lst h
  | tup h _ => exact .tup h
  | dic h _ => exact .dic h
theorem Ty0.mono {H H' : Hp} {v : V} {n : String} (k : Same H H') (h : Ty0 H v n) : Ty0 H' v n := by
  cases h with
  | non => exact .non
  | bl b => exact .bl b
  | int i => exact .int i
  | str x => exact .str x
  | lst h => exact .lst (k _ _ h)
  | tup h => exact .tup (k _ _ h)
  | dic h => exact .dic (k _ _ h)
theorem i_isi {K : PySem.W.Frag} {H : Hp} {Q : VK} {v : V} {n c : String} {b : Bool} (h : Ty0 H v n) (e : kitB n c = some b) (q : Q (.bl b) H) : rIsi K [v, .ty c] H Q :=
  ⟨v, .ty c, .type n, .type c, b, rfl, .ty c, h.tx, kit_ty e, q⟩
/-! ### loops and comprehensions -/
/-- a for over J from σ and H on; a comprehension likewise -/
def ForW (J : It) (g : TG) (tb : TS) (D : Ends) (σ : St) (H1 : Hp) : Prop := tFor (fun _ G R => R J G) g tb D σ H1
def LcW (J : It) (g : TG) (tt : TT) (te : TE) (vs : List Nat) (σ : St) (H1 : Hp) (Q : VK) : Prop := tLc (fun _ G R => R J G) g tt te vs σ H1 Q
section
variable {K : PySem.W.Frag} {σ : St} {H : Hp} {Q : VK} {D : Ends} {g : TG} {tb : TS} {ta : TA} {tl te : TE} {tt : TT} {vs : List Nat} {n m : Int} {a : Addr} {xs : List V}
theorem i_forR1 (h : ta σ H fun vs H1 => ∃ j : Int, vs = [.int j] ∧ -(2 ^ 62) ≤ j ∧ j < 2 ^ 62 ∧ ForW (Itr 0 j.toNat) g tb D σ H1) : tFor (iRng1 ta) g tb D σ H := h
instance s_forR1 : Stp (tFor (iRng1 ta) g tb D σ H) (ta σ H fun vs H1 => ∃ j : Int, vs = [.int j] ∧ -(2 ^ 62) ≤ j ∧ j < 2 ^ 62 ∧ ForW (Itr 0 j.toNat) g tb D σ H1) := ⟨i_forR1⟩
theorem i_forR2 (h : ta σ H fun vs H1 => ∃ i j : Int, vs = [.int i, .int j] ∧ (-(2 ^ 62) ≤ i ∧ i < 2 ^ 62 ∧ -(2 ^ 62) ≤ j ∧ j < 2 ^ 62) ∧ ForW (Itr i (j - i).toNat) g tb D σ H1) : tFor (iRng2 ta) g tb D σ H := h
instance s_forR2 : Stp (tFor (iRng2 ta) g tb D σ H) (ta σ H fun vs H1 => ∃ i j : Int, vs = [.int i, .int j] ∧ (-(2 ^ 62) ≤ i ∧ i < 2 ^ 62 ∧ -(2 ^ 62) ≤ j ∧ j < 2 ^ 62) ∧ ForW (Itr i (j - i).toNat) g tb D σ H1) := ⟨i_forR2⟩
theorem i_forL (h : tl σ H fun x H1 => ∃ a, x = .ref a ∧ (∃ xs, SqL K H1 a xs) ∧ ForW (Itl K a) g tb D σ H1) : tFor (iList K tl) g tb D σ H := h
instance s_forL : Stp (tFor (iList K tl) g tb D σ H) (tl σ H fun x H1 => ∃ a, x = .ref a ∧ (∃ xs, SqL K H1 a xs) ∧ ForW (Itl K a) g tb D σ H1) := ⟨i_forL⟩
theorem i_forT (h : tl σ H fun x H1 => ∃ a, x = .ref a ∧ (∃ xs, SqT K H1 a xs) ∧ ForW (Itt K a) g tb D σ H1) : tFor (iTup K tl) g tb D σ H := h
instance s_forT : Stp (tFor (iTup K tl) g tb D σ H) (tl σ H fun x H1 => ∃ a, x = .ref a ∧ (∃ xs, SqT K H1 a xs) ∧ ForW (Itt K a) g tb D σ H1) := ⟨i_forT⟩
theorem f_rng1 (h1 : -1000000000000 ≤ n) (h2 : n ≤ 1000000000000) (q : ForW (Itr 0 n.toNat) g tb D σ H) : ∃ j : Int, [V.int n] = [.int j] ∧ -(2 ^ 62) ≤ j ∧ j < 2 ^ 62 ∧ ForW (Itr 0 j.toNat) g tb D σ H := ⟨n, rfl, by omega, by omega, q⟩
theorem f_rng2 (h1 : -1000000000000 ≤ m) (h2 : m ≤ 1000000000000) (h3 : -1000000000000 ≤ n) (h4 : n ≤ 1000000000000) (q : ForW (Itr m (n - m).toNat) g tb D σ H) :
    ∃ i j : Int, [V.int m, V.int n] = [.int i, .int j] ∧ (-(2 ^ 62) ≤ i ∧ i < 2 ^ 62 ∧ -(2 ^ 62) ≤ j ∧ j < 2 ^ 62) ∧ ForW (Itr i (j - i).toNat) g tb D σ H := ⟨m, n, rfl, ⟨by omega, by omega, by omega, by omega⟩, q⟩
theorem f_lst (h : SqL K H a xs) (q : ForW (Itl K a) g tb D σ H) : ∃ b, V.ref a = .ref b ∧ (∃ xs, SqL K H b xs) ∧ ForW (Itl K b) g tb D σ H := ⟨a, rfl, ⟨xs, h⟩, q⟩
theorem f_tup (h : SqT K H a xs) (q : ForW (Itt K a) g tb D σ H) : ∃ b, V.ref a = .ref b ∧ (∃ xs, SqT K H b xs) ∧ ForW (Itt K b) g tb D σ H := ⟨a, rfl, ⟨xs, h⟩, q⟩
theorem i_lcR1 (h : ta σ H fun ws H1 => ∃ j : Int, ws = [.int j] ∧ -(2 ^ 62) ≤ j ∧ j < 2 ^ 62 ∧ LcW (Itr 0 j.toNat) g tt te vs σ H1 Q) : tLc (iRng1 ta) g tt te vs σ H Q := h
instance s_lcR1 : Stp (tLc (iRng1 ta) g tt te vs σ H Q) (ta σ H fun ws H1 => ∃ j : Int, ws = [.int j] ∧ -(2 ^ 62) ≤ j ∧ j < 2 ^ 62 ∧ LcW (Itr 0 j.toNat) g tt te vs σ H1 Q) := ⟨i_lcR1⟩
theorem i_lcL (h : tl σ H fun x H1 => ∃ a, x = .ref a ∧ (∃ xs, SqL K H1 a xs) ∧ LcW (Itl K a) g tt te vs σ H1 Q) : tLc (iList K tl) g tt te vs σ H Q := h
instance s_lcL : Stp (tLc (iList K tl) g tt te vs σ H Q) (tl σ H fun x H1 => ∃ a, x = .ref a ∧ (∃ xs, SqL K H1 a xs) ∧ LcW (Itl K a) g tt te vs σ H1 Q) := ⟨i_lcL⟩
theorem i_lcT (h : tl σ H fun x H1 => ∃ a, x = .ref a ∧ (∃ xs, SqT K H1 a xs) ∧ LcW (Itt K a) g tt te vs σ H1 Q) : tLc (iTup K tl) g tt te vs σ H Q := h
instance s_lcT : Stp (tLc (iTup K tl) g tt te vs σ H Q) (tl σ H fun x H1 => ∃ a, x = .ref a ∧ (∃ xs, SqT K H1 a xs) ∧ LcW (Itt K a) g tt te vs σ H1 Q) := ⟨i_lcT⟩
theorem c_rng1 (h1 : -1000000000000 ≤ n) (h2 : n ≤ 1000000000000) (q : LcW (Itr 0 n.toNat) g tt te vs σ H Q) : ∃ j : Int, [V.int n] = [.int j] ∧ -(2 ^ 62) ≤ j ∧ j < 2 ^ 62 ∧ LcW (Itr 0 j.toNat) g tt te vs σ H Q := ⟨n, rfl, by omega, by omega, q⟩
theorem c_lst (h : SqL K H a xs) (q : LcW (Itl K a) g tt te vs σ H Q) : ∃ b, V.ref a = .ref b ∧ (∃ xs, SqL K H b xs) ∧ LcW (Itl K b) g tt te vs σ H Q := ⟨a, rfl, ⟨xs, h⟩, q⟩
theorem c_tup (h : SqT K H a xs) (q : LcW (Itt K a) g tt te vs σ H Q) : ∃ b, V.ref a = .ref b ∧ (∃ xs, SqT K H b xs) ∧ LcW (Itt K b) g tt te vs σ H Q := ⟨a, rfl, ⟨xs, h⟩, q⟩
theorem i_tyes {QT : Bool → Hp → Prop} (h : QT true H) : tYes σ H QT := h
instance s_tyes {QT : Bool → Hp → Prop} : Stp (tYes σ H QT) (QT true H) := ⟨i_tyes⟩
theorem i_amongL {i : Int} (h : SqL K H a xs) (h0 : 0 ≤ i) (h1 : i < xs.length) (q : ∀ v, xs[i.toNat]? = some v → Q v H) : rIxL K (.ref a) (.int i) H Q := by
  have hx : xs[i.toNat]? = some (xs[i.toNat]'(by omega)) := List.getElem?_eq_getElem _
  exact ⟨a, xs, i, _, rfl, rfl, h, at_of (j := i.toNat) (by omega) hx, q _ hx⟩
end
theorem l_while {tt : TT} {tb : TS} {nx bk ct : St → Hp → Prop} {rt : VK} {σ : St} {H : Hp} {m : Nat} (W : Nat → St → Hp → Prop) (h0 : W m σ H)
    (hs : ∀ m σ' H', W m σ' H' → tt σ' H' fun b H1 => if b = true then ∃ N : St → Hp → Prop, (∀ σ2 H2, N σ2 H2 → ∃ m', m' < m ∧ W m' σ2 H2) ∧ tb ⟨N, rt, nx, N⟩ σ' H1 else nx σ' H1) : tWhile tt tb ⟨nx, rt, bk, ct⟩ σ H := ⟨W, ⟨m, h0⟩, hs⟩
/-- into the body of a while -/
theorem i_turn {W : Nat → St → Hp → Prop} {tb : TS} {nx : St → Hp → Prop} {rt : VK} {σ : St} {H : Hp} {m : Nat} (h : tb ⟨fun σ2 H2 => ∃ m', m' < m ∧ W m' σ2 H2, rt, nx, fun σ2 H2 => ∃ m', m' < m ∧ W m' σ2 H2⟩ σ H) : ∃ N : St → Hp → Prop, (∀ σ2 H2, N σ2 H2 → ∃ m', m' < m ∧ W m' σ2 H2) ∧ tb ⟨N, rt, nx, N⟩ σ H := ⟨_, fun _ _ h => h, h⟩
instance s_bm {K : PySem.W.Frag} {σ : St} {H : Hp} {Q : VK} {T : String} {r : V → List V → Hp → VK → Prop} {to : TE} {t : TA} : Stp (tBM K T r to t σ H Q) (to σ H fun x H1 => tyV K T x H1 ∧ t σ H1 fun xs H2 => r x xs H2 Q) := ⟨fun h => h⟩
theorem i_app {K : PySem.W.Frag} {σ : St} {H : Hp} {Q : VK} {r : V → List V → Hp → VK → Prop} {t : TA} {l : Addr} {ys : List V} (hl : H l = some (.lst ys)) (h : t σ H fun vs H2 => r (.ref l) vs H2 Q) : tyV K "list" (.ref l) H ∧ t σ H fun vs H2 => r (.ref l) vs H2 Q := ⟨.inl ⟨rfl, ys, sqL hl⟩, h⟩
theorem i_put {H : Hp} {Q : VK} {l : Addr} {xs : List V} {y : V} (h : H l = some (.lst xs)) (hz : xs.length < 100000) (q : Q .non (upd H l (.lst (xs ++ [y])))) : rAppend (.ref l) [y] H Q := ⟨l, xs, y, rfl, rfl, h, szl hz, q⟩
/-- the rest of a block once for all ways through its first statement -/
theorem i_cut {ts tw : TS} {nx bk ct : St → Hp → Prop} {rt : VK} {σ : St} {H : Hp} (R : St → Hp → Prop) (hR : ∀ σ' H', R σ' H' → tw ⟨nx, rt, bk, ct⟩ σ' H') (h : ∀ nx : St → Hp → Prop, (∀ σ' H', R σ' H' → nx σ' H') → ts ⟨nx, rt, bk, ct⟩ σ H) : tSeq ts tw ⟨nx, rt, bk, ct⟩ σ H := h _ hR
section
variable {K : PySem.W.Frag} {σ : St} {H : Hp} {g : TG} {tb : TS} {n : Nat} {lo : Int} {a : Addr} {xs : List V} {nx bk ct : St → Hp → Prop} {rt : VK}
theorem l_rng (Pv : Nat → St → Hp → Prop) (h0 : Pv 0 σ H) (hs : ∀ i σ' H', i < n → Pv i σ' H' → g (.int (lo + i)) σ' H' fun σ2 H2 => tb ⟨Pv (i + 1), rt, nx, Pv (i + 1)⟩ σ2 H2) (hd : ∀ σ' H', Pv n σ' H' → nx σ' H') : ForW (Itr lo n) g tb ⟨nx, rt, bk, ct⟩ σ H :=
  for_range (D := ⟨nx, rt, bk, ct⟩) Pv h0 hs hd
theorem l_lst (Pv : Nat → St → Hp → Prop) (h0 : Pv 0 σ H) (hl : ∀ i σ' H', i ≤ xs.length → Pv i σ' H' → SqL K H' a xs) (hs : ∀ i x σ' H', xs[i]? = some x → Pv i σ' H' → g x σ' H' fun σ2 H2 => tb ⟨Pv (i + 1), rt, nx, Pv (i + 1)⟩ σ2 H2) (hd : ∀ σ' H', Pv xs.length σ' H' → nx σ' H') : ForW (Itl K a) g tb ⟨nx, rt, bk, ct⟩ σ H :=
  for_list (D := ⟨nx, rt, bk, ct⟩) Pv h0 hl hs hd
theorem l_tup (Pv : Nat → St → Hp → Prop) (h0 : Pv 0 σ H) (hl : ∀ i σ' H', i ≤ xs.length → Pv i σ' H' → SqT K H' a xs) (hs : ∀ i x σ' H', xs[i]? = some x → Pv i σ' H' → g x σ' H' fun σ2 H2 => tb ⟨Pv (i + 1), rt, nx, Pv (i + 1)⟩ σ2 H2) (hd : ∀ σ' H', Pv xs.length σ' H' → nx σ' H') : ForW (Itt K a) g tb ⟨nx, rt, bk, ct⟩ σ H :=
  for_tup (D := ⟨nx, rt, bk, ct⟩) Pv h0 hl hs hd
end
section
variable {K : PySem.W.Frag} {σ : St} {H : Hp} {g : TG} {tt : TT} {te : TE} {vs : List Nat} {n : Nat} {lo : Int} {a : Addr} {xs : List V} {Q : VK}
theorem m_rng (Pv : Addr → Nat → Hp → Prop) (h0 : ∀ D, H D = none → Pv D 0 (upd H D (.lst [])))
    (hs : ∀ D i H', i < n → Pv D i H' → g (.int (lo + i)) (wipe σ vs) H' fun σ2 H2 => wipe σ2 vs = wipe σ vs ∧ tt σ2 H2 fun b H3 => if b = true then te σ2 H3 fun y H4 => ∃ acc, H4 D = some (.lst acc) ∧ acc.length < sizeLine ∧ Pv D (i + 1) (upd H4 D (.lst (acc ++ [y]))) else Pv D (i + 1) H3)
    (hd : ∀ D H', Pv D n H' → Q (.ref D) H') : LcW (Itr lo n) g tt te vs σ H Q := fun D hD => lc_range (Pv D) (h0 D hD) (hs D) (hd D)
theorem m_lst (Pv : Addr → Nat → Hp → Prop) (h0 : ∀ D, H D = none → Pv D 0 (upd H D (.lst []))) (hl : ∀ D i H', i ≤ xs.length → Pv D i H' → SqL K H' a xs)
    (hs : ∀ D i x H', xs[i]? = some x → Pv D i H' → g x (wipe σ vs) H' fun σ2 H2 => wipe σ2 vs = wipe σ vs ∧ tt σ2 H2 fun b H3 => if b = true then te σ2 H3 fun y H4 => ∃ acc, H4 D = some (.lst acc) ∧ acc.length < sizeLine ∧ Pv D (i + 1) (upd H4 D (.lst (acc ++ [y]))) else Pv D (i + 1) H3)
    (hd : ∀ D H', Pv D xs.length H' → Q (.ref D) H') : LcW (Itl K a) g tt te vs σ H Q := fun D hD => lc_list (Pv D) (h0 D hD) (hl D) (hs D) (hd D)
theorem m_tup (Pv : Addr → Nat → Hp → Prop) (h0 : ∀ D, H D = none → Pv D 0 (upd H D (.lst []))) (hl : ∀ D i H', i ≤ xs.length → Pv D i H' → SqT K H' a xs)
    (hs : ∀ D i x H', xs[i]? = some x → Pv D i H' → g x (wipe σ vs) H' fun σ2 H2 => wipe σ2 vs = wipe σ vs ∧ tt σ2 H2 fun b H3 => if b = true then te σ2 H3 fun y H4 => ∃ acc, H4 D = some (.lst acc) ∧ acc.length < sizeLine ∧ Pv D (i + 1) (upd H4 D (.lst (acc ++ [y]))) else Pv D (i + 1) H3)
    (hd : ∀ D H', Pv D xs.length H' → Q (.ref D) H') : LcW (Itt K a) g tt te vs σ H Q := fun D hD => lc_tup (Pv D) (h0 D hD) (hl D) (hs D) (hd D)
theorem m_kept {D : Addr} {y : V} {R : Hp → Prop} {acc : List V} (h : H D = some (.lst acc)) (hz : acc.length < 100000) (q : R (upd H D (.lst (acc ++ [y])))) : ∃ acc, H D = some (.lst acc) ∧ acc.length < sizeLine ∧ R (upd H D (.lst (acc ++ [y]))) := ⟨acc, h, szl hz, q⟩
end
theorem getI {ns : List Int} {i : Nat} {y : V} (hi : (ns.map V.int)[i]? = some y) : ∃ z, ns[i]? = some z ∧ y = V.int z := by
  rw [List.getElem?_map, Option.map_eq_some_iff] at hi
  exact hi.elim fun z h => ⟨z, h.1, h.2.symm⟩
theorem take_more {α : Type} {l : List α} {i : Nat} {x : α} (h : l[i]? = some x) : l.take (i + 1) = l.take i ++ [x] := by rw [List.take_add_one, h]; rfl
mutual
def Dt.dep : Dt → Nat
  | .lst l => Dt.depL l + 1
  | .tup l => Dt.depL l + 1
  | .dic l => Dt.depK l + 1
  | _ => 0
def Dt.depL : List Dt → Nat
  | [] => 0
  | d :: r => max d.dep (Dt.depL r)
def Dt.depK : List (Str × Dt) → Nat
  | [] => 0
  | (_, d) :: r => max d.dep (Dt.depK r)
end
mutual
def Dt.okd : Dt → Bool
  | .lst l => decide (l.length ≤ 10000) && Dt.okL l
  | .tup l => decide (l.length ≤ 10000) && Dt.okL l
  | .dic l => (decide (l.length ≤ 1000) && decide ((l.map (·.1)).Nodup)) && Dt.okK l
  | _ => true
def Dt.okL : List Dt → Bool
  | [] => true
  | d :: r => d.okd && Dt.okL r
def Dt.okK : List (Str × Dt) → Bool
  | [] => true
  | (_, d) :: r => d.okd && Dt.okK r
end
def Dt.isI : Dt → Bool
  | .int _ => true
  | _ => false
/-- an int from lo to hi -/
def Dt.inR (lo hi : Int) : Dt → Prop
  | .int i => lo ≤ i ∧ i ≤ hi
  | _ => False
/-- a power of two up to m -/
def Dt.isAl (m : Int) : Dt → Prop
  | .int i => (∃ k : Nat, i = 2 ^ k) ∧ i ≤ m
  | _ => False
theorem Dt.inR_of {d : Dt} (h : d.isI = false) (lo hi : Int) : ¬ d.inR lo hi := by
  cases d <;> first | exact fun z => z | cases h
theorem Dt.isAl_of {d : Dt} (h : d.isI = false) (m : Int) : ¬ d.isAl m := by
  cases d <;> first | exact fun z => z | cases h
theorem i_disp1 {σ : St} {H : Hp} {Q : VK} {k : Str} {v : V} (h : ∀ p, H p = none → Q (.ref p) (upd H p (.dK [(Sum.inr k, v)]))) : tDisp [(tC (.str k), tC v)] σ H Q := fun p hp => ⟨upd_same, [(.inr k, v)], rfl, by simp, by rw [upd_upd]; exact h p hp⟩
/-! ### a def as it stands behind the top -/
structure DfG (K : PySem.W.Frag) (mg : Str → Option Value) (x : Str) (st : Stmt) (ps : List Str) (f : Addr) (fd : FuncData) : Prop where
  fn : Fun K x x st f fd
  gl : mg x = some (.ref f)
  bd : Binds K fd ps []
structure DfM (K : PySem.W.Frag) (x qual : Str) (st : Stmt) (ps : List Str) (f : Addr) (fd : FuncData) : Prop where
  fn : Fun K x qual st f fd
  bd : Binds K fd ps []
theorem fn_false {P : Program} {w : World} {K : PySem.W.Frag} {mg : Str → Option Value} {base : Heap} {CX : CXT} {k : Nat} {f : Addr} {fd : FuncData} {ps : List Str} : FnOk P w K mg base CX k f fd ps (fun _ _ _ _ => False) := ⟨fun _ _ _ _ h => h.elim, fun _ _ _ _ _ _ _ _ _ _ _ _ _ h => h.elim⟩
theorem FnU.mono {P : Program} {w : World} {K : PySem.W.Frag} {mg : Str → Option Value} {base : Heap} {j k : Nat} {f : Addr} {fd : FuncData} {ps : List Str} {sp : Sp} (F : FnU P w K mg base j f fd ps sp) (h : j ≤ k) : FnU P w K mg base k f fd ps sp := ⟨F.len, fun A outer s H args us vs Q E hr => F.run A outer s H args us vs Q E (hr.mono h)⟩
/-- the part of H' that is new since H -/
def nw (H H' : Hp) : Hp := fun b => match H b with
  | none => H' b
  | some _ => none
theorem nw_to {H H' : Hp} {b : Addr} {o : HO} (h : H b = none) (e : H' b = some o) : nw H H' b = some o := by
  unfold nw
  rw [h]
  exact e
theorem nw_of {H H' : Hp} {b : Addr} {o : HO} (h : nw H H' b = some o) : H b = none ∧ H' b = some o := by
  unfold nw at h
  cases e : H b with
  | none =>
    rw [e] at h
    exact ⟨rfl, h⟩
  | some u =>
    rw [e] at h
    cases h
theorem nw_old {H H1 H2 : Hp} (k : ∀ b o, H b = some o → ∃ u, H1 b = some u) : Same (nw H1 H2) (nw H H2) := fun b o e => by
  obtain ⟨e1, e2⟩ := nw_of e
  refine nw_to ?_ e2
  cases q : H b with
  | none => rfl
  | some u =>
    obtain ⟨u', q'⟩ := k b u q
    rw [q'] at e1
    cases e1
theorem nw_hid {d s : Addr} {H H' : Hp} (h : Dr d s H) : Same (nw H H') (hid s H') := fun b o e => by
  obtain ⟨e1, e2⟩ := nw_of e
  exact hid_to e2 (h.ne e1)
theorem nw_same {H H' : Hp} : Same (nw H H') H' := fun _ _ e => (nw_of e).2
theorem alive {d s : Addr} {H H1 : Hp} (h : Dr d s H1) (k : Same (hid s H) (hid s H1)) : ∀ b o, H b = some o → ∃ u, H1 b = some u := fun b o e => by
  by_cases hb : b = s
  · subst hb
    exact h.s
  · exact ⟨o, hid_same _ _ (k _ _ (hid_to e hb))⟩
/-- what is new since H stays new and stays as it is -/
theorem nw_grow {d s : Addr} {H H1 H2 : Hp} (h : Dr d s H) (k : Same (hid s H1) (hid s H2)) : Same (nw H H1) (nw H H2) := fun b o e => by
  obtain ⟨e1, e2⟩ := nw_of e
  exact nw_to e1 (hid_same _ _ (k _ _ (hid_to e2 (h.ne e1))))
/-- what the end asks of the law -/
def sp_end (K : PySem.W.Frag) : Sp := fun vs H Q _ => ∃ (a : Addr) (ns : List Int), vs = [.ref a] ∧ SqL K H a (ns.map V.int) ∧ ns.length ≤ 63 ∧ ∀ H', Q (.bl true) H'
/-- isinstance of a value of a built-in class -/
class KB (a c : String) (b : outParam Bool) : Prop where
  e : kitB a c = some b
instance kb_NoneType_int : KB "NoneType" "int" false := ⟨by decide +kernel⟩
instance kb_NoneType_bool : KB "NoneType" "bool" false := ⟨by decide +kernel⟩
instance kb_NoneType_str : KB "NoneType" "str" false := ⟨by decide +kernel⟩
instance kb_NoneType_list : KB "NoneType" "list" false := ⟨by decide +kernel⟩
instance kb_NoneType_tuple : KB "NoneType" "tuple" false := ⟨by decide +kernel⟩
instance kb_NoneType_dict : KB "NoneType" "dict" false := ⟨by decide +kernel⟩
instance kb_bool_int : KB "bool" "int" true := ⟨by decide +kernel⟩
instance kb_bool_bool : KB "bool" "bool" true := ⟨by decide +kernel⟩
instance kb_bool_str : KB "bool" "str" false := ⟨by decide +kernel⟩
instance kb_bool_list : KB "bool" "list" false := ⟨by decide +kernel⟩
instance kb_bool_tuple : KB "bool" "tuple" false := ⟨by decide +kernel⟩
instance kb_bool_dict : KB "bool" "dict" false := ⟨by decide +kernel⟩
instance kb_int_int : KB "int" "int" true := ⟨by decide +kernel⟩
instance kb_int_bool : KB "int" "bool" false := ⟨by decide +kernel⟩
instance kb_int_str : KB "int" "str" false := ⟨by decide +kernel⟩
instance kb_int_list : KB "int" "list" false := ⟨by decide +kernel⟩
instance kb_int_tuple : KB "int" "tuple" false := ⟨by decide +kernel⟩
instance kb_int_dict : KB "int" "dict" false := ⟨by decide +kernel⟩
instance kb_str_int : KB "str" "int" false := ⟨by decide +kernel⟩
instance kb_str_bool : KB "str" "bool" false := ⟨by decide +kernel⟩
instance kb_str_str : KB "str" "str" true := ⟨by decide +kernel⟩
instance kb_str_list : KB "str" "list" false := ⟨by decide +kernel⟩
instance kb_str_tuple : KB "str" "tuple" false := ⟨by decide +kernel⟩
instance kb_str_dict : KB "str" "dict" false := ⟨by decide +kernel⟩
instance kb_list_int : KB "list" "int" false := ⟨by decide +kernel⟩
instance kb_list_bool : KB "list" "bool" false := ⟨by decide +kernel⟩
instance kb_list_str : KB "list" "str" false := ⟨by decide +kernel⟩
instance kb_list_list : KB "list" "list" true := ⟨by decide +kernel⟩
instance kb_list_tuple : KB "list" "tuple" false := ⟨by decide +kernel⟩
instance kb_list_dict : KB "list" "dict" false := ⟨by decide +kernel⟩
instance kb_tuple_int : KB "tuple" "int" false := ⟨by decide +kernel⟩
instance kb_tuple_bool : KB "tuple" "bool" false := ⟨by decide +kernel⟩
instance kb_tuple_str : KB "tuple" "str" false := ⟨by decide +kernel⟩
instance kb_tuple_list : KB "tuple" "list" false := ⟨by decide +kernel⟩
instance kb_tuple_tuple : KB "tuple" "tuple" true := ⟨by decide +kernel⟩
instance kb_tuple_dict : KB "tuple" "dict" false := ⟨by decide +kernel⟩
instance kb_dict_int : KB "dict" "int" false := ⟨by decide +kernel⟩
instance kb_dict_bool : KB "dict" "bool" false := ⟨by decide +kernel⟩
instance kb_dict_str : KB "dict" "str" false := ⟨by decide +kernel⟩
instance kb_dict_list : KB "dict" "list" false := ⟨by decide +kernel⟩
instance kb_dict_tuple : KB "dict" "tuple" false := ⟨by decide +kernel⟩
instance kb_dict_dict : KB "dict" "dict" true := ⟨by decide +kernel⟩
theorem i_isiT {K : PySem.W.Frag} {H : Hp} {Q : VK} {v : V} {n c : String} {b : Bool} [k : KB n c b] (h : Ty0 H v n) (q : Q (.bl b) H) : rIsi K [v, .ty c] H Q := i_isi h k.e q
section
variable {A B : Prop}
instance s_nonI {i : Int} {inst : Decidable (V.int i = .non)} : Stp (if @decide (V.int i = .non) inst = true then A else B) B := ⟨i_no (by simp)⟩
instance s_nonB {i : Bool} {inst : Decidable (V.bl i = .non)} : Stp (if @decide (V.bl i = .non) inst = true then A else B) B := ⟨i_no (by simp)⟩
instance s_nonS {i : Str} {inst : Decidable (V.str i = .non)} : Stp (if @decide (V.str i = .non) inst = true then A else B) B := ⟨i_no (by simp)⟩
instance s_nonR {i : Addr} {inst : Decidable (V.ref i = .non)} : Stp (if @decide (V.ref i = .non) inst = true then A else B) B := ⟨i_no (by simp)⟩
instance s_nonN {inst : Decidable (V.non = .non)} : Stp (if @decide (V.non = .non) inst = true then A else B) A := ⟨i_yes rfl⟩
instance s_bneTT : Stp (if (true != true) = true then A else B) B := ⟨fun h => h⟩
instance s_bneFF : Stp (if (false != false) = true then A else B) B := ⟨fun h => h⟩
instance s_bneTF : Stp (if (true != false) = true then A else B) A := ⟨fun h => h⟩
instance s_bneFT : Stp (if (false != true) = true then A else B) A := ⟨fun h => h⟩
end
/-! ### for the steps: a heap fact kept on -/
theorem sget {H H' : Hp} {p : Addr} {o : HO} (k : Same H H') (e : H p = some o) : H' p = some o := k _ _ e
theorem hget {s : Addr} {H H' : Hp} {p : Addr} {o : HO} (k : Same (hid s H) (hid s H')) (n : p ≠ s) (e : H p = some o) : H' p = some o := (hid_of (k _ _ (hid_to e n))).1
theorem ne_dr {d s q : Addr} {H : Hp} (hq : H q = none) (h : Dr d s H) : q ≠ s := h.ne hq
theorem i_isiG {K : PySem.W.Frag} {H : Hp} {Q : VK} {v : V} {c : String} (h : ∃ n b, Ty0 H v n ∧ kitB n c = some b ∧ Q (.bl b) H) : rIsi K [v, .ty c] H Q := h.elim fun _ h => h.elim fun _ h => i_isi h.1 h.2.1 h.2.2
theorem i_isiE {H : Hp} {Q : VK} {v : V} {n c : String} {b : Bool} [k : KB n c b] (h : Ty0 H v n) (q : Q (.bl b) H) : ∃ n b, Ty0 H v n ∧ kitB n c = some b ∧ Q (.bl b) H := ⟨n, b, h, k.e, q⟩
/-! what a goal is, ahead of a step with side goals -/
section
variable {K : PySem.W.Frag} {σ : St} {H : Hp} {Q : VK} {D : Ends} {v x y : V} {te : TE} {tw : TS} {n : Nat} {p : Addr} {i j : Int}
theorem q_var (h : tVar n σ H Q) : tVar n σ H Q := h
theorem q_ixL (h : rIxL K x y H Q) : rIxL K x y H Q := h
theorem q_ixT (h : rIxT K x y H Q) : rIxT K x y H Q := h
theorem q_setL {R : Hp → Prop} (h : rSetL x y v H R) : rSetL x y v H R := h
theorem q_mul (h : oMul x y H Q) : oMul x y H Q := h
theorem q_div (h : oDiv x y H Q) : oDiv x y H Q := h
theorem q_mod (h : oMod x y H Q) : oMod x y H Q := h
theorem q_pow (h : oPow x y H Q) : oPow x y H Q := h
theorem q_shl (h : oShl x y H Q) : oShl x y H Q := h
theorem q_len {vs : List V} (h : rLen K vs H Q) : rLen K vs H Q := h
theorem q_isi {vs : List V} (h : rIsi K vs H Q) : rIsi K vs H Q := h
theorem q_app {c : String} {P : Prop} (h : tyV K c x H ∧ P) : tyV K c x H ∧ P := h
theorem q_seqG {ti : TIp} (h : tSeq (tAug n te ti) tw D σ H) : tSeq (tAug n te ti) tw D σ H := h
theorem q_aug {ti : TIp} (h : tAug n te ti D σ H) : tAug n te ti D σ H := h
theorem q_gtup {t : TGs} {R : St → Hp → Prop} (h : gTup K n t x σ H R) : gTup K n t x σ H R := h
theorem q_sz {A : Nat} {P : Prop} (h : A ≤ sizeLine ∧ P) : A ≤ sizeLine ∧ P := h
end
theorem free2 {H H' : Hp} {p : Addr} (e : H' p = none) (k : Same H H') : H p = none := by
  cases q : H p with
  | none => rfl
  | some o =>
    rw [k p o q] at e
    cases e
theorem dead2 {d s p : Addr} {H H' : Hp} (e : H' p = none) (h : Dr d s H') (k : Same (hid s H) (hid s H')) : H p = none := by
  cases q : H p with
  | none => rfl
  | some o =>
    obtain ⟨u, hu⟩ := alive h k p o q
    rw [hu] at e
    cases e
theorem nw_wide {d s : Addr} {H H1 H2 H3 : Hp} (h : Dr d s H1) (k1 : Same (hid s H) (hid s H1)) (k2 : Same (hid s H2) (hid s H3)) : Same (nw H1 H2) (nw H H3) := fun b o e => by
  obtain ⟨e1, e2⟩ := nw_of e
  exact nw_to (dead2 e1 h k1) (hget k2 (h.ne e1) e2)
theorem nw_wide0 {H H1 H2 H3 : Hp} (k1 : Same H H1) (k2 : Same H2 H3) : Same (nw H1 H2) (nw H H3) := fun b o e => by
  obtain ⟨e1, e2⟩ := nw_of e
  exact nw_to (free2 e1 k1) (k2 _ _ e2)
theorem nw_hidw {d s : Addr} {H1 H2 H3 : Hp} (h : Dr d s H1) (k2 : Same (hid s H2) (hid s H3)) : Same (nw H1 H2) (hid s H3) := fun b o e => by
  obtain ⟨e1, e2⟩ := nw_of e
  exact k2 _ _ (hid_to e2 (h.ne e1))
theorem nw_to2 {H H' : Hp} {b : Addr} {o : HO} (e : H' b = some o) (h : H b = none) : nw H H' b = some o := nw_to h e
/-- {k: v} of a name -/
theorem i_disp1V {σ : St} {H : Hp} {Q : VK} {k : Str} {n : Nat} {v : V} (hx : σ[n]? = some (some v)) (h : ∀ p, H p = none → Q (.ref p) (upd H p (.dK [(Sum.inr k, v)]))) : tDisp [(tC (.str k), tVar n)] σ H Q := fun p hp => ⟨v, hx, upd_same, [(.inr k, v)], rfl, by simp, by rw [upd_upd]; exact h p hp⟩
theorem hid2_upd {r s : Addr} {H : Hp} {o : HO} (n : r ≠ s) : hid r (hid s (upd H r o)) = hid r (hid s H) := by
  funext b
  unfold hid
  by_cases h : b = r
  · rw [if_pos h, if_pos h]
  · rw [if_neg h, if_neg h, upd_ne h]
/-- an object that is new since G may change: the draws stand -/
theorem Dr.upd {d s r : Addr} {G H : Hp} {o : HO} (hG : Dr d s G) (hr : G r = none) (sm : Same (hid s G) (hid s H)) (hD : Dr d s H) : Dr d s (L2.upd H r o) := by
  obtain ⟨c0, cs0, p0, b0, q0, t0, e0, g1, g2, g3, g4, g5, g6⟩ := hG
  obtain ⟨c, cs, p, b, q, t, e, h1, h2, h3, h4, h5, h6⟩ := hD
  have k1 := (hid_of (sm _ _ (hid_to g1 g4))).1
  rw [h1] at k1
  have ec : c = c0 := by
    have z := Option.some.inj k1
    injection z with z
    injection z with z1 z2
    injection z1
  subst ec
  exact ⟨c, cs, p, b, q, t, e, upd_off (ne_of_none g1 hr) h1, upd_off (ne_of_none g2 hr) h2, upd_off (ne_of_none g3 hr) h3, h4, h5, h6⟩
theorem nw_hid2 {d s r : Addr} {H H' : Hp} {o : HO} (h : Dr d s H) (hr : H r = some o) : Same (nw H H') (hid r (hid s H')) := fun b u e => by
  obtain ⟨e1, e2⟩ := nw_of e
  refine hid_to (hid_to e2 (h.ne e1)) fun z => ?_
  rw [z, hr] at e1
  cases e1
theorem same_step {H1 H4 : Hp} {D : Addr} {o : HO} (hn : H1 D = none) (k : Same H1 H4) : Same H1 (upd H4 D o) := fun b u e => upd_off (ne_of_none e hn) (k _ _ e)
theorem hid_step {s D : Addr} {H1 H4 : Hp} {o : HO} (hn : H1 D = none) (k : Same (hid s H1) (hid s H4)) : Same (hid s H1) (hid s (upd H4 D o)) := fun b u e => by
  obtain ⟨e1, e2⟩ := hid_of e
  obtain ⟨e3, _⟩ := hid_of (k _ _ e)
  exact hid_to (upd_off (ne_of_none e1 hn) e3) e2
/-! ## Draws -/
local macro_rules | `(tactic| mem_news) => `(tactic| first
  | assumption | exact Same.refl _
  | (with_reducible refine Same.trans ?_ (same_new (by assumption)); mem_news)
  | (with_reducible refine Same.trans ?_ (by assumption); mem_news)
  | (with_reducible refine Same.trans ?_ (hid_mono (same_new (by assumption))); mem_news)
  | (with_reducible refine Same.trans ?_ (hid_mono (by assumption)); mem_news)
  | (with_reducible refine same_step (by nest_room) ?_; mem_news)
  | (with_reducible refine hid_step (by nest_room) ?_; mem_news)
  | (with_reducible refine nw_wide0 ?_ ?_ <;> mem_news)
  | (with_reducible refine nw_wide (by assumption) ?_ ?_ <;> mem_news)
  | (with_reducible refine nw_hidw (by leaf_len) ?_; mem_news)
  | (with_reducible refine Same.trans nw_same ?_; mem_news)
  | (with_reducible refine Same.trans hid_same ?_; mem_news))
local macro_rules | `(tactic| leaf_len) => `(tactic| first | assumption | (refine Dr.same (by assumption) ?_; mem_news))
local macro_rules | `(tactic| nest_fact) => `(tactic| first | assumption | (refine Ne.symm ?_; assumption) | exact ne_dr (by assumption) (by leaf_len))
local macro_rules | `(tactic| nest_room) => `(tactic| first | assumption | (refine free2 (by assumption) ?_; mem_news) | (refine dead2 (by assumption) (by leaf_len) ?_; mem_news))
local macro_rules | `(tactic| kct_strs) => `(tactic| first
  | assumption | exact upd_same | (refine upd_off (by assumption) ?_; kct_strs) | (refine upd_keep (by assumption) ?_; kct_strs) | (refine sget (by assumption) ?_; kct_strs) | (refine hget (by assumption) (by nest_fact) ?_; kct_strs)
  | (refine nw_to (by nest_room) ?_; kct_strs) | (refine hid_to ?_ (by nest_fact); kct_strs))
local macro_rules | `(tactic| one_item) => `(tactic| first
  | assumption | exact At.non | exact At.bl _ | exact At.int _ | exact At.str _ | exact Ats.nil
  | (refine At.mono ?_ (by assumption); mem_news) | (refine Ats.mono ?_ (by assumption); mem_news)
  | (refine At.tup (by kct_strs) ?_; one_item) | (refine At.lst (by kct_strs) ?_; one_item)
  | (refine Ats.cons ?_ ?_ <;> one_item))
local macro_rules | `(tactic| kbj_are) => `(tactic| first
  | with_reducible refine Stp.go ?_
  | (with_reducible refine q_var ?_; with_reducible refine i_var (by with_unfolding_all rfl) ?_)
  | with_reducible refine i_blV ?_
  | (with_reducible refine q_isi ?_; with_reducible refine i_isiT (by assumption) ?_)
  | (with_reducible refine q_ixL ?_; with_reducible refine i_ixL (sqL (by kct_strs)) (by with_unfolding_all rfl) ?_)
  | (with_reducible refine q_ixT ?_; with_reducible refine i_ixT (sqT (by kct_strs)) (by with_unfolding_all rfl) ?_)
  | (with_reducible refine q_setL ?_; with_reducible refine i_setL (by kct_strs) (by with_unfolding_all rfl) ?_)
  | (with_reducible refine q_mul ?_; with_reducible refine i_mul (by first | exact cmul_r (by omega) (by omega) | exact cmul_l (by omega) (by omega)) ?_)
  | (with_reducible refine q_div ?_; with_reducible refine i_div (by exact cdiv (by omega) (by omega)) ?_)
  | (with_reducible refine q_mod ?_; with_reducible refine i_mod (by omega) ?_)
  | (with_reducible refine q_len ?_; first | with_reducible refine i_lenL (sqL (by kct_strs)) ?_ | with_reducible refine i_lenT (sqT (by kct_strs)) ?_)
  | (with_reducible refine q_app ?_; with_reducible refine i_app (by kct_strs) ?_)
  | (with_reducible refine q_pow ?_; with_reducible refine i_pow (by first | exact cpow10 (by omega) (by omega) | exact cpow2 (by omega) (by omega)) ?_)
  | (with_reducible refine q_shl ?_; with_reducible refine i_shl (by first | exact cpow1 (by omega) (by omega) | exact cpow2 (by omega) (by omega)) ?_)
  | (with_reducible refine q_seqG ?_; with_reducible refine i_seqG (by with_unfolding_all rfl) ?_)
  | (with_reducible refine q_aug ?_; with_reducible refine i_aug (by with_unfolding_all rfl) ?_)
  | (with_reducible refine q_gtup ?_; with_reducible refine i_gtup (sqT (by kct_strs)) (by with_unfolding_all rfl) ?_)
  | with_reducible refine i_disp1 (fun p hp => ?_)
  | (with_reducible refine q_sz ?_; with_reducible refine ⟨sz (by simp), fun p hp => ?_⟩))
local macro_rules | `(tactic| fold_lay) => `(tactic| repeat kbj_are)
local macro_rules | `(tactic| fold_depth) => `(tactic| (with_reducible refine i_seq ?_; fold_lay))
local macro_rules | `(tactic| kbj_rows) => `(tactic| repeat (first | kbj_are | with_reducible refine i_seq ?_))
/-! ### the promises of the draws -/
def sp_next_cell : Sp := fun vs H Q _ => ∃ (d s : Addr), vs = [.ref d] ∧ Dr d s H ∧ ∀ H', Dr d s H' → Same (hid s H) (hid s H') → Q .non H'
def sp_mixed : Sp := fun vs H Q _ => ∃ (e t m : Int), vs = [.int e, .int t, .int m] ∧ 0 < m ∧ ∀ v, 0 ≤ v → v < m → Q (.int v) H
/-- below 2 the draw is 0 -/
def sp_take : Sp := fun vs H Q _ => ∃ (d s : Addr) (m : Int), vs = [.ref d, .int m] ∧ Dr d s H ∧ m ≤ 10000000000000000000000000000000000000000000000000000000000000000000000 ∧
  ∀ v H', 0 ≤ v → (v < m ∨ v = 0) → Dr d s H' → Same (hid s H) (hid s H') → Q (.int v) H'
def N_l_next_cell : List Str := ["_law_draws_here", "_law_cells", "_law_state", "_law_cell"]
def t_l_next_cell (K : PySem.W.Frag) : TS := (tSeq (tAsg (tOp (rIxL K) (tVar 0) (tC (.int 0))) (gName 1))
  (tSeq (tAsg (tOp (rIxL K) (tVar 0) (tC (.int 1))) (gName 2))
  (tIfS (tTest (tOp oLt (tOp (rIxL K) (tVar 2) (tC (.int 0))) (tCB (rLen K) (tCons (tVar 1) tNil)))) (tSeq (tAsg (tCB rInt1 (tCons (tOp (rIxL K) (tVar 1) (tOp (rIxL K) (tVar 2) (tC (.int 0)))) tNil)) (gName 3))
  (tSeq (tAsg (tOp oAdd (tOp (rIxL K) (tVar 2) (tC (.int 0))) (tC (.int 1))) (gSub (tVar 2) (tC (.int 0)) rSetL))
  (tSeq (tAsg (tOp oMod (tCB rInt1 (tCons (tOp oAdd (tOp oAdd (tOp oMul (tOp (rIxL K) (tVar 2) (tC (.int 4))) (tC (.int 31))) (tOp oMod (tVar 3) (tC (.int 2147483647)))) (tC (.int 1))) tNil)) (tC (.int 2147483647))) (gSub (tVar 2) (tC (.int 4)) rSetL))
  (tIfS (tTest (tOp oGe (tVar 3) (tOp oPow (tC (.int 10)) (tC (.int 18))))) (tAsg (tVar 3) (gSub (tVar 2) (tC (.int 1)) rSetL)) (tAsg (tC (.int 2)) (gSub (tVar 2) (tC (.int 2)) rSetL)))))) tNext)))
theorem pure_next_cell {K : PySem.W.Frag} {vs : List V} {H : Hp} {Q : VK} {E : XK} (h : sp_next_cell vs H Q E) : t_l_next_cell K { nx := fun _ H' => Q .non H', rt := Q } (start N_l_next_cell vs) H := by
  obtain ⟨d, s, rfl, hD, k⟩ := h
  obtain ⟨c, cs, p, b, n, t, e, h1, h2, h3, h4, h5, h6, h7, h8⟩ := id hD
  have fin : ∀ (H' : Hp) (p' b' n' t' e' : Int), H' s = some (.lst [.int p', .int b', .int n', .int t', .int e']) → (∀ q, q ≠ s → H' q = H q) → 0 ≤ p' → 0 ≤ b' → Q .non H' := fun H' p' b' n' t' e' hs hk hp hb =>
    k H' ⟨c, cs, p', b', n', t', e', by rw [hk _ h4]; exact h1, by rw [hk _ h5]; exact h2, hs, h4, h5, hp, hb, h8⟩ fun q o hq => by
      obtain ⟨q1, q2⟩ := hid_of hq
      exact hid_to (by rw [hk _ q2]; exact q1) q2
  unfold t_l_next_cell
  fold_lay
  refine i_ifd (fun hlt => ?_) (fun hlt => ?_)
  · have hx : ∃ z, cs[p.toNat]? = some z := by
      rw [List.length_map] at hlt
      exact ⟨cs[p.toNat]'(by omega), List.getElem?_eq_getElem _⟩
    obtain ⟨z, hz⟩ := hx
    fold_lay
    refine i_ixL (sqL (by kct_strs)) (at_of (j := p.toNat) (by omega) (by rw [List.getElem?_map, hz]; rfl)) ?_
    fold_lay
    refine i_ifd (fun hge => ?_) (fun hge => ?_)
    · fold_lay
      refine fin _ (p + 1) z n t _ upd_same (fun q hq => by rw [upd_ne hq, upd_ne hq, upd_ne hq]) (by omega) ?_
      have : (0 : Int) ≤ 10 ^ (18 : Int).toNat := by decide
      omega
    · fold_lay
      exact fin _ (p + 1) b 2 t _ upd_same (fun q hq => by rw [upd_ne hq, upd_ne hq, upd_ne hq]) (by omega) h7
  · fold_lay
    exact fin _ p b n t e h3 (fun _ _ => rfl) h6 h7

def N_l_mixed : List Str := ["_law_seed", "_law_turn", "_law_many", "_law_value", "_law_k", "_law_first", "_law_second"]
def t_l_mixed (K : PySem.W.Frag) : TS := (tSeq (tAsg (tC (.int 0)) (gName 3))
  (tSeq (tFor (iRng1 (tCons (tC (.int 2)) tNil)) (gName 4) (tSeq (tAsg (tOp oMod (tCB rInt1 (tCons (tOp oMul (tOp oAdd (tOp oAdd (tVar 0) (tC (.int 7))) (tOp oMul (tOp oAdd (tOp oMul (tC (.int 2)) (tVar 1)) (tVar 4)) (tC (.int 1000003)))) (tC (.int 48271))) tNil)) (tC (.int 2147483647))) (gName 5))
  (tSeq (tAsg (tOp oMod (tCB rInt1 (tCons (tOp oAdd (tOp oAdd (tOp oMul (tVar 5) (tVar 5)) (tOp oMul (tOp oDiv (tVar 5) (tC (.int 3571))) (tC (.int 69621)))) (tVar 1)) tNil)) (tC (.int 2147483399))) (gName 6))
  (tAsg (tOp oAdd (tOp oMul (tVar 3) (tC (.int 126322553))) (tOp oDiv (tVar 6) (tC (.int 17)))) (gName 3)))))
  (tRet (tOp oMod (tCB rInt1 (tCons (tVar 3) tNil)) (tVar 2)))))
theorem pure_mixed {K : PySem.W.Frag} {vs : List V} {H : Hp} {Q : VK} {E : XK} (h : sp_mixed vs H Q E) : t_l_mixed K { nx := fun _ H' => Q .non H', rt := Q } (start N_l_mixed vs) H := by
  obtain ⟨e, t, m, rfl, hm, k⟩ := h
  unfold t_l_mixed
  fold_lay
  fold_depth
  refine f_rng1 (by omega) (by omega) (l_rng (fun i σ H' => H' = H ∧ ∃ (v : Int) (x1 x2 x3 : Option V), σ = [some (.int e), some (.int t), some (.int m), some (.int v), x1, x2, x3]) ⟨rfl, 0, none, none, none, rfl⟩ ?_ ?_)
  · rintro i σ H' hi ⟨rfl, v, x1, x2, x3, rfl⟩
    fold_lay
    exact ⟨rfl, _, _, _, _, rfl⟩
  · rintro σ H' ⟨rfl, v, x1, x2, x3, rfl⟩
    fold_lay
    exact k _ (Int.emod_nonneg _ (by omega)) (Int.emod_lt_of_pos _ hm)
theorem c_next_cell {d s : Addr} {H : Hp} {Q : VK} {E : XK} (hD : Dr d s H) (h : ∀ H', Dr d s H' → Same (hid s H) (hid s H') → Q .non H') : sp_next_cell [.ref d] H Q E := ⟨d, s, rfl, hD, h⟩
theorem c_take {d s : Addr} {m : Int} {H : Hp} {Q : VK} {E : XK} (hD : Dr d s H) (hm : m ≤ 10000000000000000000000000000000000000000000000000000000000000000000000) (h : ∀ v H', 0 ≤ v → (v < m ∨ v = 0) → Dr d s H' → Same (hid s H) (hid s H') → Q (.int v) H') : sp_take [.ref d, .int m] H Q E := ⟨d, s, m, rfl, hD, hm, h⟩
def N_l_take : List Str := ["_law_draws_here", "_law_many", "_law_state", "_law_value"]
def t_l_take (K : PySem.W.Frag) : TS := (tSeq (tIfS (tTest (tOp oLt (tVar 1) (tC (.int 2)))) (tRet (tC (.int 0))) tNext)
  (tSeq (tAsg (tOp (rIxL K) (tVar 0) (tC (.int 1))) (gName 2))
  (tSeq (tAsg (tOp oAdd (tOp (rIxL K) (tVar 2) (tC (.int 3))) (tC (.int 1))) (gSub (tVar 2) (tC (.int 3)) rSetL))
  (tSeq (tIfS (tAnd (tTest (tOp oLt (tOp (rIxL K) (tVar 2) (tC (.int 1))) (tC (.int 2)))) (tTest (tOp oLt (tOp (rIxL K) (tVar 2) (tC (.int 2))) (tC (.int 1))))) (tDrop (tCall sp_next_cell [] E0 (tCons (tVar 0) tNil))) tNext)
  (tSeq (tIfS (tTest (tOp oGt (tOp (rIxL K) (tVar 2) (tC (.int 1))) (tC (.int 1)))) (tSeq (tAsg (tOp oMod (tCB rInt1 (tCons (tOp (rIxL K) (tVar 2) (tC (.int 1))) tNil)) (tVar 1)) (gName 3))
  (tSeq (tAsg (tOp oDiv (tOp (rIxL K) (tVar 2) (tC (.int 1))) (tVar 1)) (gSub (tVar 2) (tC (.int 1)) rSetL))
  (tRet (tVar 3)))) tNext)
  (tSeq (tIfS (tTest (tOp oGt (tOp (rIxL K) (tVar 2) (tC (.int 2))) (tC (.int 0)))) (tAsg (tOp oSub (tOp (rIxL K) (tVar 2) (tC (.int 2))) (tC (.int 1))) (gSub (tVar 2) (tC (.int 2)) rSetL)) tNext)
  (tRet (tCall sp_mixed [] E0 (tCons (tOp (rIxL K) (tVar 2) (tC (.int 4))) (tCons (tOp (rIxL K) (tVar 2) (tC (.int 3))) (tCons (tVar 1) tNil)))))))))))
theorem pure_take {K : PySem.W.Frag} {vs : List V} {H : Hp} {Q : VK} {E : XK} (h : sp_take vs H Q E) : t_l_take K { nx := fun _ H' => Q .non H', rt := Q } (start N_l_take vs) H := by
  obtain ⟨d, s, m, rfl, hD, hm, k⟩ := h
  unfold t_l_take
  fold_depth
  refine i_ifd (fun h2 => ?_) (fun h2 => ?_)
  · fold_lay
    exact k 0 H (by omega) (.inr rfl) hD (Same.refl _)
  obtain ⟨c, cs, p, b, n, t, e, a1, a2, a3, a4, a5, a6, a7, a8⟩ := id hD
  have mk : ∀ (H' : Hp) (p' b' n' t' e' : Int), H' s = some (.lst [.int p', .int b', .int n', .int t', .int e']) → (∀ q, q ≠ s → H' q = H q) → 0 ≤ p' → 0 ≤ b' → Dr d s H' ∧ Same (hid s H) (hid s H') := fun H' p' b' n' t' e' hs hk hp hb =>
    ⟨⟨c, cs, p', b', n', t', e', by rw [hk _ a4]; exact a1, by rw [hk _ a5]; exact a2, hs, a4, a5, hp, hb, a8⟩, fun q o hq => by
      obtain ⟨q1, q2⟩ := hid_of hq
      exact hid_to (by rw [hk _ q2]; exact q1) q2⟩
  fold_lay
  refine i_cut (fun σ' H' => σ' = [some (.ref d), some (.int m), some (.ref s), none] ∧ Dr d s H' ∧ Same (hid s H) (hid s H')) ?_ (fun nx key => ?_)
  · rintro σ' H2 ⟨rfl, hD2, s2⟩
    obtain ⟨c, cs, p, b, n, t, e, b1, b2, b3, b4, b5, b6, b7, b8⟩ := id hD2
    fold_depth
    refine i_ifd (fun h3 => ?_) (fun h3 => ?_)
    · fold_lay
      refine k _ _ (Int.emod_nonneg _ (by omega)) (.inl (Int.emod_lt_of_pos _ (by omega))) ⟨c, cs, p, b / m, n, t, e, by kct_strs, by kct_strs, upd_same, b4, b5, b6, Int.ediv_nonneg b7 (by omega), b8⟩ ?_
      rw [hid_upd]
      exact s2
    fold_lay
    refine i_cut (fun σ' H' => σ' = [some (.ref d), some (.int m), some (.ref s), none] ∧ Dr d s H' ∧ Same (hid s H) (hid s H')) ?_ (fun nx key => ?_)
    · rintro σ' H3 ⟨rfl, hD3, s3⟩
      obtain ⟨c, cs, p, b, n, t, e, c1, c2, c3, c4, c5, c6, c7, c8⟩ := id hD3
      fold_lay
      exact ⟨_, _, _, rfl, by omega, fun v v0 v1 => k v H3 v0 (.inl v1) hD3 s3⟩
    · fold_lay
      refine i_ifd (fun h4 => ?_) (fun h4 => ?_)
      · fold_lay
        refine key _ _ ⟨rfl, ⟨c, cs, p, b, n - 1, t, e, by kct_strs, by kct_strs, upd_same, b4, b5, b6, b7, b8⟩, ?_⟩
        rw [hid_upd]
        exact s2
      · fold_lay
        exact key _ _ ⟨rfl, hD2, s2⟩
  · have mm := mk (upd H s (.lst [.int p, .int b, .int n, .int (t + 1), .int e])) p b n (t + 1) e upd_same (fun q hq => by rw [upd_ne hq]) a6 a7
    fold_lay
    refine i_ifd (fun h3 => ?_) (fun h3 => ?_)
    · fold_lay
      refine i_ifd (fun h4 => ?_) (fun h4 => ?_)
      · fold_lay
        exact c_next_cell mm.1 fun H' d1 d2 => key _ _ ⟨rfl, d1, mm.2.trans d2⟩
      · fold_lay
        exact key _ _ ⟨rfl, mm⟩
    · fold_lay
      exact key _ _ ⟨rfl, mm⟩
/-! ## Draws2 -/
/-! ### between, number, count, alignment, power, long -/
def sp_between : Sp := fun vs H Q _ => ∃ (d s : Addr) (lo hi : Int), vs = [.ref d, .int lo, .int hi] ∧ Dr d s H ∧ hi - lo ≤ 1000000000000000000000000000000000000000000000000000000000000000000000 ∧
  ∀ v H', lo ≤ v → (v ≤ hi ∨ v = lo) → Dr d s H' → Same (hid s H) (hid s H') → Q (.int v) H'
theorem c_between {d s : Addr} {lo hi : Int} {H : Hp} {Q : VK} {E : XK} (hD : Dr d s H) (hm : hi - lo ≤ 1000000000000000000000000000000000000000000000000000000000000000000000) (h : ∀ v H', lo ≤ v → (v ≤ hi ∨ v = lo) → Dr d s H' → Same (hid s H) (hid s H') → Q (.int v) H') : sp_between [.ref d, .int lo, .int hi] H Q E := ⟨d, s, lo, hi, rfl, hD, hm, h⟩
def N_l_between : List Str := ["_law_draws_here", "_law_low", "_law_high", "_law_kind"]
def t_l_between (K : PySem.W.Frag) : TS := (tSeq (tIfS (tTest (tOp oLe (tVar 2) (tVar 1))) (tRet (tVar 1)) tNext)
  (tSeq (tAsg (tCall sp_take [] E0 (tCons (tVar 0) (tCons (tC (.int 6)) tNil))) (gName 3))
  (tSeq (tIfS (tTest (tOp rEq (tVar 3) (tC (.int 0)))) (tRet (tVar 1)) tNext)
  (tSeq (tIfS (tTest (tOp rEq (tVar 3) (tC (.int 1)))) (tRet (tVar 2)) tNext)
  (tRet (tOp oAdd (tVar 1) (tCall sp_take [] E0 (tCons (tVar 0) (tCons (tOp oAdd (tOp oSub (tVar 2) (tVar 1)) (tC (.int 1))) tNil)))))))))
theorem pure_between {K : PySem.W.Frag} {vs : List V} {H : Hp} {Q : VK} {E : XK} (h : sp_between vs H Q E) : t_l_between K { nx := fun _ H' => Q .non H', rt := Q } (start N_l_between vs) H := by
  obtain ⟨d, s, lo, hi, rfl, hD, hm, k⟩ := h
  unfold t_l_between
  fold_depth
  refine i_ifd (fun h1 => ?_) (fun h1 => ?_)
  · fold_lay
    exact k _ _ (by omega) (.inr rfl) hD (Same.refl _)
  fold_lay
  refine c_take hD (by omega) fun v H1 v0 v1 hD1 s1 => ?_
  fold_lay; fold_depth
  refine i_ifd (fun h2 => ?_) (fun h2 => ?_)
  · fold_lay
    exact k _ _ (by omega) (.inr rfl) hD1 s1
  fold_lay; fold_depth
  refine i_ifd (fun h3 => ?_) (fun h3 => ?_)
  · fold_lay
    exact k _ _ (by omega) (.inl (by omega)) hD1 s1
  fold_lay
  refine c_take hD1 (by omega) fun w H2 w0 w1 hD2 s2 => ?_
  fold_lay
  exact k _ _ (by omega) (.inl (by omega)) hD2 (s1.trans s2)
def sp_alignment : Sp := fun vs H Q _ => ∃ (d s : Addr) (m : Int), vs = [.ref d, .int m] ∧ Dr d s H ∧ 0 ≤ m ∧ m ≤ 1000 ∧
  ∀ (k : Nat) H', (k : Int) ≤ m → Dr d s H' → Same (hid s H) (hid s H') → Q (.int (2 ^ k)) H'
theorem c_alignment {d s : Addr} {m : Int} {H : Hp} {Q : VK} {E : XK} (hD : Dr d s H) (h0 : 0 ≤ m) (h1 : m ≤ 1000) (h : ∀ (k : Nat) H', (k : Int) ≤ m → Dr d s H' → Same (hid s H) (hid s H') → Q (.int (2 ^ k)) H') : sp_alignment [.ref d, .int m] H Q E := ⟨d, s, m, rfl, hD, h0, h1, h⟩
theorem pow_succ2 (k : Nat) : (2 : Int) ^ k * 2 = 2 ^ (k + 1) := (Int.pow_succ 2 k).symm
def N_l_alignment : List Str := ["_law_draws_here", "_law_most", "_law_value", "_law_k"]
def t_l_alignment (K : PySem.W.Frag) : TS := (tSeq (tAsg (tC (.int 1)) (gName 2))
  (tSeq (tFor (iRng1 (tCons (tCall sp_between [] E0 (tCons (tVar 0) (tCons (tC (.int 0)) (tCons (tVar 1) tNil)))) tNil)) (gName 3) (tAsg (tOp oMul (tVar 2) (tC (.int 2))) (gName 2)))
  (tRet (tVar 2))))
theorem pure_alignment {K : PySem.W.Frag} {vs : List V} {H : Hp} {Q : VK} {E : XK} (h : sp_alignment vs H Q E) : t_l_alignment K { nx := fun _ H' => Q .non H', rt := Q } (start N_l_alignment vs) H := by
  obtain ⟨d, s, m, rfl, hD, h0, h1, k⟩ := h
  unfold t_l_alignment
  fold_lay; fold_depth
  refine c_between hD (by omega) fun v H1 v0 v1 hD1 s1 => ?_
  fold_lay
  refine f_rng1 (by omega) (by omega) (l_rng (fun i σ H' => H' = H1 ∧ ∃ x, σ = [some (.ref d), some (.int m), some (.int (2 ^ i)), x]) ⟨rfl, none, rfl⟩ ?_ ?_)
  · rintro i σ H' hi ⟨rfl, x, rfl⟩
    fold_lay
    rw [pow_succ2]
    exact ⟨rfl, _, rfl⟩
  · rintro σ H' ⟨rfl, x, rfl⟩
    fold_lay
    exact k _ _ (by omega) hD1 s1
def sp_power : Sp := fun vs H Q _ => ∃ (m : Int), vs = [.int m] ∧ 0 ≤ m ∧ m ≤ 100000 ∧ Q (.int (2 ^ m.toNat)) H
def N_l_power : List Str := ["_law_number_here", "_law_value", "_law_k"]
def t_l_power (K : PySem.W.Frag) : TS := (tSeq (tAsg (tC (.int 1)) (gName 1))
  (tSeq (tFor (iRng1 (tCons (tVar 0) tNil)) (gName 2) (tAsg (tOp oMul (tVar 1) (tC (.int 2))) (gName 1)))
  (tRet (tVar 1))))
theorem pure_power {K : PySem.W.Frag} {vs : List V} {H : Hp} {Q : VK} {E : XK} (h : sp_power vs H Q E) : t_l_power K { nx := fun _ H' => Q .non H', rt := Q } (start N_l_power vs) H := by
  obtain ⟨m, rfl, h0, h1, k⟩ := h
  unfold t_l_power
  fold_lay; fold_depth
  refine f_rng1 (by omega) (by omega) (l_rng (fun i σ H' => H' = H ∧ ∃ x, σ = [some (.int m), some (.int (2 ^ i)), x]) ⟨rfl, none, rfl⟩ ?_ ?_)
  · rintro i σ H' hi ⟨rfl, x, rfl⟩
    fold_lay
    rw [pow_succ2]
    exact ⟨rfl, _, rfl⟩
  · rintro σ H' ⟨rfl, x, rfl⟩
    fold_lay
    exact k
def sp_number : Sp := fun vs H Q _ => ∃ (d s : Addr) (lo hi : Int), vs = [.ref d, .int lo, .int hi] ∧ Dr d s H ∧ lo ≤ hi ∧ hi - lo ≤ 100000000000000000000000000000000000000000000000000000000000000000000 ∧
  ∀ v H', lo ≤ v → v ≤ hi → Dr d s H' → Same (hid s H) (hid s H') → Q (.int v) H'
theorem c_number {d s : Addr} {lo hi : Int} {H : Hp} {Q : VK} {E : XK} (hD : Dr d s H) (hl : lo ≤ hi) (hm : hi - lo ≤ 100000000000000000000000000000000000000000000000000000000000000000000) (h : ∀ v H', lo ≤ v → v ≤ hi → Dr d s H' → Same (hid s H) (hid s H') → Q (.int v) H') : sp_number [.ref d, .int lo, .int hi] H Q E := ⟨d, s, lo, hi, rfl, hD, hl, hm, h⟩
theorem two_pow_pos (k : Nat) : (0 : Int) < 2 ^ k := Int.pow_pos (by decide)
def N_l_number : List Str := ["_law_draws_here", "_law_low", "_law_high", "_law_kind"]
def t_l_number (K : PySem.W.Frag) : TS := (tSeq (tIfS (tTest (tOp oLt (tOp oSub (tVar 2) (tVar 1)) (tC (.int 16)))) (tRet (tCall sp_between [] E0 (tCons (tVar 0) (tCons (tVar 1) (tCons (tVar 2) tNil))))) tNext)
  (tSeq (tAsg (tCall sp_take [] E0 (tCons (tVar 0) (tCons (tC (.int 8)) tNil))) (gName 3))
  (tSeq (tIfS (tTest (tOp oLt (tVar 3) (tC (.int 4)))) (tRet (tOp (rIxL K) (tLst (tCons (tVar 1) (tCons (tVar 2) (tCons (tOp oAdd (tVar 1) (tC (.int 1))) (tCons (tOp oSub (tVar 2) (tC (.int 1))) tNil))))) (tVar 3))) tNext)
  (tSeq (tIfS (tTest (tOp oLt (tVar 3) (tC (.int 6)))) (tRet (tOp oAdd (tVar 1) (tCall sp_take [] E0 (tCons (tVar 0) (tCons (tOp oAdd (tCB rMin2 (tCons (tOp oSub (tVar 2) (tVar 1)) (tCons (tC (.int 40)) tNil))) (tC (.int 1))) tNil))))) tNext)
  (tSeq (tIfS (tTest (tOp rEq (tVar 3) (tC (.int 6)))) (tRet (tCB rMax2 (tCons (tVar 1) (tCons (tCB rMin2 (tCons (tVar 2) (tCons (tOp oSub (tOp oAdd (tCall sp_alignment [] E0 (tCons (tVar 0) (tCons (tC (.int 30)) tNil))) (tCall sp_take [] E0 (tCons (tVar 0) (tCons (tC (.int 3)) tNil)))) (tC (.int 1))) tNil))) tNil)))) tNext)
  (tRet (tOp oAdd (tVar 1) (tCall sp_take [] E0 (tCons (tVar 0) (tCons (tOp oAdd (tOp oSub (tVar 2) (tVar 1)) (tC (.int 1))) tNil))))))))))
theorem pure_number {K : PySem.W.Frag} {vs : List V} {H : Hp} {Q : VK} {E : XK} (h : sp_number vs H Q E) : t_l_number K { nx := fun _ H' => Q .non H', rt := Q } (start N_l_number vs) H := by
  obtain ⟨d, s, lo, hi, rfl, hD, hl, hm, k⟩ := h
  unfold t_l_number
  fold_depth
  refine i_ifd (fun h1 => ?_) (fun h1 => ?_)
  · fold_lay
    exact c_between hD (by omega) fun v H1 v0 v1 hD1 s1 => k _ _ v0 (by omega) hD1 s1
  fold_lay
  refine c_take hD (by omega) fun v H1 v0 v1 hD1 s1 => ?_
  fold_lay; fold_depth
  refine i_ifd (fun h2 => ?_) (fun h2 => ?_)
  · fold_lay
    rename_i p hp
    have fin : ∀ x, lo ≤ x → x ≤ hi → Q (.int x) (upd H1 p (.lst [.int lo, .int hi, .int (lo + 1), .int (hi - 1)])) := fun x x0 x1 => k _ _ x0 x1 (hD1.same (same_new hp)) (s1.trans (hid_mono (same_new hp)))
    have hv : v = 0 ∨ v = 1 ∨ v = 2 ∨ v = 3 := by omega
    rcases hv with rfl | rfl | rfl | rfl
    · fold_lay; exact fin _ (by omega) (by omega)
    · fold_lay; exact fin _ (by omega) (by omega)
    · fold_lay; exact fin _ (by omega) (by omega)
    · fold_lay; exact fin _ (by omega) (by omega)
  fold_lay; fold_depth
  refine i_ifd (fun h3 => ?_) (fun h3 => ?_)
  · fold_lay
    refine c_take hD1 (by split <;> omega) fun w H2 w0 w1 hD2 s2 => ?_
    fold_lay
    refine k _ _ (by omega) ?_ hD2 (s1.trans s2)
    split at w1 <;> omega
  fold_lay; fold_depth
  refine i_ifd (fun h4 => ?_) (fun h4 => ?_)
  · fold_lay
    refine c_alignment hD1 (by omega) (by omega) fun j H2 j1 hD2 s2 => ?_
    fold_lay
    refine c_take hD2 (by omega) fun w H3 w0 w1 hD3 s3 => ?_
    fold_lay
    have hp := two_pow_pos j
    generalize (2 : Int) ^ j = z at hp
    refine k _ _ ?_ ?_ hD3 ((s1.trans s2).trans s3)
    · split
      · omega
      · omega
    · split
      · split <;> omega
      · omega
  fold_lay
  refine c_take hD1 (by omega) fun w H2 w0 w1 hD2 s2 => ?_
  fold_lay
  exact k _ _ (by omega) (by omega) hD2 (s1.trans s2)
def sp_count : Sp := fun vs H Q _ => ∃ (d s : Addr) (lo hi : Int), vs = [.ref d, .int lo, .int hi] ∧ Dr d s H ∧ 0 ≤ lo ∧ lo ≤ hi ∧ hi ≤ 100000000000000000000000000000000000000000000000000000000000000000000 ∧
  ∀ v H', 0 ≤ v → v ≤ hi → Dr d s H' → Same (hid s H) (hid s H') → Q (.int v) H'
theorem c_count {d s : Addr} {lo hi : Int} {H : Hp} {Q : VK} {E : XK} (hD : Dr d s H) (h0 : 0 ≤ lo) (hl : lo ≤ hi) (hm : hi ≤ 100000000000000000000000000000000000000000000000000000000000000000000) (h : ∀ v H', 0 ≤ v → v ≤ hi → Dr d s H' → Same (hid s H) (hid s H') → Q (.int v) H') : sp_count [.ref d, .int lo, .int hi] H Q E := ⟨d, s, lo, hi, rfl, hD, h0, hl, hm, h⟩
def N_l_count : List Str := ["_law_draws_here", "_law_small", "_law_great"]
def t_l_count (K : PySem.W.Frag) : TS := (tSeq (tIfS (tTest (tOp rEq (tCall sp_take [] E0 (tCons (tVar 0) (tCons (tC (.int 8)) tNil))) (tC (.int 7)))) (tRet (tCall sp_between [] E0 (tCons (tVar 0) (tCons (tVar 1) (tCons (tVar 2) tNil))))) tNext)
  (tRet (tCall sp_between [] E0 (tCons (tVar 0) (tCons (tC (.int 0)) (tCons (tVar 1) tNil))))))
theorem pure_count {K : PySem.W.Frag} {vs : List V} {H : Hp} {Q : VK} {E : XK} (h : sp_count vs H Q E) : t_l_count K { nx := fun _ H' => Q .non H', rt := Q } (start N_l_count vs) H := by
  obtain ⟨d, s, lo, hi, rfl, hD, h0, hl, hm, k⟩ := h
  unfold t_l_count
  fold_depth
  refine c_take hD (by omega) fun v H1 v0 v1 hD1 s1 => ?_
  fold_lay
  refine i_ifd (fun h1 => ?_) (fun h1 => ?_)
  · fold_lay
    exact c_between hD1 (by omega) fun v H2 v0 v1 hD2 s2 => k _ _ (by omega) (by omega) hD2 (s1.trans s2)
  · fold_lay
    exact c_between hD1 (by omega) fun v H2 v0 v1 hD2 s2 => k _ _ (by omega) (by omega) hD2 (s1.trans s2)
/-! ## Draws3 -/
/-! ### what is out of a range -/
def lng : Int := 10 ^ 999
theorem lng_big : 10000000000000000000000000000000000000000000000000000000000000000000000 < lng := by decide +kernel
theorem ten_lt (n : Nat) : ((10 : Int) ^ n).natAbs < 2 ^ (4 * n + 1) := by
  rw [Int.natAbs_pow]
  have h : (10 : Int).natAbs ^ n ≤ (2 ^ 4) ^ n := Nat.pow_le_pow_left (by decide) n
  rw [← Nat.pow_mul] at h
  exact Nat.lt_of_le_of_lt h (Nat.pow_lt_pow_right (by decide) (by omega))
def sp_long : Sp := fun vs H Q _ => vs = [] ∧ Q (.int lng) H
def N_l_long : List Str := ["_law_value", "_law_k"]
def t_l_long (K : PySem.W.Frag) : TS := (tSeq (tAsg (tOp oPow (tC (.int 10)) (tC (.int 39))) (gName 0))
  (tSeq (tFor (iRng1 (tCons (tC (.int 15)) tNil)) (gName 1) (tAsg (tOp oMulW (tVar 0) (tOp oPow (tC (.int 10)) (tC (.int 64)))) (gName 0)))
  (tRet (tVar 0))))
theorem pure_long {K : PySem.W.Frag} {vs : List V} {H : Hp} {Q : VK} {E : XK} (h : sp_long vs H Q E) : t_l_long K { nx := fun _ H' => Q .non H', rt := Q } (start N_l_long vs) H := by
  obtain ⟨rfl, k⟩ := h
  unfold t_l_long
  fold_lay; fold_depth
  refine f_rng1 (by omega) (by omega) (l_rng (fun i σ H' => H' = H ∧ ∃ x, σ = [some (.int (10 ^ (39 + 64 * i))), x]) ⟨rfl, none, rfl⟩ ?_ ?_)
  · rintro i σ H' hi ⟨rfl, x, rfl⟩
    have hi : i < 15 := hi
    fold_lay
    refine i_mulW (wide_mul (ten_lt _) (ten_lt _) (by omega) (by omega) ?_) ?_
    · show 4 * (39 + 64 * i) + 1 + (4 * 64 + 1) ≤ 1000000
      omega
    · fold_lay
      refine ⟨rfl, some (.int (0 + (i : Int))), ?_⟩
      have e : (10 : Int) ^ (39 + 64 * i) * 10 ^ (64 : Int).toNat = 10 ^ (39 + 64 * (i + 1)) := by
        rw [← Int.pow_add]
        rfl
      rw [e]
      rfl
  · rintro σ H' ⟨rfl, x, rfl⟩
    fold_lay
    exact k
def sp_not_integer : Sp := fun vs H Q _ => ∃ (d s : Addr), vs = [.ref d] ∧ Dr d s H ∧
  ∀ v dt H', At (nw H H') v dt → dt.isI = false → (dt.dep ≤ 1 ∧ dt.okd = true) → Dr d s H' → Same (hid s H) (hid s H') → Q v H'
theorem c_not_integer {d s : Addr} {H : Hp} {Q : VK} {E : XK} (hD : Dr d s H) (h : ∀ v dt H', At (nw H H') v dt → dt.isI = false → (dt.dep ≤ 1 ∧ dt.okd = true) → Dr d s H' → Same (hid s H) (hid s H') → Q v H') : sp_not_integer [.ref d] H Q E := ⟨d, s, rfl, hD, h⟩
def N_l_not_integer : List Str := ["_law_draws_here"]
def t_l_not_integer (K : PySem.W.Frag) : TS := (tRet (tOp (rIxL K) (tLst (tCons (tC (.bl true)) (tCons (tC (.bl false)) (tCons (tC .non) (tCons (tC (.str "")) (tCons (tC (.str "1")) (tCons (tC (.str "0")) (tCons (tLst tNil) (tCons (tTup tNil) (tCons (tLst (tCons (tC (.int 1)) tNil)) (tCons (tTup (tCons (tC (.int 0)) tNil)) (tCons (tDisp [((tC (.str "a")), (tC (.int 1)))]) tNil)))))))))))) (tCall sp_take [] E0 (tCons (tVar 0) (tCons (tC (.int 11)) tNil)))))
theorem pure_not_integer {K : PySem.W.Frag} {vs : List V} {H : Hp} {Q : VK} {E : XK} (h : sp_not_integer vs H Q E) : t_l_not_integer K { nx := fun _ H' => Q .non H', rt := Q } (start N_l_not_integer vs) H := by
  obtain ⟨d, s, rfl, hD, k⟩ := h
  unfold t_l_not_integer
  fold_lay
  rename_i p1 h1 p2 h2 p3 h3 p4 h4 p5 h5 p6 h6
  have s1 := same_new (o := .lst []) h1
  have s2 := s1.trans (same_new (o := .tup []) h2)
  have s3 := s2.trans (same_new (o := .lst [.int 1]) h3)
  have s4 := s3.trans (same_new (o := .tup [.int 0]) h4)
  have s5 := s4.trans (same_new (o := .dK [(Sum.inr "a", .int 1)]) h5)
  have n1 := hD.ne h1
  have n2 := (hD.same s1).ne h2
  have n3 := (hD.same s2).ne h3
  have n4 := (hD.same s3).ne h4
  have n5 := (hD.same s4).ne h5
  have s6 := s5.trans (same_new (o := .lst [.bl true, .bl false, .non, .str "", .str "1", .str "0", .ref p1, .ref p2, .ref p3, .ref p4, .ref p5]) h6)
  refine c_take (hD.same s6) (by omega) fun v H7 v0 v1 hD7 s7 => ?_
  have st : Same (hid s H) (hid s H7) := (hid_mono s6).trans s7
  have kp0 : ∀ q o, upd (upd (upd (upd (upd (upd H p1 (.lst [])) p2 (.tup [])) p3 (.lst [.int 1])) p4 (.tup [.int 0])) p5 (.dK [(Sum.inr "a", .int 1)])) p6 (.lst [.bl true, .bl false, .non, .str "", .str "1", .str "0", .ref p1, .ref p2, .ref p3, .ref p4, .ref p5]) q = some o → q ≠ s → hid s H7 q = some o := fun q o hq nq => s7 _ _ (hid_to hq nq)
  have kp : ∀ q o, upd (upd (upd (upd (upd (upd H p1 (.lst [])) p2 (.tup [])) p3 (.lst [.int 1])) p4 (.tup [.int 0])) p5 (.dK [(Sum.inr "a", .int 1)])) p6 (.lst [.bl true, .bl false, .non, .str "", .str "1", .str "0", .ref p1, .ref p2, .ref p3, .ref p4, .ref p5]) q = some o → q ≠ s → H q = none → nw H H7 q = some o := fun q o hq nq hn => nw_to hn (hid_same _ _ (kp0 q o hq nq))
  have a6 : H7 p6 = some (.lst [.bl true, .bl false, .non, .str "", .str "1", .str "0", .ref p1, .ref p2, .ref p3, .ref p4, .ref p5]) := hid_same _ _ (kp0 p6 _ upd_same ((hD.same s5).ne h6))
  have hv : v = 0 ∨ v = 1 ∨ v = 2 ∨ v = 3 ∨ v = 4 ∨ v = 5 ∨ v = 6 ∨ v = 7 ∨ v = 8 ∨ v = 9 ∨ v = 10 := by omega
  rcases hv with rfl | rfl | rfl | rfl | rfl | rfl | rfl | rfl | rfl | rfl | rfl
  · fold_lay; exact k _ _ _ (.bl true) rfl ⟨by decide, by decide⟩ hD7 st
  · fold_lay; exact k _ _ _ (.bl false) rfl ⟨by decide, by decide⟩ hD7 st
  · fold_lay; exact k _ _ _ .non rfl ⟨by decide, by decide⟩ hD7 st
  · fold_lay; exact k _ _ _ (.str _) rfl ⟨by decide, by decide⟩ hD7 st
  · fold_lay; exact k _ _ _ (.str _) rfl ⟨by decide, by decide⟩ hD7 st
  · fold_lay; exact k _ _ _ (.str _) rfl ⟨by decide, by decide⟩ hD7 st
  · fold_lay; exact k _ _ _ (.lst (kp p1 _ (by kct_strs) n1 (h1)) .nil) rfl ⟨by decide, by decide⟩ hD7 st
  · fold_lay; exact k _ _ _ (.tup (kp p2 _ (by kct_strs) n2 (s1.free h2)) .nil) rfl ⟨by decide, by decide⟩ hD7 st
  · fold_lay; exact k _ _ _ (.lst (kp p3 _ (by kct_strs) n3 (s2.free h3)) (.cons (.int 1) .nil)) rfl ⟨by decide, by decide⟩ hD7 st
  · fold_lay; exact k _ _ _ (.tup (kp p4 _ (by kct_strs) n4 (s3.free h4)) (.cons (.int 0) .nil)) rfl ⟨by decide, by decide⟩ hD7 st
  · fold_lay; exact k _ _ _ (.dic (kp p5 _ (by kct_strs) n5 (s4.free h5)) (.cons (.int 1) .nil)) rfl ⟨by decide, by decide⟩ hD7 st

def sp_not_within : Sp := fun vs H Q _ => ∃ (d s : Addr) (lo hi : Int), vs = [.ref d, .int lo, .int hi] ∧ Dr d s H ∧ -1000000000000 ≤ lo ∧ lo ≤ hi ∧ hi ≤ 1000000000000 ∧
  ∀ v dt H', At (nw H H') v dt → ¬ dt.inR lo hi → (dt.dep ≤ 1 ∧ dt.okd = true) → Dr d s H' → Same (hid s H) (hid s H') → Q v H'
theorem c_not_within {d s : Addr} {lo hi : Int} {H : Hp} {Q : VK} {E : XK} (hD : Dr d s H) (h1 : -1000000000000 ≤ lo) (h2 : lo ≤ hi) (h3 : hi ≤ 1000000000000)
    (h : ∀ v dt H', At (nw H H') v dt → ¬ dt.inR lo hi → (dt.dep ≤ 1 ∧ dt.okd = true) → Dr d s H' → Same (hid s H) (hid s H') → Q v H') : sp_not_within [.ref d, .int lo, .int hi] H Q E := ⟨d, s, lo, hi, rfl, hD, h1, h2, h3, h⟩
theorem out_int {i lo hi : Int} (h : i < lo ∨ hi < i) : ¬ (Dt.int i).inR lo hi := fun z => by
  obtain ⟨z1, z2⟩ := z
  omega
theorem ten30 : (10 : Int) ^ (30 : Int).toNat = 1000000000000000000000000000000 := by decide +kernel
def N_l_not_within : List Str := ["_law_draws_here", "_law_low", "_law_high", "_law_kind"]
def t_l_not_within (K : PySem.W.Frag) : TS := (tSeq (tAsg (tCall sp_take [] E0 (tCons (tVar 0) (tCons (tC (.int 7)) tNil))) (gName 3))
  (tSeq (tIfS (tTest (tOp oLt (tVar 3) (tC (.int 2)))) (tRet (tOp (rIxL K) (tLst (tCons (tOp oSub (tVar 1) (tC (.int 1))) (tCons (tOp oAdd (tVar 2) (tC (.int 1))) tNil))) (tVar 3))) tNext)
  (tSeq (tIfS (tTest (tOp rEq (tVar 3) (tC (.int 2)))) (tRet (tOp oAdd (tOp oAdd (tVar 2) (tC (.int 1))) (tCall sp_take [] E0 (tCons (tVar 0) (tCons (tOp oPow (tC (.int 10)) (tC (.int 30))) tNil))))) tNext)
  (tSeq (tIfS (tTest (tOp rEq (tVar 3) (tC (.int 3)))) (tRet (tOp oSub (tOp oSub (tVar 1) (tC (.int 1))) (tCall sp_take [] E0 (tCons (tVar 0) (tCons (tOp oPow (tC (.int 10)) (tC (.int 30))) tNil))))) tNext)
  (tSeq (tIfS (tTest (tOp rEq (tVar 3) (tC (.int 4)))) (tRet (tOp (rIxL K) (tLst (tCons (tCall sp_long [] E0 tNil) (tCons (tUn oNeg (tCall sp_long [] E0 tNil)) tNil))) (tCall sp_take [] E0 (tCons (tVar 0) (tCons (tC (.int 2)) tNil))))) tNext)
  (tRet (tCall sp_not_integer [] E0 (tCons (tVar 0) tNil))))))))
theorem pure_not_within {K : PySem.W.Frag} {vs : List V} {H : Hp} {Q : VK} {E : XK} (h : sp_not_within vs H Q E) : t_l_not_within K { nx := fun _ H' => Q .non H', rt := Q } (start N_l_not_within vs) H := by
  obtain ⟨d, s, lo, hi, rfl, hD, b1, b2, b3, k⟩ := h
  have kI : ∀ (i : Int) H', (i < lo ∨ hi < i) → Dr d s H' → Same (hid s H) (hid s H') → Q (.int i) H' := fun i H' hi' hD' hs' => k _ (.int i) _ (.int i) (out_int hi') ⟨Nat.zero_le _, rfl⟩ hD' hs'
  unfold t_l_not_within
  fold_lay
  refine c_take hD (by omega) fun v H1 v0 v1 hD1 s1 => ?_
  fold_lay; fold_depth
  refine i_ifd (fun h2 => ?_) (fun h2 => ?_)
  · fold_lay
    rename_i p hp
    have st : Same (hid s H) (hid s (upd H1 p (.lst [.int (lo - 1), .int (hi + 1)]))) := s1.trans (hid_mono (same_new hp))
    have dt := hD1.same (same_new (o := .lst [.int (lo - 1), .int (hi + 1)]) hp)
    have hv : v = 0 ∨ v = 1 := by omega
    rcases hv with rfl | rfl
    · fold_lay; exact kI _ _ (by omega) dt st
    · fold_lay; exact kI _ _ (by omega) dt st
  fold_lay; fold_depth
  refine i_ifd (fun h3 => ?_) (fun h3 => ?_)
  · fold_lay
    rw [ten30]
    refine c_take hD1 (by omega) fun w H2 w0 w1 hD2 s2 => ?_
    fold_lay
    exact kI _ _ (by omega) hD2 (s1.trans s2)
  fold_lay; fold_depth
  refine i_ifd (fun h4 => ?_) (fun h4 => ?_)
  · fold_lay
    rw [ten30]
    refine c_take hD1 (by omega) fun w H2 w0 w1 hD2 s2 => ?_
    fold_lay
    exact kI _ _ (by omega) hD2 (s1.trans s2)
  fold_lay; fold_depth
  refine i_ifd (fun h5 => ?_) (fun h5 => ?_)
  · fold_lay
    refine ⟨rfl, ?_⟩
    fold_lay
    refine ⟨rfl, ?_⟩
    fold_lay
    rename_i p hp
    have hb := lng_big
    generalize lng = z at hb
    have st : Same (hid s H) (hid s (upd H1 p (.lst [.int z, .int (-z)]))) := s1.trans (hid_mono (same_new hp))
    have dt := hD1.same (same_new (o := .lst [.int z, .int (-z)]) hp)
    refine c_take dt (by omega) fun w H2 w0 w1 hD2 s2 => ?_
    have a2 : H2 p = some (.lst [.int z, .int (-z)]) := hid_same _ _ (s2 _ _ (hid_to upd_same (hD1.ne hp)))
    have hv : w = 0 ∨ w = 1 := by omega
    rcases hv with rfl | rfl
    · fold_lay; exact kI _ _ (by omega) hD2 (st.trans s2)
    · fold_lay; exact kI _ _ (by omega) hD2 (st.trans s2)
  fold_lay
  exact c_not_integer hD1 fun v dt H2 a1 a2 a3 hD2 s2 => k _ _ _ (a1.mono (nw_old (alive hD1 s1))) (Dt.inR_of a2 _ _) a3 hD2 (s1.trans s2)
def sp_among (K : PySem.W.Frag) : Sp := fun vs H Q _ => ∃ (d s r : Addr) (xs : List V), vs = [.ref d, .ref r] ∧ Dr d s H ∧ H r = some (.lst xs) ∧ r ≠ s ∧ 0 < xs.length ∧ xs.length ≤ 100000 ∧
  ∀ v H', v ∈ xs → Dr d s H' → Same (hid s H) (hid s H') → Q v H'
theorem c_among {K : PySem.W.Frag} {d s r : Addr} {xs : List V} {H : Hp} {Q : VK} {E : XK} (hD : Dr d s H) (hr : H r = some (.lst xs)) (n : r ≠ s) (h0 : 0 < xs.length) (h1 : xs.length ≤ 100000)
    (h : ∀ v H', v ∈ xs → Dr d s H' → Same (hid s H) (hid s H') → Q v H') : sp_among K [.ref d, .ref r] H Q E := ⟨d, s, r, xs, rfl, hD, hr, n, h0, h1, h⟩
def N_l_among : List Str := ["_law_draws_here", "_law_row"]
def t_l_among (K : PySem.W.Frag) : TS := (tRet (tOp (rIxL K) (tVar 1) (tCall sp_take [] E0 (tCons (tVar 0) (tCons (tCB (rLen K) (tCons (tVar 1) tNil)) tNil)))))
theorem pure_among {K : PySem.W.Frag} {vs : List V} {H : Hp} {Q : VK} {E : XK} (h : sp_among K vs H Q E) : t_l_among K { nx := fun _ H' => Q .non H', rt := Q } (start N_l_among vs) H := by
  obtain ⟨d, s, r, xs, rfl, hD, hr, n, h0, h1, k⟩ := h
  unfold t_l_among
  fold_lay
  refine c_take hD (by omega) fun v H1 v0 v1 hD1 s1 => ?_
  have a1 : H1 r = some (.lst xs) := hid_same _ _ (s1 _ _ (hid_to hr n))
  refine i_amongL (sqL a1) v0 (by omega) (fun w hw => ?_)
  exact k _ _ (List.mem_of_getElem? hw) hD1 s1
def sp_not_alignment : Sp := fun vs H Q _ => ∃ (d s : Addr) (m : Int), vs = [.ref d, .int m] ∧ Dr d s H ∧ 1 ≤ m ∧ m ≤ 1000000000000 ∧
  ∀ v dt H', At (nw H H') v dt → ¬ dt.isAl m → (dt.dep ≤ 1 ∧ dt.okd = true) → Dr d s H' → Same (hid s H) (hid s H') → Q v H'
theorem c_not_alignment {d s : Addr} {m : Int} {H : Hp} {Q : VK} {E : XK} (hD : Dr d s H) (h1 : 1 ≤ m) (h2 : m ≤ 1000000000000)
    (h : ∀ v dt H', At (nw H H') v dt → ¬ dt.isAl m → (dt.dep ≤ 1 ∧ dt.okd = true) → Dr d s H' → Same (hid s H) (hid s H') → Q v H') : sp_not_alignment [.ref d, .int m] H Q E := ⟨d, s, m, rfl, hD, h1, h2, h⟩
theorem al_int {i m : Int} (h : i < 1 ∨ m < i) : ¬ (Dt.int i).isAl m := fun z => by
  obtain ⟨⟨k, z1⟩, z2⟩ := z
  have := two_pow_pos k
  omega
theorem al_odd {i m : Int} (h : i % 2 = 1) (h1 : i ≠ 1) : ¬ (Dt.int i).isAl m := fun z => by
  obtain ⟨⟨k, z1⟩, z2⟩ := z
  cases k with
  | zero => exact h1 z1
  | succ k =>
    rw [Int.pow_succ] at z1
    omega
theorem al_half {i m : Int} (h : ¬ (Dt.int i).isAl m) (h0 : 1 ≤ i) : ¬ (Dt.int (2 * i)).isAl m := fun z => by
  obtain ⟨⟨k, z1⟩, z2⟩ := z
  cases k with
  | zero => simp at z1; omega
  | succ k =>
    rw [Int.pow_succ] at z1
    exact h ⟨⟨k, by omega⟩, by omega⟩
def N_l_not_alignment : List Str := ["_law_draws_here", "_law_most", "_law_kind"]
def t_l_not_alignment (K : PySem.W.Frag) : TS := (tSeq (tAsg (tCall sp_take [] E0 (tCons (tVar 0) (tCons (tC (.int 8)) tNil))) (gName 2))
  (tSeq (tIfS (tTest (tOp oLt (tVar 2) (tC (.int 6)))) (tRet (tOp (rIxL K) (tLst (tCons (tC (.int 0)) (tCons (tUn oNeg (tC (.int 1))) (tCons (tUn oNeg (tC (.int 2))) (tCons (tC (.int 3)) (tCons (tOp oAdd (tVar 1) (tVar 1)) (tCons (tOp oAdd (tOp oAdd (tVar 1) (tVar 1)) (tC (.int 1))) tNil))))))) (tVar 2))) tNext)
  (tSeq (tIfS (tTest (tOp rEq (tVar 2) (tC (.int 6)))) (tRet (tCall (sp_among K) [] E0 (tCons (tVar 0) (tCons (tLst (tCons (tC (.int 6)) (tCons (tC (.int 12)) (tCons (tOp oPow (tC (.int 10)) (tC (.int 30))) (tCons (tCall sp_long [] E0 tNil) (tCons (tUn oNeg (tVar 1)) (tCons (tOp oMul (tVar 1) (tC (.int 3))) tNil))))))) tNil)))) tNext)
  (tRet (tCall sp_not_integer [] E0 (tCons (tVar 0) tNil))))))
theorem pure_not_alignment {K : PySem.W.Frag} {vs : List V} {H : Hp} {Q : VK} {E : XK} (h : sp_not_alignment vs H Q E) : t_l_not_alignment K { nx := fun _ H' => Q .non H', rt := Q } (start N_l_not_alignment vs) H := by
  obtain ⟨d, s, m, rfl, hD, b1, b2, k⟩ := h
  have kI : ∀ (i : Int) H', ¬ (Dt.int i).isAl m → Dr d s H' → Same (hid s H) (hid s H') → Q (.int i) H' := fun i H' hi' hD' hs' => k _ (.int i) _ (.int i) hi' ⟨Nat.zero_le _, rfl⟩ hD' hs'
  unfold t_l_not_alignment
  fold_lay
  refine c_take hD (by omega) fun v H1 v0 v1 hD1 s1 => ?_
  fold_lay; fold_depth
  refine i_ifd (fun h2 => ?_) (fun h2 => ?_)
  · fold_lay
    rename_i p hp
    have st : Same (hid s H) (hid s (upd H1 p (.lst [.int 0, .int (-1), .int (-2), .int 3, .int (m + m), .int (m + m + 1)]))) := s1.trans (hid_mono (same_new hp))
    have dt := hD1.same (same_new (o := .lst [.int 0, .int (-1), .int (-2), .int 3, .int (m + m), .int (m + m + 1)]) hp)
    have hv : v = 0 ∨ v = 1 ∨ v = 2 ∨ v = 3 ∨ v = 4 ∨ v = 5 := by omega
    rcases hv with rfl | rfl | rfl | rfl | rfl | rfl
    · fold_lay; exact kI _ _ (al_int (by omega)) dt st
    · fold_lay; exact kI _ _ (al_int (by omega)) dt st
    · fold_lay; exact kI _ _ (al_int (by omega)) dt st
    · fold_lay; exact kI _ _ (al_odd (by decide) (by decide)) dt st
    · fold_lay; exact kI _ _ (al_int (by omega)) dt st
    · fold_lay; exact kI _ _ (al_int (by omega)) dt st
  fold_lay; fold_depth
  refine i_ifd (fun h3 => ?_) (fun h3 => ?_)
  · fold_lay
    refine ⟨rfl, ?_⟩
    fold_lay
    rename_i p hp
    have hb := lng_big
    generalize lng = z at hb
    rw [ten30]
    have st : Same (hid s H) (hid s (upd H1 p (.lst [.int 6, .int 12, .int 1000000000000000000000000000000, .int z, .int (-m), .int (m * 3)]))) := s1.trans (hid_mono (same_new hp))
    have dt := hD1.same (same_new (o := .lst [.int 6, .int 12, .int 1000000000000000000000000000000, .int z, .int (-m), .int (m * 3)]) hp)
    refine c_among dt upd_same (hD1.ne hp) (by simp) (by simp) fun w H2 hw hD2 s2 => ?_
    have a3 : ¬ (Dt.int 3).isAl m := al_odd (by decide) (by decide)
    simp only [List.mem_cons, List.not_mem_nil, or_false] at hw
    rcases hw with rfl | rfl | rfl | rfl | rfl | rfl
    · exact kI _ _ (al_half a3 (by decide)) hD2 (st.trans s2)
    · exact kI _ _ (al_half (al_half a3 (by decide)) (by decide)) hD2 (st.trans s2)
    · exact kI _ _ (al_int (by omega)) hD2 (st.trans s2)
    · exact kI _ _ (al_int (by omega)) hD2 (st.trans s2)
    · exact kI _ _ (al_int (by omega)) hD2 (st.trans s2)
    · exact kI _ _ (al_int (by omega)) hD2 (st.trans s2)
  fold_lay
  exact c_not_integer hD1 fun v dt H2 a1 a2 a3 hD2 s2 => k _ _ _ (a1.mono (nw_old (alive hD1 s1))) (Dt.isAl_of a2 _) a3 hD2 (s1.trans s2)
def sp_draws (K : PySem.W.Frag) : Sp := fun vs H Q _ => ∃ (a : Addr) (ns : List Int), vs = [.ref a] ∧ SqL K H a (ns.map V.int) ∧ ns.length ≤ 10000 ∧
  ∀ d s H', Dr d s H' → Same H H' → H d = none → H s = none → Q (.ref d) H'
def N_l_draws : List Str := ["_law_script", "_law_cell"]
def t_l_draws (K : PySem.W.Frag) : TS := (tRet (tLst (tCons (tLc (iList K (tVar 0)) (gName 1) tYes (tCB rInt1 (tCons (tVar 1) tNil)) [1]) (tCons (tLst (tCons (tC (.int 0)) (tCons (tC (.int 0)) (tCons (tC (.int 0)) (tCons (tC (.int 0)) (tCons (tC (.int 11)) tNil)))))) tNil))))
theorem pure_draws {K : PySem.W.Frag} {vs : List V} {H : Hp} {Q : VK} {E : XK} (h : sp_draws K vs H Q E) : t_l_draws K { nx := fun _ H' => Q .non H', rt := Q } (start N_l_draws vs) H := by
  obtain ⟨a, ns, rfl, ha, hl, k⟩ := h
  unfold t_l_draws
  fold_lay
  refine c_lst ha (m_lst (xs := ns.map V.int) (fun D i H' => Same H H' ∧ H D = none ∧ H' D = some (.lst ((ns.take i).map V.int))) ?_ ?_ ?_ ?_)
  · exact fun D hD => ⟨same_new hD, hD, upd_same⟩
  · exact fun D i H' _ h => h.1.seq ha
  · rintro D i x H' hx ⟨h1, h2, h3⟩
    obtain ⟨z, hz, rfl⟩ := getI hx
    fold_lay
    refine ⟨rfl, ?_⟩
    fold_lay
    refine ⟨_, h3, szl (by simp; omega), ?_, h2, ?_⟩
    · exact fun b o e => upd_off (ne_of_none e h2) (h1 b o e)
    · rw [upd_same, take_more hz, List.map_append]
      rfl
  · rintro D H' ⟨h1, h2, h3⟩
    rw [List.length_map, List.take_length] at h3
    fold_lay
    rename_i p hp q hq
    have nD : D ≠ p := ne_of_none h3 hp
    have np : p ≠ q := fun z => by
      rw [← z, upd_same] at hq
      cases hq
    refine k q p _ ⟨D, ns, 0, 0, 0, 0, 11, upd_same, by kct_strs, by kct_strs, Ne.symm np, nD, by omega, by omega, by omega⟩ ?_ ?_ ?_
    · exact (h1.trans (same_new hp)).trans (same_new hq)
    · exact (h1.trans (same_new hp)).free hq
    · exact h1.free hp
/-! ## Basics -/
/-! ### basics.py -/
/-- where the classes of the refusals stand -/
structure Cl where
  (k_StoreError k_BadValue k_Broken k_Unknown k_NotHeld k_Fault k_NoRoom k_Cut k_BadLine : Addr)
  x_SIZES : Addr := 0
  x_WIDTHS : Addr := 0
  k_Ground : Addr := 0
  k_Places : Addr := 0
  k_Merged : Addr := 0
def vI : V → Bool
  | .int _ => true
  | _ => false
def vR (lo hi : Int) : V → Bool
  | .int i => decide (lo ≤ i) && decide (i ≤ hi)
  | _ => false
def sp_is_whole (K : PySem.W.Frag) : Sp := fun vs H Q _ => ∃ (v : V) (n : String), vs = [v] ∧ Ty0 H v n ∧ Q (.bl (vI v)) H
theorem c_is_whole {K : PySem.W.Frag} {v : V} {n : String} {H : Hp} {Q : VK} {E : XK} (h : Ty0 H v n) (q : Q (.bl (vI v)) H) : sp_is_whole K [v] H Q E := ⟨v, n, rfl, h, q⟩
def N_p_is_whole : List Str := ["value"]
def t_p_is_whole (K : PySem.W.Frag) : TS := (tRet (tAndV (tCB (rIsi K) (tCons (tVar 0) (tCons (tC (.ty "int")) tNil))) (tNotV (tCB (rIsi K) (tCons (tVar 0) (tCons (tC (.ty "bool")) tNil))))))
theorem pure_is_whole {K : PySem.W.Frag} {vs : List V} {H : Hp} {Q : VK} {E : XK} (h : sp_is_whole K vs H Q E) : t_p_is_whole K { nx := fun _ H' => Q .non H', rt := Q } (start N_p_is_whole vs) H := by
  obtain ⟨v, n, rfl, ht, q⟩ := h
  unfold t_p_is_whole
  cases id ht <;> (kbj_rows; exact q)
def sp_whole_between (K : PySem.W.Frag) : Sp := fun vs H Q _ => ∃ (v : V) (n : String) (lo hi : Int), vs = [v, .int lo, .int hi] ∧ Ty0 H v n ∧ Q (.bl (vR lo hi v)) H
theorem c_whole_between {K : PySem.W.Frag} {v : V} {n : String} {lo hi : Int} {H : Hp} {Q : VK} {E : XK} (h : Ty0 H v n) (q : Q (.bl (vR lo hi v)) H) : sp_whole_between K [v, .int lo, .int hi] H Q E := ⟨v, n, lo, hi, rfl, h, q⟩
theorem vI_int {v : V} (h : vI v = true) : ∃ i, v = .int i := by
  cases v <;> first | exact ⟨_, rfl⟩ | cases h
theorem vR_no {v : V} {lo hi : Int} (h : vI v = false) : vR lo hi v = false := by
  cases v <;> first | rfl | cases h
def N_p_whole_between : List Str := ["value", "low", "high"]
def t_p_whole_between (K : PySem.W.Frag) : TS := (tRet (tAndV (tCall (sp_is_whole K) [] E0 (tCons (tVar 0) tNil)) (tChain oLe oLe (tVar 1) (tVar 0) (tVar 2))))
theorem pure_whole_between {K : PySem.W.Frag} {vs : List V} {H : Hp} {Q : VK} {E : XK} (h : sp_whole_between K vs H Q E) : t_p_whole_between K { nx := fun _ H' => Q .non H', rt := Q } (start N_p_whole_between vs) H := by
  obtain ⟨v, n, lo, hi, rfl, ht, q⟩ := h
  unfold t_p_whole_between
  fold_lay
  refine c_is_whole ht ?_
  fold_lay
  refine i_ifb (fun h => ?_) (fun h => ?_)
  · obtain ⟨i, rfl⟩ := vI_int h
    fold_lay
    refine i_ifd (fun h1 => ?_) (fun h1 => ?_)
    · fold_lay
      simpa [vR, h1] using q
    · simpa [vR, h1] using q
  · rw [vR_no h] at q
    exact q
def vP : V → Bool
  | .int i => decide (1 ≤ i) && decide (Builtin.bitAnd i (i - 1) = 0)
  | _ => false
theorem vP_no {v : V} (h : vI v = false) : vP v = false := by
  cases v <;> first | rfl | cases h
theorem pow_iff {i : Int} : (1 ≤ i ∧ Builtin.bitAnd i (i - 1) = 0) ↔ ∃ k : Nat, i = 2 ^ k := by
  constructor
  · rintro ⟨h1, h2⟩
    have e1 : i = (i.toNat : Int) := by omega
    have e2 : (i - 1).toNat = i.toNat - 1 := by omega
    rw [bitAnd_pp (by omega) (by omega), e2] at h2
    have h3 : i.toNat &&& (i.toNat - 1) = 0 := by exact_mod_cast h2
    obtain ⟨k, hk⟩ := (Nat.and_sub_one_eq_zero_iff_isPowerOfTwo (by omega)).mp h3
    refine ⟨k, ?_⟩
    rw [e1, hk]
    exact Int.natCast_pow 2 k
  · rintro ⟨k, rfl⟩
    have hp := two_pow_pos k
    refine ⟨by omega, ?_⟩
    have e0 : ((2 : Int) ^ k).toNat = 2 ^ k := by
      have : (2 : Int) ^ k = ((2 ^ k : Nat) : Int) := (Int.natCast_pow 2 k).symm
      rw [this]
      rfl
    have e2 : ((2 : Int) ^ k - 1).toNat = 2 ^ k - 1 := by omega
    rw [bitAnd_pp (by omega) (by omega), e2, e0, (Nat.and_sub_one_eq_zero_iff_isPowerOfTwo (by have := Nat.two_pow_pos k; omega)).mpr ⟨k, rfl⟩]
    rfl
theorem vP_iff {i : Int} : vP (.int i) = true ↔ ∃ k : Nat, i = 2 ^ k := by
  rw [← pow_iff]
  simp [vP]
def sp_is_power (K : PySem.W.Frag) : Sp := fun vs H Q _ => ∃ (v : V) (n : String), vs = [v] ∧ Ty0 H v n ∧ Q (.bl (vP v)) H
theorem c_is_power {K : PySem.W.Frag} {v : V} {n : String} {H : Hp} {Q : VK} {E : XK} (h : Ty0 H v n) (q : Q (.bl (vP v)) H) : sp_is_power K [v] H Q E := ⟨v, n, rfl, h, q⟩
def N_p_is_power : List Str := ["value"]
def t_p_is_power (K : PySem.W.Frag) : TS := (tRet (tAndV (tCall (sp_is_whole K) [] E0 (tCons (tVar 0) tNil)) (tAndV (tOp oGe (tVar 0) (tC (.int 1))) (tOp rEq (tOp oAnd (tVar 0) (tOp oSub (tVar 0) (tC (.int 1)))) (tC (.int 0))))))
theorem pure_is_power {K : PySem.W.Frag} {vs : List V} {H : Hp} {Q : VK} {E : XK} (h : sp_is_power K vs H Q E) : t_p_is_power K { nx := fun _ H' => Q .non H', rt := Q } (start N_p_is_power vs) H := by
  obtain ⟨v, n, rfl, ht, q⟩ := h
  unfold t_p_is_power
  fold_lay
  refine c_is_whole ht ?_
  fold_lay
  refine i_ifb (fun h => ?_) (fun h => ?_)
  · obtain ⟨i, rfl⟩ := vI_int h
    fold_lay
    refine i_ifd (fun h1 => ?_) (fun h1 => ?_)
    · fold_lay
      simpa [vP, h1] using q
    · simpa [vP, h1] using q
  · rw [vP_no h] at q
    exact q
def vA (m : Int) : V → Bool
  | .int i => vP (.int i) && decide (i ≤ m)
  | _ => false
theorem vA_iff {i m : Int} : vA m (.int i) = true ↔ (Dt.int i).isAl m := by
  show (vP (.int i) && decide (i ≤ m)) = true ↔ _
  rw [Bool.and_eq_true, vP_iff, decide_eq_true_iff]
  rfl
def sp_is_align (K : PySem.W.Frag) : Sp := fun vs H Q _ => ∃ (v : V) (n : String) (m : Int), vs = [v, .int m] ∧ Ty0 H v n ∧ Q (.bl (vA m v)) H
theorem c_is_align {K : PySem.W.Frag} {v : V} {n : String} {m : Int} {H : Hp} {Q : VK} {E : XK} (h : Ty0 H v n) (q : Q (.bl (vA m v)) H) : sp_is_align K [v, .int m] H Q E := ⟨v, n, m, rfl, h, q⟩
theorem vP_int {v : V} (h : vP v = true) : ∃ i, v = .int i := by
  cases v <;> first | exact ⟨_, rfl⟩ | cases h
theorem vA_no {v : V} {m : Int} (h : vP v = false) : vA m v = false := by
  cases v <;> first | rfl | (show (vP _ && _) = false; rw [h]; rfl)
def N_p_is_align : List Str := ["value", "most"]
def t_p_is_align (K : PySem.W.Frag) : TS := (tRet (tAndV (tCall (sp_is_power K) [] E0 (tCons (tVar 0) tNil)) (tOp oLe (tVar 0) (tVar 1))))
theorem pure_is_align {K : PySem.W.Frag} {vs : List V} {H : Hp} {Q : VK} {E : XK} (h : sp_is_align K vs H Q E) : t_p_is_align K { nx := fun _ H' => Q .non H', rt := Q } (start N_p_is_align vs) H := by
  obtain ⟨v, n, m, rfl, ht, q⟩ := h
  unfold t_p_is_align
  fold_lay
  refine c_is_power ht ?_
  fold_lay
  refine i_ifb (fun h => ?_) (fun h => ?_)
  · obtain ⟨i, rfl⟩ := vP_int h
    fold_lay
    simpa [vA, h] using q
  · rw [vA_no h] at q
    exact q
/-! ### a refusal: its class, its fields -/
structure BvC (K : PySem.W.Frag) (C : Addr) : Prop where
  ox : OexC K C
  np : PySem.W.findIn K (.ref C) "parameter" = some none
  nt : PySem.W.findIn K (.ref C) "told" = some none
/-- a refusal's dict at d: BadValue(p) -/
def BadAt (H : Hp) (d : Addr) (v : V) : Prop := ∃ t1 t2, H d = some (.xd [("told", .ref t2), ("parameter", v)]) ∧ H t2 = some (.tup [.str "BadValue", .ref t1]) ∧ H t1 = some (.tup [v])
def sp_init_BadValue (K : PySem.W.Frag) (C : Addr) : Sp := fun vs H Q _ => ∃ (e : Addr) (v : V), vs = [.ref e, v] ∧ H e = some (exo e C none) ∧ BvC K C ∧
  ∀ (d t1 t2 : Addr) H', H' e = some (exo e C (some d)) → H' d = some (exd d [("told", .ref t2), ("parameter", v)]) → H' t1 = some (.tup [v]) → H' t2 = some (.tup [.str "BadValue", .ref t1]) → H d = none → (∀ b o, b ≠ e → H b = some o → H' b = some o) → Q .non H'
def N_c_BadValue_init : List Str := ["self", "parameter"]
def t_c_BadValue_init (K : PySem.W.Frag) : TS := (tSeq (tOst K "parameter" (tVar 0) (tVar 1))
  (tOst K "told" (tVar 0) (tTup (tCons (tC (.str "BadValue")) (tCons (tTup (tCons (tVar 1) tNil)) tNil)))))
theorem pure_init_BadValue {K : PySem.W.Frag} {C : Addr} {vs : List V} {H : Hp} {Q : VK} {E : XK} (h : sp_init_BadValue K C vs H Q E) : t_c_BadValue_init K { nx := fun _ H' => Q .non H', rt := Q } (start N_c_BadValue_init vs) H := by
  obtain ⟨e, v, rfl, he, hC, k⟩ := h
  unfold t_c_BadValue_init
  refine i_seq ?_
  refine ⟨v, rfl, .ref e, rfl, e, C, rfl, hC.ox, hC.np, .inl ⟨he, fun d hd ne => ?_⟩⟩
  have h1 : upd (upd H d (exd d [("parameter", v)])) e (exo e C (some d)) d = some (exd d [("parameter", v)]) := by rw [upd_ne ne, upd_same]
  refine ⟨v, rfl, sz (by simp), fun t1 ht1 => ?_⟩
  refine ⟨sz (by simp), fun t2 ht2 => ?_⟩
  have n1 : d ≠ t1 := ne_of_none h1 ht1
  have n3 : e ≠ t1 := ne_of_none upd_same ht1
  have ht2' := ht2
  have nt : t2 ≠ t1 := fun z => by rw [z, upd_same] at ht2'; cases ht2'
  have n2 : d ≠ t2 := ne_of_none (upd_off n1 h1) ht2
  have n4 : e ≠ t2 := ne_of_none (upd_off n3 upd_same) ht2
  refine ⟨.ref e, rfl, e, C, rfl, hC.ox, hC.nt, .inr ⟨d, [("parameter", v)], ?_, ?_, by show 1 ≤ 900; decide, ?_⟩⟩
  · exact upd_off n4 (upd_off n3 upd_same)
  · exact upd_off n2 (upd_off n1 h1)
  · refine k d t1 t2 _ ?_ upd_same ?_ ?_ hd ?_
    · exact upd_off (Ne.symm ne) (upd_off n4 (upd_off n3 upd_same))
    · exact upd_off (Ne.symm n1) (upd_off (Ne.symm nt) upd_same)
    · exact upd_off (Ne.symm n2) upd_same
    · intro b o nb hb
      have nd : b ≠ d := ne_of_none hb hd
      have h2 : upd (upd H d (exd d [("parameter", v)])) e (exo e C (some d)) b = some o := upd_off nb (upd_off nd hb)
      have n5 : b ≠ t1 := ne_of_none h2 ht1
      have h3 := upd_off (o := .tup [v]) n5 h2
      exact upd_off nd (upd_off (ne_of_none h3 ht2) h3)
/-- raise BadValue(e): what is asked of e's value -/
def RzB (K : PySem.W.Frag) (C : Addr) (W : WX) (σ : St) (v : V) (H1 : Hp) : Prop := [v].length ≤ 1000 ∧ ∀ a, H1 a = none → sp_init_BadValue K C (.ref a :: ([v] ++ [])) (upd H1 a (exo a C none))
  (fun u H2 => u = .non ∧ ∃ (d : Addr) (fs : List (Str × V)), H2 a = some (exo a C (some d)) ∧ H2 d = some (exd d fs) ∧ H1 d = none ∧ W (.ref C) (some d) σ (upd (del H2 a) d (.xd fs))) (fun _ _ _ => False)
theorem i_rz {K : PySem.W.Frag} {C : Addr} {te : TE} {W : WX} {D : Ends} {σ : St} {H : Hp} (h : te σ H fun v H1 => RzB K C W σ v H1) : tRz (tMkO C (sp_init_BadValue K C) [] (tCons te tNil)) W D σ H := h
instance s_rz {K : PySem.W.Frag} {C : Addr} {te : TE} {W : WX} {D : Ends} {σ : St} {H : Hp} : Stp (tRz (tMkO C (sp_init_BadValue K C) [] (tCons te tNil)) W D σ H) (te σ H fun v H1 => RzB K C W σ v H1) := ⟨i_rz⟩
theorem c_bad {K : PySem.W.Frag} {C : Addr} {W : WX} {σ : St} {v : V} {H1 : Hp} (hC : BvC K C) (h : ∀ d H', BadAt H' d v → Same H1 H' → W (.ref C) (some d) σ H') : RzB K C W σ v H1 := by
  refine ⟨by show 1 ≤ 1000; decide, fun a ha => ⟨a, v, rfl, upd_same, hC, fun d t1 t2 H2 h1 h2 h3 h4 h5 h6 => ⟨rfl, d, _, h1, h2, ?_, ?_⟩⟩⟩
  · by_cases e : d = a
    · rw [e, upd_same] at h5
      cases h5
    · rw [upd_ne e] at h5
      exact h5
  · have nda : d ≠ a := fun e => by
      rw [e, upd_same] at h5
      cases h5
    have hd1 : H1 d = none := by
      rw [upd_ne nda] at h5
      exact h5
    have n1 : t1 ≠ d := fun e => by
      rw [e, h2] at h3
      cases h3
    have n2 : t2 ≠ d := fun e => by
      rw [e, h2] at h4
      cases h4
    have m1 : t1 ≠ a := fun e => by
      rw [e, h1] at h3
      cases h3
    have m2 : t2 ≠ a := fun e => by
      rw [e, h1] at h4
      cases h4
    refine h d _ ⟨t1, t2, upd_same, ?_, ?_⟩ (fun b o hb => ?_)
    · rw [upd_ne n2, del_ne m2]
      exact h4
    · rw [upd_ne n1, del_ne m1]
      exact h3
    · have nb : b ≠ a := ne_of_none hb ha
      rw [upd_ne (ne_of_none hb hd1), del_ne nb]
      exact h6 b o nb (upd_off nb hb)
def sp_align_up : Sp := fun vs H Q _ => ∃ (n m : Int), vs = [.int n, .int m] ∧ 0 ≤ n ∧ n ≤ 1000000000 ∧ (∃ k : Nat, m = 2 ^ k) ∧ m ≤ 1073741824 ∧ Q (.int ((n + m - 1) / m * m)) H
theorem c_align_up {n m : Int} {H : Hp} {Q : VK} {E : XK} (h0 : 0 ≤ n) (h1 : n ≤ 1000000000) (h2 : ∃ k : Nat, m = 2 ^ k) (h3 : m ≤ 1073741824) (q : Q (.int ((n + m - 1) / m * m)) H) : sp_align_up [.int n, .int m] H Q E := ⟨n, m, rfl, h0, h1, h2, h3, q⟩
theorem vR_yes {lo hi i : Int} (h1 : lo ≤ i) (h2 : i ≤ hi) : vR lo hi (.int i) = true := by simp [vR, h1, h2]
theorem vA_yes {m i : Int} (h1 : ∃ k : Nat, i = 2 ^ k) (h2 : i ≤ m) : vA m (.int i) = true := vA_iff.mpr ⟨h1, h2⟩
def N_p_align_up : List Str := ["number", "align"]
def t_p_align_up (K : PySem.W.Frag) : TS := (tSeq (tIfS (tNot (tB (tCall (sp_whole_between K) [] E0 (tCons (tVar 0) (tCons (tC (.int 0)) (tCons (tC (.int 1000000000)) tNil)))))) tNever tNext)
  (tSeq (tIfS (tNot (tB (tCall (sp_is_align K) [] E0 (tCons (tVar 1) (tCons (tC (.int 1073741824)) tNil))))) tNever tNext)
  (tRet (tOp oMul (tOp oDiv (tOp oSub (tOp oAdd (tVar 0) (tVar 1)) (tC (.int 1))) (tVar 1)) (tVar 1)))))
theorem pure_align_up {K : PySem.W.Frag} {vs : List V} {H : Hp} {Q : VK} {E : XK} (h : sp_align_up vs H Q E) : t_p_align_up K { nx := fun _ H' => Q .non H', rt := Q } (start N_p_align_up vs) H := by
  obtain ⟨n, m, rfl, h0, h1, h2, h3, q⟩ := h
  unfold t_p_align_up
  fold_depth
  refine c_whole_between (.int _) ?_
  rw [vR_yes h0 h1]
  fold_lay; fold_depth
  refine c_is_align (.int _) ?_
  rw [vA_yes h2 h3]
  fold_lay
  obtain ⟨k, hk⟩ := h2
  have hp := two_pow_pos k
  refine i_div (cdiv (by omega) (by omega)) ?_
  fold_lay
  exact q
/-! ### marks.py -/
def sp_check_number (K : PySem.W.Frag) (c : Cl) : Sp := fun vs H Q E => ∃ (v : V) (n : String) (lo hi : Int) (p : Str), vs = [v, .int lo, .int hi, .str p] ∧ Ty0 H v n ∧ BvC K c.k_BadValue ∧
  (vR lo hi v = true → Q .non H) ∧ (vR lo hi v = false → ∀ d H', BadAt H' d (.str p) → Same H H' → E (.ref c.k_BadValue) (some d) H')
theorem c_check_number {K : PySem.W.Frag} {c : Cl} {v : V} {n : String} {lo hi : Int} {p : Str} {H : Hp} {Q : VK} {E : XK} (h : Ty0 H v n) (hC : BvC K c.k_BadValue) (h1 : vR lo hi v = true → Q .non H) (h2 : vR lo hi v = false → ∀ d H', BadAt H' d (.str p) → Same H H' → E (.ref c.k_BadValue) (some d) H') :
    sp_check_number K c [v, .int lo, .int hi, .str p] H Q E := ⟨v, n, lo, hi, p, rfl, h, hC, h1, h2⟩
def N_p_check_number : List Str := ["value", "low", "high", "parameter"]
def t_p_check_number (K : PySem.W.Frag) (c : Cl) (E : XK) : TS := (tIfS (tOr (tNot (tB (tCall (sp_is_whole K) [] E0 (tCons (tVar 0) tNil)))) (tOr (tTest (tOp oLt (tVar 0) (tVar 1))) (tTest (tOp oGt (tVar 0) (tVar 2))))) (tRz (tMkO c.k_BadValue (sp_init_BadValue K c.k_BadValue) [] (tCons (tVar 3) tNil)) (fun cls d _ H => E cls d H)) tNext)
theorem pure_check_number {K : PySem.W.Frag} {c : Cl} {vs : List V} {H : Hp} {Q : VK} {E : XK} (h : sp_check_number K c vs H Q E) : t_p_check_number K c E { nx := fun _ H' => Q .non H', rt := Q } (start N_p_check_number vs) H := by
  obtain ⟨v, n, lo, hi, p, rfl, ht, hC, k1, k2⟩ := h
  unfold t_p_check_number
  fold_lay
  refine c_is_whole ht ?_
  fold_lay
  refine i_ifb (fun h => ?_) (fun h => ?_)
  · have h : vI v = false := by simpa using h
    fold_lay
    exact c_bad hC (k2 (vR_no h))
  · have h : vI v = true := by simpa using h
    obtain ⟨i, rfl⟩ := vI_int h
    fold_lay
    refine i_ifd (fun h1 => ?_) (fun h1 => ?_)
    · fold_lay
      exact c_bad hC (k2 (by simp [vR]; omega))
    · fold_lay
      refine i_ifd (fun h2 => ?_) (fun h2 => ?_)
      · fold_lay
        exact c_bad hC (k2 (by simp [vR]; omega))
      · fold_lay
        exact k1 (vR_yes (by omega) (by omega))
def sp_check_align (K : PySem.W.Frag) (c : Cl) : Sp := fun vs H Q E => ∃ (v : V) (n : String), vs = [v] ∧ Ty0 H v n ∧ BvC K c.k_BadValue ∧
  (vA 4096 v = true → Q .non H) ∧ (vA 4096 v = false → ∀ d H', BadAt H' d (.str "align") → Same H H' → E (.ref c.k_BadValue) (some d) H')
theorem c_check_align {K : PySem.W.Frag} {c : Cl} {v : V} {n : String} {H : Hp} {Q : VK} {E : XK} (h : Ty0 H v n) (hC : BvC K c.k_BadValue) (h1 : vA 4096 v = true → Q .non H) (h2 : vA 4096 v = false → ∀ d H', BadAt H' d (.str "align") → Same H H' → E (.ref c.k_BadValue) (some d) H') :
    sp_check_align K c [v] H Q E := ⟨v, n, rfl, h, hC, h1, h2⟩
def N_p_check_align : List Str := ["value"]
def t_p_check_align (K : PySem.W.Frag) (c : Cl) (E : XK) : TS := (tIfS (tOr (tNot (tB (tCall (sp_is_power K) [] E0 (tCons (tVar 0) tNil)))) (tTest (tOp oGt (tVar 0) (tC (.int 4096))))) (tRz (tMkO c.k_BadValue (sp_init_BadValue K c.k_BadValue) [] (tCons (tC (.str "align")) tNil)) (fun cls d _ H => E cls d H)) tNext)
theorem pure_check_align {K : PySem.W.Frag} {c : Cl} {vs : List V} {H : Hp} {Q : VK} {E : XK} (h : sp_check_align K c vs H Q E) : t_p_check_align K c E { nx := fun _ H' => Q .non H', rt := Q } (start N_p_check_align vs) H := by
  obtain ⟨v, n, rfl, ht, hC, k1, k2⟩ := h
  unfold t_p_check_align
  fold_lay
  refine c_is_power ht ?_
  fold_lay
  refine i_ifb (fun h => ?_) (fun h => ?_)
  · have h : vP v = false := by simpa using h
    fold_lay
    exact c_bad hC (k2 (vA_no h))
  · have h : vP v = true := by simpa using h
    obtain ⟨i, rfl⟩ := vP_int h
    fold_lay
    refine i_ifd (fun h1 => ?_) (fun h1 => ?_)
    · fold_lay
      refine c_bad hC (k2 ?_)
      show (vP (.int i) && decide (i ≤ 4096)) = false
      rw [decide_eq_false (by omega), Bool.and_false]
    · fold_lay
      refine k1 ?_
      show (vP (.int i) && decide (i ≤ 4096)) = true
      rw [decide_eq_true (by omega), h]
      rfl
/-! ## Raise -/
/-! ### raising, where it is told of the exception that its context is None -/
theorem passLN {X : Cx} : Passes (L2N.CX X.prog X.w) X E0 := fun _ _ _ _ _ _ _ ⟨_, _, _, _, _, _, _, _, _, _, _, _, z⟩ => z.elim
theorem takes0N {X : Cx} : L2N.Takes X (fun _ _ _ _ => False) := fun _ _ ⟨_, _, _, _, _, _, _, _, _, _, _, _, _, _, _, _, z⟩ => z.elim
theorem okXN {P : Program} {w : World} {K : PySem.W.Frag} {mg : Str → Option Value} {base : Heap} {x qual : Str} {st : Stmt} {f : Addr} {fd : FuncData} {N ps : List Str} {k : Nat} {sp : Sp} (F : Fun K x qual st f fd) (S : FnScope N ps (defScope st)) (len : ∀ vs H Q E, sp vs H Q E → vs.length = ps.length)
    (bod : ∀ (cdv : Value) (A : Around) (outer : List Env) (s : Shared) (H : Hp) (vs : List V) (Q : VK) (E : XK), Room k (A.deeper (envOfC qual (defScope st) s.heap.objs.size f cdv)) → sp vs H Q E →
      ∃ t, PSs (cxOf (L2N.CX P w) P w K mg base N qual (defScope st) f cdv A outer s H E) (defBody st) t ∧ t { nx := fun _ H' => Q .non H', rt := Q } (L2.start N vs) H) : FnOk P w K mg base (L2N.CX P w) (k + 1) f fd ps sp := by
  rcases F.ex with ⟨oc, od, kV, doc, pm, an, cdv, ct, osl, rfl, lk, code⟩
  exact fn_of lk code S len fun A outer s H vs Q E => bod cdv A outer s H vs Q E
theorem mk_endN {X : Cx} {pins : List (Addr × Obj)} {σ : St} {G1 G2 : Hp} {Q : XK} {hp hq hr : Heap} {g1 g2 : Array GenState} {d1 d2 : Drawn} {t1 t2 : Nat} {o1 o2 : OsState} {a C d : Addr} {fs : List (Str × V)} (rs : Raises X (.ref C)) (J1 : Inv X pins σ G1 ⟨hp, g1, d1, t1, o1⟩)
    (new : hp.objs.size ≤ a) (keep : ∀ b o, hp.get? b = some o → hq.get? b = some o) (un : Un (frs X.stack) [] (upd G1 a (exo a C none)) G2 hq hr) (ok : HOk X.prog X.w G2 hr) (eo : o2 = o1) (bare : AllBare g2)
    (atE : G2 a = some (exo a C (some d))) (atD : G2 d = some (exd d fs)) (freeD : G1 d = none) (q : Q (.ref C) (some d) (upd (del G2 a) d (.xd fs))) : L2N.MkP X pins σ Q (.ref a) ⟨hr, g2, d2, t2, o2⟩ := by
  obtain ⟨t0, G, J, kG, gN, atR, nE⟩ := mk_end0 (d2 := d2) (t2 := t2) J1 new keep un ok eo bare atE atD freeD
  exact ⟨a, _, _, ⟨G, g2, d2, t2, o2⟩, _, .ref C, some d, rfl, J, kG, gN, atR, ⟨rfl, rfl, fun vs z => by cases z; rfl⟩, rfl, rfl, nE, rfl, bare, rs, q⟩
theorem pmk_oexN {X : Cx} {Y : CXT} {x : Str} {C fI : Addr} {k : Nat} {fd : FuncData} {ps : List Str} {sp : Sp} {ds : List Value} {dvs : List V} {e : Expr} {es : List Expr} {ta : TA} {p pos : Pos} (T : OexC X.K C) (ini : PySem.W.findIn X.K (.ref C) "__init__" = some (some (.ref fI))) (tyI : PySem.W.typeIn X.K (.ref fI) = some (.type "function"))
    (F1 : FnOk X.prog X.w X.K X.mg X.base Y k fI fd ps sp) (room : Room (k + 1) X.A) (hb : Binds X.K fd ps ds) (vd : Vals dvs ds) (out : Passes Y X (fun _ _ _ => False)) (hg : Gl X x) (hm : X.mg x = some (.ref C)) (ha : PA X (e :: es) ta)
    (ndb : (x == ("__debug__" : Str)) = false := by decide) (st1 : starEach (e :: es) X.env = (false, eval e X.env) :: starEach es X.env := by rfl) (st2 : (backTo pos (starEach es X.env)).any (·.1) = false := by rfl) :
    L2N.PMk X (.Call (.Name x p) (e :: es) [] pos) (tMkO C sp dvs ta) := by
  intro pins s σ H Q I h
  rcases T.cls with ⟨nm, qn, N, bs, bm, sn, sub, ab, col, dd, k0, k1, k2, k3, k5, atC, em⟩
  refine wpAny_Call_Name_kw (ld_glob I hg hm ?_ ndb)
  refine PySem.W.callWith_K (h₀ := X.base) I.ok.mod.kin T.kC (thn (ha.run pos pins s σ H _ I h) fun us s1 ⟨vs, G, J, rel, short, pre⟩ => ⟨J.kIn, ?_⟩) st1 st2
  show wpAny _ _ (call (.ref C) us) _ _ _
  rcases s1 with ⟨hp, g, dr, tk, os⟩
  have grown : hp.objs.size ≤ hp.objs.size + 1 := Nat.le_succ _
  have pre1 := pre (hp.objs.size + 1) (J.hok.fresh grown)
  have keep : ∀ b o, hp.get? b = some o → ((hp.push (PySem.W.kdv_tup us)).push (PySem.HandSPX.excO C hp.objs.size)).get? b = some o := fun b o z => Heap.get?_push_of_some _ (Heap.get?_push_of_some _ z)
  have there : ((hp.push (PySem.W.kdv_tup us)).push (PySem.HandSPX.excO C hp.objs.size)).get? (hp.objs.size + 1) = some (PySem.HandSPX.excO C hp.objs.size) := by heap_get
  have J2 : Inv X pins σ (upd G (hp.objs.size + 1) (exo (hp.objs.size + 1) C none)) ⟨(hp.push (PySem.W.kdv_tup us)).push (PySem.HandSPX.excO C hp.objs.size), g, dr, tk, os⟩ :=
    J.laid (t' := tk) (a := hp.objs.size + 1) (o := exo (hp.objs.size + 1) C none) (h' := (hp.push (PySem.W.kdv_tup us)).push (PySem.HandSPX.excO C hp.objs.size)) keep grown (exo_ok there)
  have rel2 : Vals (V.ref (hp.objs.size + 1) :: (vs ++ dvs)) (Value.ref (hp.objs.size + 1) :: (us ++ ds)) := .cons rfl (rel.append vd)
  have many : (Value.ref (hp.objs.size + 1) :: us ++ ds).length = ps.length := (F1.len _ _ _ _ pre1 ▸ rel2.length).symm
  have fits : us.length ≤ sizeLine := by
    have := Paired.length rel
    rw [sizeLine_eq]
    omega
  have J2e := (J2.env0).make C us []
  refine wpAny_call (PySem.HandSPX.call_own F.excBase_ValueError (fun Z => PySem.HandSPX.refsVE_contains Z bm em) (J.kIn _ _ atC) (PySem.W.looks_findIn J.kIn ini) (fun self => PySem.W.bind_fn J.kIn self tyI) fits
    (codeAny_mono (F1.run _ X.stack _ _ ⟨Value.ref (hp.objs.size + 1) :: us, []⟩ (Value.ref (hp.objs.size + 1) :: (us ++ ds)) _ _ (fun _ _ _ => False) (room.make C us []) J2e (hb _ (Value.ref (hp.objs.size + 1) :: us) J2.kIn many) rel2 pre1) fun res sZ post => ?_))
  rcases res with er | fl
  · exact out pins σ _ _ er sZ J2 post
  · cases fl with
    | ret u =>
      obtain ⟨v, G2, osE, bareE, unE, okE, rv, ev, d, fs, atE, atD, freeD, q⟩ := post
      subst ev
      rcases sZ with ⟨h2, g2, d2, t2, osZ⟩
      exact ⟨rv, mk_endN (raises_own T.exC T.tyC) J grown keep unE okE osE bareE atE atD freeD q⟩
    | _ => exact False.elim post
/-! ## Made -/
/-! ### an exception that is made and kept as a value -/
def tMkX (t : St → Hp → XK → Prop) : TE := fun σ H Q => t σ H fun cls d H' => ∀ a, H' a = none → Q (.ref a) (upd H' a (exi a cls d))
theorem pe_mkx {X : Cx} {e : Expr} {t : St → Hp → XK → Prop} (he : L2N.PMk X e t) : PE X e (tMkX t) := by
  constructor
  intro pins s σ H Q I h
  refine thn (he pins s σ H _ I h) fun u s1 hu => ?_
  obtain ⟨a, oe, vs, sI, H', cls, d, rfl, J, k, hne, ha, hz, hd, h1, na, os, ag, r, q⟩ := hu
  have I2 := J.laidN (t' := s1.toks) (o := exi a cls d) k hne na (exi_ok ha hz hd)
  exact ⟨.ref a, upd H' a (exi a cls d), ⟨I2.ok, os.trans J.os, ag, I2.base, I2.loc, I2.cell, I2.free, I2.freeC, I2.pin, I2.hok, I2.len⟩, rfl, q a na⟩
theorem FnU.ok {P : Program} {w : World} {K : PySem.W.Frag} {mg : Str → Option Value} {base : Heap} {k : Nat} {f : Addr} {fd : FuncData} {ps : List Str} {sp : Sp} (F : FnU P w K mg base k f fd ps sp) : FnOk P w K mg base CX0 k f fd ps sp :=
  ⟨F.len, fun A outer s H args us vs Q E hr => F.run A outer s H args us vs Q E ⟨hr.dp, hr.un⟩⟩
instance s_mkx {t : St → Hp → XK → Prop} {σ : St} {H : Hp} {Q : VK} : Stp (tMkX t σ H Q) (t σ H fun cls d H' => ∀ a, H' a = none → Q (.ref a) (upd H' a (exi a cls d))) := ⟨fun h => h⟩
instance s_bits {to : TE} {σ : St} {H : Hp} {Q : VK} : Stp (tBits to σ H Q) (to σ H fun x H1 => ∃ i, x = .int i ∧ Q (.int (Builtin.Int.intBits i : Nat)) H1) := ⟨fun h => h⟩
/-- what a class of refusals has: how it is made, and no field of its own -/
structure ErC (K : PySem.W.Frag) (C : Addr) (fs : List Str) : Prop where
  ox : OexC K C
  nf : ∀ f ∈ fs, PySem.W.findIn K (.ref C) f = some none
/-! ## Inits -/
/-! ### the other refusals: how they are made -/
/-- the dict of a refusal at d: its fields (last first), and what is told -/
def ErAt (H : Hp) (d : Addr) (nm : Str) (fs : List (Str × V)) (vs : List V) : Prop := ∃ t1 t2, H d = some (.xd (("told", .ref t2) :: fs)) ∧ H t2 = some (.tup [.str nm, .ref t1]) ∧ H t1 = some (.tup vs)
/-- what __init__ promises of a refusal nm, its fields (last first) and values -/
def InitQ (e C : Addr) (nm : Str) (fs : List (Str × V)) (vs : List V) (H : Hp) (Q : VK) : Prop := ∀ (d t1 t2 : Addr) H', H' e = some (exo e C (some d)) → H' d = some (exd d (("told", .ref t2) :: fs)) → H' t1 = some (.tup vs) → H' t2 = some (.tup [.str nm, .ref t1]) → H d = none → (∀ b o, b ≠ e → H b = some o → H' b = some o) → Q .non H'
/-- C(..): what is asked of the values -/
def MkE (C : Addr) (sp : Sp) (vs : List V) (Q : XK) (H1 : Hp) : Prop := vs.length ≤ 1000 ∧ ∀ a, H1 a = none → sp (.ref a :: (vs ++ [])) (upd H1 a (exo a C none))
  (fun u H2 => u = .non ∧ ∃ (d : Addr) (fs : List (Str × V)), H2 a = some (exo a C (some d)) ∧ H2 d = some (exd d fs) ∧ H1 d = none ∧ Q (.ref C) (some d) (upd (del H2 a) d (.xd fs))) (fun _ _ _ => False)
instance s_mkE {C : Addr} {sp : Sp} {ta : TA} {σ : St} {H : Hp} {Q : XK} : Stp (tMkO C sp [] ta σ H Q) (ta σ H fun vs H1 => MkE C sp vs Q H1) := ⟨fun h => h⟩
theorem i_rzE {C : Addr} {sp : Sp} {ta : TA} {W : WX} {D : Ends} {σ : St} {H : Hp} (h : ta σ H fun vs H1 => MkE C sp vs (fun cls d H' => W cls d σ H') H1) : tRz (tMkO C sp [] ta) W D σ H := h
theorem c_mkE {C : Addr} {sp : Sp} {nm : Str} {fs : List (Str × V)} {vs : List V} {Q : XK} {H1 : Hp} (hv : vs.length ≤ 1000) (hs : ∀ (a : Addr) (H : Hp) (Q : VK), H a = some (exo a C none) → InitQ a C nm fs vs H Q → sp (.ref a :: (vs ++ [])) H Q (fun _ _ _ => False)) (h : ∀ d H', ErAt H' d nm fs vs → Same H1 H' → H1 d = none → Q (.ref C) (some d) H') : MkE C sp vs Q H1 := by
  refine ⟨hv, fun a ha => hs a _ _ upd_same fun d t1 t2 H2 h1 h2 h3 h4 h5 h6 => ?_⟩
  have nda : d ≠ a := fun e => by
    rw [e, upd_same] at h5
    cases h5
  have hd1 : H1 d = none := by
    rw [upd_ne nda] at h5
    exact h5
  refine ⟨rfl, d, _, h1, h2, hd1, ?_⟩
  have n1 : t1 ≠ d := fun e => by
    rw [e, h2] at h3
    cases h3
  have n2 : t2 ≠ d := fun e => by
    rw [e, h2] at h4
    cases h4
  have m1 : t1 ≠ a := fun e => by
    rw [e, h1] at h3
    cases h3
  have m2 : t2 ≠ a := fun e => by
    rw [e, h1] at h4
    cases h4
  refine h d _ ⟨t1, t2, upd_same, ?_, ?_⟩ (fun b o hb => ?_) hd1
  · rw [upd_ne n2, del_ne m2]
    exact h4
  · rw [upd_ne n1, del_ne m1]
    exact h3
  · have nb : b ≠ a := ne_of_none hb ha
    rw [upd_ne (ne_of_none hb hd1), del_ne nb]
    exact h6 b o nb (upd_off nb hb)

def sp_init_Broken (K : PySem.W.Frag) (C : Addr) : Sp := fun vs H Q _ => ∃ (e : Addr) (v1 v2 v3 : V), vs = [.ref e, v1, v2, v3] ∧ H e = some (exo e C none) ∧ ErC K C ["told", "place", "found", "due"] ∧ InitQ e C "Broken" [("due", v3), ("found", v2), ("place", v1)] [v1, v2, v3] H Q
def N_c_Broken_init : List Str := ["self", "place", "found", "due"]
def t_c_Broken_init (K : PySem.W.Frag) : TS := (tSeq (tOst K "place" (tVar 0) (tVar 1))
  (tSeq (tOst K "found" (tVar 0) (tVar 2))
  (tSeq (tOst K "due" (tVar 0) (tVar 3))
  (tOst K "told" (tVar 0) (tTup (tCons (tC (.str "Broken")) (tCons (tTup (tCons (tVar 1) (tCons (tVar 2) (tCons (tVar 3) tNil)))) tNil)))))))
theorem pure_init_Broken {K : PySem.W.Frag} {C : Addr} {vs : List V} {H : Hp} {Q : VK} {E : XK} (h : sp_init_Broken K C vs H Q E) : t_c_Broken_init K { nx := fun _ H' => Q .non H', rt := Q } (start N_c_Broken_init vs) H := by
  obtain ⟨e, v1, v2, v3, rfl, he, hC, k⟩ := h
  unfold t_c_Broken_init
  refine i_seq ?_
  refine ⟨v1, rfl, .ref e, rfl, e, C, rfl, hC.ox, hC.nf "place" (by simp), .inl ⟨he, fun d hd ne => ?_⟩⟩
  have ne2 : e ≠ d := Ne.symm ne
  refine i_seq ?_
  refine ⟨v2, rfl, .ref e, rfl, e, C, rfl, hC.ox, hC.nf "found" (by simp), .inr ⟨d, [("place", v1)], by kct_strs, by kct_strs, by simp, ?_⟩⟩
  refine i_seq ?_
  refine ⟨v3, rfl, .ref e, rfl, e, C, rfl, hC.ox, hC.nf "due" (by simp), .inr ⟨d, [("found", v2), ("place", v1)], by kct_strs, by kct_strs, by simp, ?_⟩⟩
  refine ⟨v1, rfl, ?_⟩
  refine ⟨v2, rfl, ?_⟩
  refine ⟨v3, rfl, ?_⟩
  refine ⟨sz (by simp), fun t1 ht1 => ?_⟩
  refine ⟨sz (by simp), fun t2 ht2 => ?_⟩
  have g1 : (upd (upd (upd (upd H d (exd d [("place", v1)])) e (exo e C (some d))) d (exd d [("found", v2), ("place", v1)])) d (exd d [("due", v3), ("found", v2), ("place", v1)])) d = some (exd d [("due", v3), ("found", v2), ("place", v1)]) := by kct_strs
  have g2 : (upd (upd (upd (upd H d (exd d [("place", v1)])) e (exo e C (some d))) d (exd d [("found", v2), ("place", v1)])) d (exd d [("due", v3), ("found", v2), ("place", v1)])) e = some (exo e C (some d)) := by kct_strs
  have n1 : t1 ≠ d := Ne.symm (ne_of_none g1 ht1)
  have n3 : t1 ≠ e := Ne.symm (ne_of_none g2 ht1)
  have n2 : t2 ≠ d := Ne.symm (ne_of_none (upd_keep ht1 g1) ht2)
  have n4 : t2 ≠ e := Ne.symm (ne_of_none (upd_keep ht1 g2) ht2)
  have nt : t1 ≠ t2 := ne_of_none upd_same ht2
  refine ⟨.ref e, rfl, e, C, rfl, hC.ox, hC.nf "told" (by simp), .inr ⟨d, [("due", v3), ("found", v2), ("place", v1)], upd_keep ht2 (upd_keep ht1 g2), upd_keep ht2 (upd_keep ht1 g1), by simp, ?_⟩⟩
  refine k d t1 t2 _ (upd_off ne2 (upd_keep ht2 (upd_keep ht1 g2))) upd_same (upd_off n1 (upd_keep ht2 upd_same)) (upd_off n2 upd_same) hd fun b o nb hb => ?_
  have nd : b ≠ d := ne_of_none hb hd
  have h2 : (upd (upd (upd (upd H d (exd d [("place", v1)])) e (exo e C (some d))) d (exd d [("found", v2), ("place", v1)])) d (exd d [("due", v3), ("found", v2), ("place", v1)])) b = some o := by kct_strs
  exact upd_off nd (upd_keep ht2 (upd_keep ht1 h2))
def sp_init_Unknown (K : PySem.W.Frag) (C : Addr) : Sp := fun vs H Q _ => ∃ (e : Addr) (v1 : V), vs = [.ref e, v1] ∧ H e = some (exo e C none) ∧ ErC K C ["told", "parameter"] ∧ InitQ e C "Unknown" [("parameter", v1)] [v1] H Q
def N_c_Unknown_init : List Str := ["self", "parameter"]
def t_c_Unknown_init (K : PySem.W.Frag) : TS := (tSeq (tOst K "parameter" (tVar 0) (tVar 1))
  (tOst K "told" (tVar 0) (tTup (tCons (tC (.str "Unknown")) (tCons (tTup (tCons (tVar 1) tNil)) tNil)))))
theorem pure_init_Unknown {K : PySem.W.Frag} {C : Addr} {vs : List V} {H : Hp} {Q : VK} {E : XK} (h : sp_init_Unknown K C vs H Q E) : t_c_Unknown_init K { nx := fun _ H' => Q .non H', rt := Q } (start N_c_Unknown_init vs) H := by
  obtain ⟨e, v1, rfl, he, hC, k⟩ := h
  unfold t_c_Unknown_init
  refine i_seq ?_
  refine ⟨v1, rfl, .ref e, rfl, e, C, rfl, hC.ox, hC.nf "parameter" (by simp), .inl ⟨he, fun d hd ne => ?_⟩⟩
  have ne2 : e ≠ d := Ne.symm ne
  refine ⟨v1, rfl, ?_⟩
  refine ⟨sz (by simp), fun t1 ht1 => ?_⟩
  refine ⟨sz (by simp), fun t2 ht2 => ?_⟩
  have g1 : (upd (upd H d (exd d [("parameter", v1)])) e (exo e C (some d))) d = some (exd d [("parameter", v1)]) := by kct_strs
  have g2 : (upd (upd H d (exd d [("parameter", v1)])) e (exo e C (some d))) e = some (exo e C (some d)) := by kct_strs
  have n1 : t1 ≠ d := Ne.symm (ne_of_none g1 ht1)
  have n3 : t1 ≠ e := Ne.symm (ne_of_none g2 ht1)
  have n2 : t2 ≠ d := Ne.symm (ne_of_none (upd_keep ht1 g1) ht2)
  have n4 : t2 ≠ e := Ne.symm (ne_of_none (upd_keep ht1 g2) ht2)
  have nt : t1 ≠ t2 := ne_of_none upd_same ht2
  refine ⟨.ref e, rfl, e, C, rfl, hC.ox, hC.nf "told" (by simp), .inr ⟨d, [("parameter", v1)], upd_keep ht2 (upd_keep ht1 g2), upd_keep ht2 (upd_keep ht1 g1), by simp, ?_⟩⟩
  refine k d t1 t2 _ (upd_off ne2 (upd_keep ht2 (upd_keep ht1 g2))) upd_same (upd_off n1 (upd_keep ht2 upd_same)) (upd_off n2 upd_same) hd fun b o nb hb => ?_
  have nd : b ≠ d := ne_of_none hb hd
  have h2 : (upd (upd H d (exd d [("parameter", v1)])) e (exo e C (some d))) b = some o := by kct_strs
  exact upd_off nd (upd_keep ht2 (upd_keep ht1 h2))
def sp_init_NotHeld (K : PySem.W.Frag) (C : Addr) : Sp := fun vs H Q _ => ∃ (e : Addr) (v1 v2 : V), vs = [.ref e, v1, v2] ∧ H e = some (exo e C none) ∧ ErC K C ["told", "place", "found"] ∧ InitQ e C "NotHeld" [("found", v2), ("place", v1)] [v1, v2] H Q
def N_c_NotHeld_init : List Str := ["self", "place", "found"]
def t_c_NotHeld_init (K : PySem.W.Frag) : TS := (tSeq (tOst K "place" (tVar 0) (tVar 1))
  (tSeq (tOst K "found" (tVar 0) (tVar 2))
  (tOst K "told" (tVar 0) (tTup (tCons (tC (.str "NotHeld")) (tCons (tTup (tCons (tVar 1) (tCons (tVar 2) tNil))) tNil))))))
theorem pure_init_NotHeld {K : PySem.W.Frag} {C : Addr} {vs : List V} {H : Hp} {Q : VK} {E : XK} (h : sp_init_NotHeld K C vs H Q E) : t_c_NotHeld_init K { nx := fun _ H' => Q .non H', rt := Q } (start N_c_NotHeld_init vs) H := by
  obtain ⟨e, v1, v2, rfl, he, hC, k⟩ := h
  unfold t_c_NotHeld_init
  refine i_seq ?_
  refine ⟨v1, rfl, .ref e, rfl, e, C, rfl, hC.ox, hC.nf "place" (by simp), .inl ⟨he, fun d hd ne => ?_⟩⟩
  have ne2 : e ≠ d := Ne.symm ne
  refine i_seq ?_
  refine ⟨v2, rfl, .ref e, rfl, e, C, rfl, hC.ox, hC.nf "found" (by simp), .inr ⟨d, [("place", v1)], by kct_strs, by kct_strs, by simp, ?_⟩⟩
  refine ⟨v1, rfl, ?_⟩
  refine ⟨v2, rfl, ?_⟩
  refine ⟨sz (by simp), fun t1 ht1 => ?_⟩
  refine ⟨sz (by simp), fun t2 ht2 => ?_⟩
  have g1 : (upd (upd (upd H d (exd d [("place", v1)])) e (exo e C (some d))) d (exd d [("found", v2), ("place", v1)])) d = some (exd d [("found", v2), ("place", v1)]) := by kct_strs
  have g2 : (upd (upd (upd H d (exd d [("place", v1)])) e (exo e C (some d))) d (exd d [("found", v2), ("place", v1)])) e = some (exo e C (some d)) := by kct_strs
  have n1 : t1 ≠ d := Ne.symm (ne_of_none g1 ht1)
  have n3 : t1 ≠ e := Ne.symm (ne_of_none g2 ht1)
  have n2 : t2 ≠ d := Ne.symm (ne_of_none (upd_keep ht1 g1) ht2)
  have n4 : t2 ≠ e := Ne.symm (ne_of_none (upd_keep ht1 g2) ht2)
  have nt : t1 ≠ t2 := ne_of_none upd_same ht2
  refine ⟨.ref e, rfl, e, C, rfl, hC.ox, hC.nf "told" (by simp), .inr ⟨d, [("found", v2), ("place", v1)], upd_keep ht2 (upd_keep ht1 g2), upd_keep ht2 (upd_keep ht1 g1), by simp, ?_⟩⟩
  refine k d t1 t2 _ (upd_off ne2 (upd_keep ht2 (upd_keep ht1 g2))) upd_same (upd_off n1 (upd_keep ht2 upd_same)) (upd_off n2 upd_same) hd fun b o nb hb => ?_
  have nd : b ≠ d := ne_of_none hb hd
  have h2 : (upd (upd (upd H d (exd d [("place", v1)])) e (exo e C (some d))) d (exd d [("found", v2), ("place", v1)])) b = some o := by kct_strs
  exact upd_off nd (upd_keep ht2 (upd_keep ht1 h2))
def sp_init_Fault (K : PySem.W.Frag) (C : Addr) : Sp := fun vs H Q _ => ∃ (e : Addr) (v1 v2 : V), vs = [.ref e, v1, v2] ∧ H e = some (exo e C none) ∧ ErC K C ["told", "kind", "place"] ∧ InitQ e C "Fault" [("place", v2), ("kind", v1)] [v1, v2] H Q
def N_c_Fault_init : List Str := ["self", "kind", "place"]
def t_c_Fault_init (K : PySem.W.Frag) : TS := (tSeq (tOst K "kind" (tVar 0) (tVar 1))
  (tSeq (tOst K "place" (tVar 0) (tVar 2))
  (tOst K "told" (tVar 0) (tTup (tCons (tC (.str "Fault")) (tCons (tTup (tCons (tVar 1) (tCons (tVar 2) tNil))) tNil))))))
theorem pure_init_Fault {K : PySem.W.Frag} {C : Addr} {vs : List V} {H : Hp} {Q : VK} {E : XK} (h : sp_init_Fault K C vs H Q E) : t_c_Fault_init K { nx := fun _ H' => Q .non H', rt := Q } (start N_c_Fault_init vs) H := by
  obtain ⟨e, v1, v2, rfl, he, hC, k⟩ := h
  unfold t_c_Fault_init
  refine i_seq ?_
  refine ⟨v1, rfl, .ref e, rfl, e, C, rfl, hC.ox, hC.nf "kind" (by simp), .inl ⟨he, fun d hd ne => ?_⟩⟩
  have ne2 : e ≠ d := Ne.symm ne
  refine i_seq ?_
  refine ⟨v2, rfl, .ref e, rfl, e, C, rfl, hC.ox, hC.nf "place" (by simp), .inr ⟨d, [("kind", v1)], by kct_strs, by kct_strs, by simp, ?_⟩⟩
  refine ⟨v1, rfl, ?_⟩
  refine ⟨v2, rfl, ?_⟩
  refine ⟨sz (by simp), fun t1 ht1 => ?_⟩
  refine ⟨sz (by simp), fun t2 ht2 => ?_⟩
  have g1 : (upd (upd (upd H d (exd d [("kind", v1)])) e (exo e C (some d))) d (exd d [("place", v2), ("kind", v1)])) d = some (exd d [("place", v2), ("kind", v1)]) := by kct_strs
  have g2 : (upd (upd (upd H d (exd d [("kind", v1)])) e (exo e C (some d))) d (exd d [("place", v2), ("kind", v1)])) e = some (exo e C (some d)) := by kct_strs
  have n1 : t1 ≠ d := Ne.symm (ne_of_none g1 ht1)
  have n3 : t1 ≠ e := Ne.symm (ne_of_none g2 ht1)
  have n2 : t2 ≠ d := Ne.symm (ne_of_none (upd_keep ht1 g1) ht2)
  have n4 : t2 ≠ e := Ne.symm (ne_of_none (upd_keep ht1 g2) ht2)
  have nt : t1 ≠ t2 := ne_of_none upd_same ht2
  refine ⟨.ref e, rfl, e, C, rfl, hC.ox, hC.nf "told" (by simp), .inr ⟨d, [("place", v2), ("kind", v1)], upd_keep ht2 (upd_keep ht1 g2), upd_keep ht2 (upd_keep ht1 g1), by simp, ?_⟩⟩
  refine k d t1 t2 _ (upd_off ne2 (upd_keep ht2 (upd_keep ht1 g2))) upd_same (upd_off n1 (upd_keep ht2 upd_same)) (upd_off n2 upd_same) hd fun b o nb hb => ?_
  have nd : b ≠ d := ne_of_none hb hd
  have h2 : (upd (upd (upd H d (exd d [("kind", v1)])) e (exo e C (some d))) d (exd d [("place", v2), ("kind", v1)])) b = some o := by kct_strs
  exact upd_off nd (upd_keep ht2 (upd_keep ht1 h2))
def sp_init_NoRoom (K : PySem.W.Frag) (C : Addr) : Sp := fun vs H Q _ => ∃ (e : Addr) (v1 : V), vs = [.ref e, v1] ∧ H e = some (exo e C none) ∧ ErC K C ["told", "paper"] ∧ InitQ e C "NoRoom" [("paper", v1)] [v1] H Q
def N_c_NoRoom_init : List Str := ["self", "paper"]
def t_c_NoRoom_init (K : PySem.W.Frag) : TS := (tSeq (tOst K "paper" (tVar 0) (tVar 1))
  (tOst K "told" (tVar 0) (tTup (tCons (tC (.str "NoRoom")) (tCons (tTup (tCons (tVar 1) tNil)) tNil)))))
theorem pure_init_NoRoom {K : PySem.W.Frag} {C : Addr} {vs : List V} {H : Hp} {Q : VK} {E : XK} (h : sp_init_NoRoom K C vs H Q E) : t_c_NoRoom_init K { nx := fun _ H' => Q .non H', rt := Q } (start N_c_NoRoom_init vs) H := by
  obtain ⟨e, v1, rfl, he, hC, k⟩ := h
  unfold t_c_NoRoom_init
  refine i_seq ?_
  refine ⟨v1, rfl, .ref e, rfl, e, C, rfl, hC.ox, hC.nf "paper" (by simp), .inl ⟨he, fun d hd ne => ?_⟩⟩
  have ne2 : e ≠ d := Ne.symm ne
  refine ⟨v1, rfl, ?_⟩
  refine ⟨sz (by simp), fun t1 ht1 => ?_⟩
  refine ⟨sz (by simp), fun t2 ht2 => ?_⟩
  have g1 : (upd (upd H d (exd d [("paper", v1)])) e (exo e C (some d))) d = some (exd d [("paper", v1)]) := by kct_strs
  have g2 : (upd (upd H d (exd d [("paper", v1)])) e (exo e C (some d))) e = some (exo e C (some d)) := by kct_strs
  have n1 : t1 ≠ d := Ne.symm (ne_of_none g1 ht1)
  have n3 : t1 ≠ e := Ne.symm (ne_of_none g2 ht1)
  have n2 : t2 ≠ d := Ne.symm (ne_of_none (upd_keep ht1 g1) ht2)
  have n4 : t2 ≠ e := Ne.symm (ne_of_none (upd_keep ht1 g2) ht2)
  have nt : t1 ≠ t2 := ne_of_none upd_same ht2
  refine ⟨.ref e, rfl, e, C, rfl, hC.ox, hC.nf "told" (by simp), .inr ⟨d, [("paper", v1)], upd_keep ht2 (upd_keep ht1 g2), upd_keep ht2 (upd_keep ht1 g1), by simp, ?_⟩⟩
  refine k d t1 t2 _ (upd_off ne2 (upd_keep ht2 (upd_keep ht1 g2))) upd_same (upd_off n1 (upd_keep ht2 upd_same)) (upd_off n2 upd_same) hd fun b o nb hb => ?_
  have nd : b ≠ d := ne_of_none hb hd
  have h2 : (upd (upd H d (exd d [("paper", v1)])) e (exo e C (some d))) b = some o := by kct_strs
  exact upd_off nd (upd_keep ht2 (upd_keep ht1 h2))
def sp_init_Cut (K : PySem.W.Frag) (C : Addr) : Sp := fun vs H Q _ => ∃ (e : Addr) (v1 v2 : V), vs = [.ref e, v1, v2] ∧ H e = some (exo e C none) ∧ ErC K C ["told", "needed", "left"] ∧ InitQ e C "Cut" [("left", v2), ("needed", v1)] [v1, v2] H Q
def N_c_Cut_init : List Str := ["self", "needed", "left"]
def t_c_Cut_init (K : PySem.W.Frag) : TS := (tSeq (tOst K "needed" (tVar 0) (tVar 1))
  (tSeq (tOst K "left" (tVar 0) (tVar 2))
  (tOst K "told" (tVar 0) (tTup (tCons (tC (.str "Cut")) (tCons (tTup (tCons (tVar 1) (tCons (tVar 2) tNil))) tNil))))))
theorem pure_init_Cut {K : PySem.W.Frag} {C : Addr} {vs : List V} {H : Hp} {Q : VK} {E : XK} (h : sp_init_Cut K C vs H Q E) : t_c_Cut_init K { nx := fun _ H' => Q .non H', rt := Q } (start N_c_Cut_init vs) H := by
  obtain ⟨e, v1, v2, rfl, he, hC, k⟩ := h
  unfold t_c_Cut_init
  refine i_seq ?_
  refine ⟨v1, rfl, .ref e, rfl, e, C, rfl, hC.ox, hC.nf "needed" (by simp), .inl ⟨he, fun d hd ne => ?_⟩⟩
  have ne2 : e ≠ d := Ne.symm ne
  refine i_seq ?_
  refine ⟨v2, rfl, .ref e, rfl, e, C, rfl, hC.ox, hC.nf "left" (by simp), .inr ⟨d, [("needed", v1)], by kct_strs, by kct_strs, by simp, ?_⟩⟩
  refine ⟨v1, rfl, ?_⟩
  refine ⟨v2, rfl, ?_⟩
  refine ⟨sz (by simp), fun t1 ht1 => ?_⟩
  refine ⟨sz (by simp), fun t2 ht2 => ?_⟩
  have g1 : (upd (upd (upd H d (exd d [("needed", v1)])) e (exo e C (some d))) d (exd d [("left", v2), ("needed", v1)])) d = some (exd d [("left", v2), ("needed", v1)]) := by kct_strs
  have g2 : (upd (upd (upd H d (exd d [("needed", v1)])) e (exo e C (some d))) d (exd d [("left", v2), ("needed", v1)])) e = some (exo e C (some d)) := by kct_strs
  have n1 : t1 ≠ d := Ne.symm (ne_of_none g1 ht1)
  have n3 : t1 ≠ e := Ne.symm (ne_of_none g2 ht1)
  have n2 : t2 ≠ d := Ne.symm (ne_of_none (upd_keep ht1 g1) ht2)
  have n4 : t2 ≠ e := Ne.symm (ne_of_none (upd_keep ht1 g2) ht2)
  have nt : t1 ≠ t2 := ne_of_none upd_same ht2
  refine ⟨.ref e, rfl, e, C, rfl, hC.ox, hC.nf "told" (by simp), .inr ⟨d, [("left", v2), ("needed", v1)], upd_keep ht2 (upd_keep ht1 g2), upd_keep ht2 (upd_keep ht1 g1), by simp, ?_⟩⟩
  refine k d t1 t2 _ (upd_off ne2 (upd_keep ht2 (upd_keep ht1 g2))) upd_same (upd_off n1 (upd_keep ht2 upd_same)) (upd_off n2 upd_same) hd fun b o nb hb => ?_
  have nd : b ≠ d := ne_of_none hb hd
  have h2 : (upd (upd (upd H d (exd d [("needed", v1)])) e (exo e C (some d))) d (exd d [("left", v2), ("needed", v1)])) b = some o := by kct_strs
  exact upd_off nd (upd_keep ht2 (upd_keep ht1 h2))
def sp_init_BadLine (K : PySem.W.Frag) (C : Addr) : Sp := fun vs H Q _ => ∃ (e : Addr) (v1 v2 : V), vs = [.ref e, v1, v2] ∧ H e = some (exo e C none) ∧ ErC K C ["told", "line", "column"] ∧ InitQ e C "BadLine" [("column", v2), ("line", v1)] [v1, v2] H Q
def N_c_BadLine_init : List Str := ["self", "line", "column"]
def t_c_BadLine_init (K : PySem.W.Frag) : TS := (tSeq (tOst K "line" (tVar 0) (tVar 1))
  (tSeq (tOst K "column" (tVar 0) (tVar 2))
  (tOst K "told" (tVar 0) (tTup (tCons (tC (.str "BadLine")) (tCons (tTup (tCons (tVar 1) (tCons (tVar 2) tNil))) tNil))))))
theorem pure_init_BadLine {K : PySem.W.Frag} {C : Addr} {vs : List V} {H : Hp} {Q : VK} {E : XK} (h : sp_init_BadLine K C vs H Q E) : t_c_BadLine_init K { nx := fun _ H' => Q .non H', rt := Q } (start N_c_BadLine_init vs) H := by
  obtain ⟨e, v1, v2, rfl, he, hC, k⟩ := h
  unfold t_c_BadLine_init
  refine i_seq ?_
  refine ⟨v1, rfl, .ref e, rfl, e, C, rfl, hC.ox, hC.nf "line" (by simp), .inl ⟨he, fun d hd ne => ?_⟩⟩
  have ne2 : e ≠ d := Ne.symm ne
  refine i_seq ?_
  refine ⟨v2, rfl, .ref e, rfl, e, C, rfl, hC.ox, hC.nf "column" (by simp), .inr ⟨d, [("line", v1)], by kct_strs, by kct_strs, by simp, ?_⟩⟩
  refine ⟨v1, rfl, ?_⟩
  refine ⟨v2, rfl, ?_⟩
  refine ⟨sz (by simp), fun t1 ht1 => ?_⟩
  refine ⟨sz (by simp), fun t2 ht2 => ?_⟩
  have g1 : (upd (upd (upd H d (exd d [("line", v1)])) e (exo e C (some d))) d (exd d [("column", v2), ("line", v1)])) d = some (exd d [("column", v2), ("line", v1)]) := by kct_strs
  have g2 : (upd (upd (upd H d (exd d [("line", v1)])) e (exo e C (some d))) d (exd d [("column", v2), ("line", v1)])) e = some (exo e C (some d)) := by kct_strs
  have n1 : t1 ≠ d := Ne.symm (ne_of_none g1 ht1)
  have n3 : t1 ≠ e := Ne.symm (ne_of_none g2 ht1)
  have n2 : t2 ≠ d := Ne.symm (ne_of_none (upd_keep ht1 g1) ht2)
  have n4 : t2 ≠ e := Ne.symm (ne_of_none (upd_keep ht1 g2) ht2)
  have nt : t1 ≠ t2 := ne_of_none upd_same ht2
  refine ⟨.ref e, rfl, e, C, rfl, hC.ox, hC.nf "told" (by simp), .inr ⟨d, [("column", v2), ("line", v1)], upd_keep ht2 (upd_keep ht1 g2), upd_keep ht2 (upd_keep ht1 g1), by simp, ?_⟩⟩
  refine k d t1 t2 _ (upd_off ne2 (upd_keep ht2 (upd_keep ht1 g2))) upd_same (upd_off n1 (upd_keep ht2 upd_same)) (upd_off n2 upd_same) hd fun b o nb hb => ?_
  have nd : b ≠ d := ne_of_none hb hd
  have h2 : (upd (upd (upd H d (exd d [("line", v1)])) e (exo e C (some d))) d (exd d [("column", v2), ("line", v1)])) b = some o := by kct_strs
  exact upd_off nd (upd_keep ht2 (upd_keep ht1 h2))
/-! ## Meths -/
/-! ### methods that may raise, called in a try -/
def tMthS (C : Addr) (m : Str) (sp : Sp) (E : St → XK) (ta : TE) (t : TA) : TE := fun σ H Q => ta σ H fun x H1 => ∃ a dx fs, x = .ref a ∧ H1 a = some (.ins C dx fs) ∧ fs.lookup m = none ∧ t σ H1 fun vs H2 => sp (x :: vs) H2 Q (E σ)
section
variable {X : Cx} {CX : CXT} {k : Nat} {C f : Addr} {fd : FuncData} {ps : List Str} {sp : Sp} {E : St → XK} {m : Str} {o e : Expr} {es : List Expr} {ta : TE} {t : TA} {apos pos : Pos} {pl : Sem Bool}
theorem pe_mthS (he : PE X o ta) (c : Cls X.K C) (hm : Meth X.K C m f) (F : FnOk X.prog X.w X.K X.mg X.base CX k f fd ps sp) (hr : Room k X.A) (hb : Binds X.K fd ps []) (hx : ∀ σ, PassesAt CX X σ (E σ)) (ha : PA X (e :: es) t)
    (hst : starEach (e :: es) X.env = (false, eval e X.env) :: starEach es X.env := by rfl) (hpl : (backTo pos (starEach es X.env)).any (·.1) = false := by rfl)
    (ht : eval (.Call (.Attribute o m apos) (e :: es) [] pos) X.env = (do
      let ov ← eval o X.env
      standAt apos.atName
      let (f, first) ← holding [ov] (getMethod ov m pl)
      callWith pos f first (backTo pos (starEach (e :: es) X.env)) (backToKw pos (keywordEach [] X.env))) := by rfl) :
    PE X (.Call (.Attribute o m apos) (e :: es) [] pos) (tMthS C m sp E ta t) := by
  refine ⟨fun pins s σ H Q I h => ?_⟩
  refine PySem.W.methodCall_KW (pl := pl) (thn (he.run pins s σ H _ I h) fun u s1 ⟨x, H1, I1, rx, a, dx, fs, ex, ea, l, q⟩ => ?_) ht
  subst ex
  obtain rfl : u = Value.ref a := rx
  refine getmeth_ok I1 ea c hm l ?_
  refine PySem.W.callWith_K (first := [.ref a]) (h₀ := X.base) I.ok.mod.kin hm.kp (thn (ha.run pos pins s1 σ H1 _ I1 q) fun us s2 ⟨vs, H2, I2, r, q2⟩ => ⟨I2.kIn, ?_⟩) hst hpl
  exact run_fnS (us := .ref a :: us) (vs := .ref a :: vs) F hr hb (hx σ) I2 (.cons rfl r) q2
theorem pe_mthS0 (he : PE X o ta) (c : Cls X.K C) (hm : Meth X.K C m f) (F : FnOk X.prog X.w X.K X.mg X.base CX k f fd ps sp) (hr : Room k X.A) (hb : Binds X.K fd ps []) (hx : ∀ σ, PassesAt CX X σ (E σ))
    (ht : eval (.Call (.Attribute o m apos) [] [] pos) X.env = (do
      let ov ← eval o X.env
      standAt apos.atName
      let (f, first) ← holding [ov] (getMethod ov m pl)
      callWith pos f first (backTo pos (starEach [] X.env)) (backToKw pos (keywordEach [] X.env))) := by rfl) :
    PE X (.Call (.Attribute o m apos) [] [] pos) (tMthS C m sp E ta tNil) := by
  refine ⟨fun pins s σ H Q I h => ?_⟩
  refine PySem.W.methodCall_KW (pl := pl) (thn (he.run pins s σ H _ I h) fun u s1 ⟨x, H1, I1, rx, a, dx, fs, ex, ea, l, q⟩ => ?_) ht
  subst ex
  obtain rfl : u = Value.ref a := rx
  refine getmeth_ok I1 ea c hm l ?_
  exact PySem.W.callWith_K0 (first := [.ref a]) I1.kIn hm.kp (run_fnS (us := [.ref a]) (vs := [.ref a]) F hr hb (hx σ) I1 (.cons rfl .nil) q)
end
/-! ### try with two clauses -/
section
variable {X : Cx} {x n x2 n2 : Str} {c c2 : Value} {i i2 : Nat} {body suite suite2 : List Stmt} {b₀ b₂ : Stmt} {np pos pos' np2 pos2' : Pos} {tb : WX → TS} {ts ts2 : TS} {Wout : WX} {pins : List (Addr × Obj)} {D : Ends}
theorem caught2 (hs : X.stack = X.env :: X.outer) (hf : X.env.frame = some X.env.locals) (hex : X.ex = []) (hN : X.N.Nodup) (hi : X.N[i]? = some n) (hln : X.env.kindOf n = some .local) (hc : Names X x c) (hi2 : X.N[i2]? = some n2) (hln2 : X.env.kindOf n2 = some .local) (hc2 : Names X x2 c2) (tk : L2N.Takes X Wout)
    (hsu : ∀ (a : Addr) (pn : List (Addr × Obj)), PSs (X.suite a pn) (b₀ :: suite) ts) (hsu2 : ∀ (a : Addr) (pn : List (Addr × Obj)), PSs (X.suite a pn) (b₂ :: suite2) ts2) (okX : X.Ok) {ev : Value} {sE : Shared} {xe : Value → Shared → Prop} (air : L2N.XE (X.tr (X.pn ++ pins) xe) (wAsT X.K c i ts (wAsT X.K c2 i2 ts2 Wout D) D) ev sE) :
    wpAny (model X.prog X.w) X.A (noteFrame ev X.env) (fun _ s2 => wpAny (model X.prog X.w) X.A (setFlight ev none) (fun _ s3 => wpAny (model X.prog X.w) X.A (handleBy ev X.env [.ExceptHandler (some (.Name x np)) (some n) (b₀ :: suite) pos', .ExceptHandler (some (.Name x2 np2)) (some n2) (b₂ :: suite2) pos2']) (SP X pins D) X.xe s3) X.xe s2) X.xe sE := by
  obtain ⟨ea, gr, sG, pG, σ1, H1, cls, dd, rfl, J1, inB, lift, sky, unk, eos, ebare, yes, hyes, hout, hin⟩ := air
  have J : Inv X pins σ1 H1 sG := J1.ofTry okX
  rw [show (X.tr (X.pn ++ pins) xe).stack = X.env :: X.outer from hs] at inB sky
  have frm : X.A.frames = some (X.env :: X.outer) := hs ▸ okX.frames
  have inB' : ∀ b o, sG.heap.get? b = some o → b ∉ frs X.stack → gr.get? b = some o := by rw [hs]; exact inB
  refine L2N.Sky.land L2N.Zn.steady frm hf sky fun hA flA upA => ?_
  obtain ⟨obA, fvA, getA, zA, dA⟩ := flA.there
  have offFr : ea ∉ frs (X.env :: X.outer) := fun hm => (flA.2.2.1.mem hm).elim fun _ ⟨o', e', hn⟩ => by
    rw [getA] at e'
    cases e'
    exact hn _ dA
  have offL : ea ≠ X.env.locals := fun z => offFr (List.mem_filterMap.mpr ⟨X.env, List.mem_cons_self, z ▸ hf⟩)
  have offF : ea ∉ X.fs := fun hm => offFr ((List.mem_filterMap.mp hm).elim fun e ⟨he, q⟩ => List.mem_filterMap.mpr ⟨e, List.mem_cons_of_mem _ he, q⟩)
  have newG : sG.heap.get? ea = none := by
    cases e : sG.heap.get? ea with
    | none => rfl
    | some o => exact absurd ((inB ea o e offFr).symm.trans flA.2.1) (by simp)
  have new0 : X.s_0.heap.get? ea = none := by
    cases e : X.s_0.heap.get? ea with
    | none => rfl
    | some o => exact (J.base.there ea o e (by rw [hex]; simp)).elim fun o' q => absurd (q.symm.trans newG) (by simp)
  have off : ∀ p ∈ X.pn ++ pins, p.1 ≠ ea := fun p hp z => absurd ((J.pin p hp).1.symm.trans (z ▸ newG)) (by simp)
  have JA : Inv X pins σ1 H1 { sE with heap := hA } := J.landed inB' flA.1 (lift.trans upA) eos ebare
  have SA := JA.suite getA dA unk offL offF
  have clsOf : PySem.W.Looks (model X.prog X.w) hA (typeOf (.ref ea)) cls := fun _ _ _ _ k q => wpAny_typeOf_ref (k _ _ getA) (by rw [zA.1]; exact q)
  have step : ∀ (x n : Str) (c : Value) (i : Nat) (b₀ : Stmt) (suite : List Stmt) (np pos' : Pos) (ts : TS) (rest : List _) (yes : Bool), X.N[i]? = some n → X.env.kindOf n = some .local → Names X x c → (∀ (a : Addr) (pn : List (Addr × Obj)), PSs (X.suite a pn) (b₀ :: suite) ts) → PySem.W.exmOne X.K cls c = some yes →
      (yes = false → wpAny (model X.prog X.w) X.A (handleBy (.ref ea) X.env rest) (SP X pins D) X.xe { sE with heap := hA }) →
      (yes = true → ∀ a, H1 a = none → ts ⟨fun σ' H' => D.nx (σ'.set i none) H', D.rt, fun σ' H' => D.bk (σ'.set i none) H', fun σ' H' => D.ct (σ'.set i none) H'⟩ (σ1.set i (some (.ref a))) (upd H1 a (exi a cls dd))) →
      wpAny (model X.prog X.w) X.A (handleBy (.ref ea) X.env (.ExceptHandler (some (.Name x np)) (some n) (b₀ :: suite) pos' :: rest)) (SP X pins D) X.xe { sE with heap := hA } := by
    intro x n c i b₀ suite np pos' ts rest yes hi hln hc hsu hyes hout hin
    refine wpAny_handleBy_cons (codeAny_handlers_test ?_) (fun q => nomatch q)
    have look : ∀ {Q : Value → Shared → Prop} {E : Value → Shared → Prop}, Q c { sE with heap := hA } → wpAny (model X.prog X.w) (X.A.mark (some (.ref ea))) (eval (.Name x np) X.env) Q E { sE with heap := hA } := fun {Q E} q => by
      rcases hc with ⟨hg, hdb, hm | ⟨hm, hv, hnn⟩⟩
      · exact ld_glob (X := X.suite ea ((ea, obA) :: (X.pn ++ pins))) SA hg hm q hdb
      · exact ld_blt (X := X.suite ea ((ea, obA) :: (X.pn ++ pins))) SA hg hm hv q hnn hdb
    refine look ((PySem.W.exm_one (M := model X.prog X.w) JA.kIn clsOf hyes).here ?_)
    cases yes with
    | false => exact hout rfl
    | true =>
      refine codeAny_handlers_suite_as (HandSPX.lands_againZ flA fun hB flB upB => ?_)
      obtain ⟨obB, fvB, getB, zB, dB⟩ := flB.there
      have SB := (J.landed (s' := { sE with heap := hB }) inB' flB.1 ((lift.trans upA).trans upB) eos ebare).suite getB dB unk offL offF
      refine store_ok (X := X.suite ea ((ea, obB) :: (X.pn ++ pins))) (v := .ref ea) SB hN hi (.inl hln) rfl (fun s5 S5 => ?_) (.inr hln)
      refine wpAny_mono ((hsu ea (X.pn ++ pins)).run [] s5 _ _ _ (track okX S5 new0 off zB ⟨_, dB⟩) (hin rfl ea unk)) (fun fl s6 r6 => ?_) (fun _ _ z => z.elim)
      have shut : ∀ {σ6 : St} {H6 : Hp} {R : Shared → Prop}, Inv (X.suite ea (X.pn ++ pins)) [] σ6 H6 s6 → (∀ s7, Inv X pins (σ6.set i none) H6 s7 → R s7) →
          wpAny (model X.prog X.w) X.A (do bindName X.env n .none; unbindBehindTheSuite X.env n pos') (fun _ s7 => R s7) X.xe s6 := fun S6 hR => gone_ok (unsuite0 S6 okX) hN hi hln hR
      cases fl with
      | ret u => exact r6.elim fun v ⟨_, _, S6, rv, q⟩ => shut S6 fun _ J7 => ⟨v, _, _, J7, rv, q⟩
      | _ => exact r6.elim fun _ ⟨_, S6, q⟩ => shut S6 fun _ J7 => ⟨_, _, J7, q⟩
  refine step x n c i b₀ suite np pos' ts _ yes hi hln hc hsu hyes (fun h => ?_) hin
  obtain ⟨yes2, hyes2, hout2, hin2⟩ := hout h
  refine step x2 n2 c2 i2 b₂ suite2 np2 pos2' ts2 [] yes2 hi2 hln2 hc2 hsu2 hyes2 (fun h2 => ?_) hin2
  refine wpAny_handleBy_nil ?_
  obtain ⟨_, _, _, ob, fv, tr, _, _, e1, _, e3, e4, _⟩ := id flA
  have up : wpAny (model X.prog X.w) X.A (setFlight (.ref ea) X.env.frame) (fun _ s4 => wpAny (model X.prog X.w) X.A (throw (.ref ea) : Sem Flow) (SP X pins D) X.xe s4) X.xe { sE with heap := hA } := by
    rw [hf]
    exact HandSPX.setFlight_upZ flA fun h4 held u4 => wpAny_throw (tk _ _ ⟨ea, gr, sG, pins, σ1, H1, cls, dd, rfl, J, inB', (lift.trans upA).trans u4, .inr (.inr (by rw [hs]; exact held)), unk, eos, ebare, hout2 h2⟩)
  unfold PySem.passOn
  refine wpAny_bind (wpAny_field e1 e3 e4 ?_)
  rw [if_neg (show ¬ ((Value.ref tr == Value.none) = true) by simp)]
  first
    | exact wpAny_bind up
    | exact wpAny_bind (wpAny_pure (wpAny_bind up))
theorem ps_try_asT2 (hs : X.stack = X.env :: X.outer) (hf : X.env.frame = some X.env.locals) (hex : X.ex = []) (hN : X.N.Nodup) (hi : X.N[i]? = some n) (hln : X.env.kindOf n = some .local) (hc : Names X x c) (hi2 : X.N[i2]? = some n2) (hln2 : X.env.kindOf n2 = some .local) (hc2 : Names X x2 c2) (tk : L2N.Takes X Wout)
    (bod : ∀ (W : WX) (pn : List (Addr × Obj)) (xe : Value → Shared → Prop), L2N.Takes (X.tr pn xe) W → PassesOwn (model X.prog X.w) X.A X.env xe → PSs (X.tr pn xe) body (tb W))
    (hsu : ∀ (a : Addr) (pn : List (Addr × Obj)), PSs (X.suite a pn) (b₀ :: suite) ts) (hsu2 : ∀ (a : Addr) (pn : List (Addr × Obj)), PSs (X.suite a pn) (b₂ :: suite2) ts2) :
    PS X (.Try body [.ExceptHandler (some (.Name x np)) (some n) (b₀ :: suite) pos', .ExceptHandler (some (.Name x2 np2)) (some n2) (b₂ :: suite2) pos2'] [] [] pos) (fun D σ H => tb (wAsT X.K c i ts (wAsT X.K c2 i2 ts2 Wout D) D) D σ H) := by
  constructor
  intro pins s σ H D I h
  have okX := I.ok
  refine wpAny_Try_except (wpAny_mono ((bod (wAsT X.K c i ts (wAsT X.K c2 i2 ts2 Wout D) D) (X.pn ++ pins) _ (fun u s' z => caught2 hs hf hex hN hi hln hc hi2 hln2 hc2 tk hsu hsu2 okX z) PassesOwn.looking).run [] s σ H D (I.toTry _) h) (fun fl s1 r => ?_) (fun _ _ z => z))
  cases fl with
  | next => exact r.elim fun _ ⟨_, J, q⟩ => wpAny_execs_nil ⟨_, _, J.ofTry okX, q⟩
  | ret u => exact r.elim fun v ⟨_, _, J, rv, q⟩ => ⟨v, _, _, J.ofTry okX, rv, q⟩
  | _ => exact r.elim fun _ ⟨_, J, q⟩ => ⟨_, _, J.ofTry okX, q⟩
end
/-- try: .. except C as n: .. except C2 as n2: .. -/
def tTryT2 (K : PySem.W.Frag) (c : Value) (i : Nat) (c2 : Value) (i2 : Nat) (tb : WX → TS) (ts ts2 : TS) (Wout : WX) : TS := fun D σ H => tb (wAsT K c i ts (wAsT K c2 i2 ts2 Wout D) D) D σ H
/-- a def with keyword-only parameters -/
structure DfK (K : PySem.W.Frag) (x qual : Str) (st : Stmt) (f : Addr) (fd : FuncData) : Prop where
  fn : Fun K x qual st f fd
/-! ## Enum -/
/-! ### for .. in enumerate(list); tuples among the constants -/
section
variable {K : PySem.W.Frag} {σ : St} {H : Hp} {g : TG} {tb : TS} {a : Addr} {xs : List V} {nx bk ct : St → Hp → Prop} {rt : VK}
theorem l_enum (Pv : Nat → St → Hp → Prop) (h0 : Pv 0 σ H) (hl : ∀ i σ' H', i ≤ xs.length → Pv i σ' H' → SqL K H' a xs)
    (hs : ∀ i x σ' H' T, xs[i]? = some x → Pv i σ' H' → H' T = none → g (.ref T) σ' (upd H' T (.tup [.int (i : Nat), x])) fun σ2 H2 => tb ⟨Pv (i + 1), rt, nx, Pv (i + 1)⟩ σ2 H2) (hd : ∀ σ' H', Pv xs.length σ' H' → nx σ' H') : ForW (Ite K a) g tb ⟨nx, rt, bk, ct⟩ σ H := by
  refine ⟨fun i m σ' H' => m + i = xs.length ∧ Pv i σ' H', ⟨xs.length, rfl, h0⟩, fun i m σ' H' h => ?_⟩
  obtain ⟨hm, hp⟩ := h
  have q := hl i σ' H' (by omega) hp
  cases m with
  | zero =>
    have e : i = xs.length := by omega
    subst e
    exact .inl ⟨⟨xs, q, Nat.le_refl _⟩, hd σ' H' hp⟩
  | succ m =>
    have hi : xs[i]? = some (xs[i]'(by omega)) := List.getElem?_eq_getElem _
    refine .inr ⟨⟨xs, _, q, hi⟩, Pv (i + 1), fun σ2 H2 p2 => ⟨m, by omega, by omega, p2⟩, fun v H2 y => ?_⟩
    obtain ⟨T, x, rfl, hT, rfl, hx⟩ := y
    exact hs i x σ' H' T (hx xs q) hp hT
instance s_forE {D : Ends} {ta : TA} : Stp (tFor (iEnum K ta) g tb D σ H) (ta σ H fun vs H1 => ∃ a xs, vs = [.ref a] ∧ SqL K H1 a xs ∧ ForW (Ite K a) g tb D σ H1) := ⟨fun h => h⟩
end
/-- a tuple of ints among the constants -/
def KTup (K : PySem.W.Frag) (a : Addr) (l : List Int) : Prop := ∃ (o : Obj) (its : Array Value) (n : Nat), K.lookup a = some o ∧ o.cls = .type "tuple" ∧ o.data = .seq its n ∧ its.size ≤ sizeLine ∧ Vals (l.map V.int) its.toList
theorem KTup.sq {K : PySem.W.Frag} {a : Addr} {l : List Int} {H : Hp} (h : KTup K a l) : SqT K H a (l.map V.int) := .inr h
/-! ## Alike -/
/-! ### alike: two data that are one -/
mutual
def Dt.flat : Dt → Bool
  | .lst l => decide (l.length ≤ 10000) && Dt.flatL l
  | .tup l => decide (l.length ≤ 10000) && Dt.flatL l
  | .dic _ => false
  | _ => true
def Dt.flatL : List Dt → Bool
  | [] => true
  | d :: r => d.flat && Dt.flatL r
end
theorem flatL_get : ∀ {l : List Dt} {i : Nat} {d : Dt}, Dt.flatL l = true → l[i]? = some d → d.flat = true
  | [], _, _, _, h => by simp at h
  | x :: r, 0, d, h, e => by
    simp at e
    subst e
    exact (Bool.and_eq_true_iff.mp (by simpa [Dt.flatL] using h)).1
  | x :: r, i + 1, d, h, e => flatL_get (l := r) (i := i) (Bool.and_eq_true_iff.mp (by simpa [Dt.flatL] using h)).2 (by simpa using e)
theorem depL_get : ∀ {l : List Dt} {i : Nat} {d : Dt}, l[i]? = some d → d.dep ≤ Dt.depL l
  | [], _, _, h => by simp at h
  | x :: r, 0, d, e => by
    simp at e
    subst e
    simp only [Dt.depL]
    omega
  | x :: r, i + 1, d, e => by
    have := depL_get (l := r) (i := i) (d := d) (by simpa using e)
    simp only [Dt.depL]
    omega
def sp_alike : Nat → Sp
  | 0 => fun _ _ _ _ => False
  | n + 1 => fun vs H Q _ => ∃ (va vb : V) (d : Dt), vs = [va, vb] ∧ At H va d ∧ At H vb d ∧ d.dep ≤ n ∧ d.flat = true ∧ ∀ H', Same H H' → Q (.bl true) H'
theorem c_alike {n : Nat} {va vb : V} {d : Dt} {H : Hp} {Q : VK} {E : XK} (h1 : At H va d) (h2 : At H vb d) (h3 : d.dep ≤ n) (h4 : d.flat = true) (h : ∀ H', Same H H' → Q (.bl true) H') : sp_alike (n + 1) [va, vb] H Q E := ⟨va, vb, d, rfl, h1, h2, h3, h4, h⟩
/-- bools compared -/
theorem i_neB {a b : Bool} {H : Hp} {Q : VK} (q : Q (.bl (a != b)) H) : rNe (.bl a) (.bl b) H Q := ⟨rfl, by
  have e : (!decide (V.bl a = V.bl b)) = (a != b) := by cases a <;> cases b <;> rfl
  rw [e]
  exact q⟩
instance s_neB {a b : Bool} {H : Hp} {Q : VK} : Stp (rNe (.bl a) (.bl b) H Q) (Q (.bl (a != b)) H) := ⟨i_neB⟩
theorem i_eqB {a b : Bool} {H : Hp} {Q : VK} (q : Q (.bl (a == b)) H) : rEq (.bl a) (.bl b) H Q := ⟨rfl, by
  have e : decide (V.bl a = V.bl b) = (a == b) := by cases a <;> cases b <;> rfl
  rw [e]
  exact q⟩
instance s_eqB {a b : Bool} {H : Hp} {Q : VK} : Stp (rEq (.bl a) (.bl b) H Q) (Q (.bl (a == b)) H) := ⟨i_eqB⟩
theorem i_ixSL {K : PySem.W.Frag} {H : Hp} {Q : VK} {p : Addr} {xs : List V} {i : Int} {v : V} (h : SqL K H p xs) (e : atI xs i = some v) (q : Q v H) : rIx K (.ref p) (.int i) H Q := .inl (i_ixL h e q)
theorem i_ixST {K : PySem.W.Frag} {H : Hp} {Q : VK} {p : Addr} {xs : List V} {i : Int} {v : V} (h : SqT K H p xs) (e : atI xs i = some v) (q : Q v H) : rIx K (.ref p) (.int i) H Q := .inr (.inl (i_ixT h e q))
theorem i_all {K : PySem.W.Frag} {H : Hp} {Q : VK} {a : Addr} {m : Nat} (h : H a = some (.lst (List.replicate m (.bl true)))) (q : Q (.bl true) H) : rAll K [.ref a] H Q := by
  refine ⟨a, List.replicate m true, rfl, sqL (by rw [List.map_replicate]; exact h), ?_⟩
  rw [List.all_replicate]
  cases m <;> exact q
theorem nz {x : V} (h : x ≠ .non) : ¬ (x = .non) := h
def N_l_alike : List Str := ["_law_actual", "_law_due_here", "_law_k"]
def t_l_alike (K : PySem.W.Frag) (n : Nat) : TS := (tSeq (tIfS (tOr (tTest (tOp oIsN (tVar 1) (tC .non))) (tTest (tOp oIsN (tVar 0) (tC .non)))) (tRet (tAndV (tOp oIsN (tVar 1) (tC .non)) (tOp oIsN (tVar 0) (tC .non)))) tNext)
  (tSeq (tIfS (tOr (tB (tCB (rIsi K) (tCons (tVar 1) (tCons (tC (.ty "list")) tNil)))) (tB (tCB (rIsi K) (tCons (tVar 1) (tCons (tC (.ty "tuple")) tNil))))) (tSeq (tIfS (tOr (tTest (tOp rNe (tCB (rIsi K) (tCons (tVar 0) (tCons (tC (.ty "list")) tNil))) (tCB (rIsi K) (tCons (tVar 1) (tCons (tC (.ty "list")) tNil))))) (tTest (tOp rNe (tCB (rIsi K) (tCons (tVar 0) (tCons (tC (.ty "tuple")) tNil))) (tCB (rIsi K) (tCons (tVar 1) (tCons (tC (.ty "tuple")) tNil)))))) (tRet (tC (.bl false))) tNext)
  (tRet (tAndV (tOp rEq (tCB (rLen K) (tCons (tVar 0) tNil)) (tCB (rLen K) (tCons (tVar 1) tNil))) (tCB (rAll K) (tCons (tLc (iRng1 (tCons (tCB (rLen K) (tCons (tVar 1) tNil)) tNil)) (gName 2) tYes (tCall (sp_alike n) [] E0 (tCons (tOp (rIx K) (tVar 0) (tVar 2)) (tCons (tOp (rIx K) (tVar 1) (tVar 2)) tNil))) [2]) tNil))))) tNext)
  (tSeq (tIfS (tTest (tOp rNe (tCB (rIsi K) (tCons (tVar 1) (tCons (tC (.ty "bool")) tNil))) (tCB (rIsi K) (tCons (tVar 0) (tCons (tC (.ty "bool")) tNil))))) (tRet (tC (.bl false))) tNext)
  (tSeq (tIfS (tB (tCB (rIsi K) (tCons (tVar 1) (tCons (tC (.ty "int")) tNil)))) (tRet (tAndV (tCB (rIsi K) (tCons (tVar 0) (tCons (tC (.ty "int")) tNil))) (tOp rEq (tVar 0) (tVar 1)))) tNext)
  (tRet (tAndV (tCB (rIsi K) (tCons (tVar 0) (tCons (tC (.ty "str")) tNil))) (tOp rEq (tVar 0) (tVar 1))))))))
/-- the walk over two rows that hold the same data -/
theorem alike_row {K : PySem.W.Frag} {n : Nat} {a b : Addr} {xs ys : List V} {ds : List Dt} {H : Hp} {Q : VK} {x : Option V} (A : ∀ H', Same H H' → ∀ (i : Int) v (Q' : VK), atI xs i = some v → Q' v H' → rIx K (.ref a) (.int i) H' Q') (B : ∀ H', Same H H' → ∀ (i : Int) v (Q' : VK), atI ys i = some v → Q' v H' → rIx K (.ref b) (.int i) H' Q')
    (h1 : Ats H xs ds) (h2 : Ats H ys ds) (hl : ds.length ≤ 10000) (hd : Dt.depL ds + 1 ≤ n) (hf : Dt.flatL ds = true) (k : ∀ D H', Same H H' → H' D = some (.lst (List.replicate ds.length (.bl true))) → Q (.ref D) H') :
    LcW (Itr 0 ds.length) (gName 2) tYes (tCall (sp_alike n) [] E0 (tCons (tOp (rIx K) (tVar 0) (tVar 2)) (tCons (tOp (rIx K) (tVar 1) (tVar 2)) tNil))) [2] [some (.ref a), some (.ref b), x] H Q := by
  refine m_rng (fun D i H' => Same H H' ∧ H D = none ∧ H' D = some (.lst (List.replicate i (.bl true)))) ?_ ?_ ?_
  · exact fun D hD => ⟨same_new hD, hD, upd_same⟩
  · rintro D i H' hi ⟨s1, s2, s3⟩
    obtain ⟨d, hd'⟩ : ∃ d, ds[i]? = some d := ⟨_, List.getElem?_eq_getElem hi⟩
    obtain ⟨va, ea, ha⟩ := h1.get hd'
    obtain ⟨vb, eb, hb⟩ := h2.get hd'
    fold_lay
    refine ⟨rfl, ?_⟩
    fold_lay
    refine A H' s1 _ va _ (at_of (j := i) (by omega) ea) ?_
    fold_lay
    refine B H' s1 _ vb _ (at_of (j := i) (by omega) eb) ?_
    fold_lay
    cases n with
    | zero => omega
    | succ m =>
      have hdd := depL_get hd'
      refine c_alike (ha.mono s1) (hb.mono s1) (by omega) (flatL_get hf hd') fun H2 s4 => ?_
      refine ⟨_, s4 _ _ s3, szl (by rw [List.length_replicate]; omega), ?_, s2, ?_⟩
      · exact fun c o e => upd_off (ne_of_none e s2) (s4 _ _ (s1 _ _ e))
      · rw [upd_same, List.replicate_succ']
  · rintro D H' ⟨s1, s2, s3⟩
    exact k D H' s1 s3
theorem pure_alike {K : PySem.W.Frag} {n : Nat} {vs : List V} {H : Hp} {Q : VK} {E : XK} (h : sp_alike (n + 1) vs H Q E) : t_l_alike K n { nx := fun _ H' => Q .non H', rt := Q } (start N_l_alike vs) H := by
  obtain ⟨va, vb, d, rfl, h1, h2, h3, h4, k⟩ := h
  unfold t_l_alike
  cases h1 with
  | non => cases h2; kbj_rows; exact k H (Same.refl H)
  | bl b =>
    cases h2
    have t1 : Ty0 H (.bl b) "bool" := .bl b
    kbj_rows
    rw [beq_self_eq_true]
    exact k H (Same.refl H)
  | int i =>
    cases h2
    have t1 : Ty0 H (.int i) "int" := .int i
    kbj_rows
    rw [decide_eq_true rfl]
    exact k H (Same.refl H)
  | str x =>
    cases h2
    have t1 : Ty0 H (.str x) "str" := .str x
    kbj_rows
    rw [decide_eq_true rfl]
    exact k H (Same.refl H)
  | @lst a xs ds ea ha =>
    cases h2 with
    | @lst b ys _ eb hb =>
      have t1 : Ty0 H (.ref a) "list" := .lst ea
      have t2 : Ty0 H (.ref b) "list" := .lst eb
      have l1 := ha.length
      have l2 := hb.length
      simp only [Dt.flat, Bool.and_eq_true] at h4
      have f1 := of_decide_eq_true h4.1
      have h3' : Dt.depL ds + 1 ≤ n := by simpa only [Dt.dep] using h3
      kbj_rows
      refine i_yes (by omega) ?_
      kbj_rows
      refine c_rng1 (by omega) (by omega) ?_
      rw [show (ys.length : Int).toNat = ds.length by omega]
      refine alike_row (fun H' s i v Q' e q => i_ixSL (sqL (s _ _ ea)) e q) (fun H' s i v Q' e q => i_ixSL (sqL (s _ _ eb)) e q) ha hb f1 h3' h4.2 fun D H' s1 hD => ?_
      kbj_rows
      exact i_all hD (k H' s1)
  | @tup a xs ds ea ha =>
    cases h2 with
    | @tup b ys _ eb hb =>
      have t1 : Ty0 H (.ref a) "tuple" := .tup ea
      have t2 : Ty0 H (.ref b) "tuple" := .tup eb
      have l1 := ha.length
      have l2 := hb.length
      simp only [Dt.flat, Bool.and_eq_true] at h4
      have f1 := of_decide_eq_true h4.1
      have h3' : Dt.depL ds + 1 ≤ n := by simpa only [Dt.dep] using h3
      kbj_rows
      refine i_yes (by omega) ?_
      kbj_rows
      refine c_rng1 (by omega) (by omega) ?_
      rw [show (ys.length : Int).toNat = ds.length by omega]
      refine alike_row (fun H' s i v Q' e q => i_ixST (sqT (s _ _ ea)) e q) (fun H' s i v Q' e q => i_ixST (sqT (s _ _ eb)) e q) ha hb f1 h3' h4.2 fun D H' s1 hD => ?_
      kbj_rows
      exact i_all hD (k H' s1)
  | dic h hs => cases h4
/-! ## Data -/
/-! ### data: the same, a copy -/
def rLenD : List V → Hp → VK → Prop := fun vs G R => ∃ a kvs, vs = [V.ref a] ∧ G a = some (.dK kvs) ∧ R (.int kvs.length) G
def rListDk : List V → Hp → VK → Prop := fun vs G R => ∃ (a : Addr) (kvs : List (Key × V)), vs = [.ref a] ∧ Rd G a (.dK kvs) ∧ ∀ p, G p = none → R (.ref p) (upd G p (.lst (kvs.map fun kv => kV kv.1)))
theorem okL_get : ∀ {l : List Dt} {i : Nat} {d : Dt}, Dt.okL l = true → l[i]? = some d → d.okd = true
  | [], i, d, _, e => by simp at e
  | x :: r, i, d, h, e => by
    simp only [Dt.okL, Bool.and_eq_true] at h
    cases i with
    | zero =>
      simp at e
      rw [← e]
      exact h.1
    | succ i => exact okL_get (i := i) h.2 (by simpa using e)
theorem okK_mem : ∀ {l : List (Str × Dt)} {p : Str × Dt}, Dt.okK l = true → p ∈ l → p.2.okd = true ∧ p.2.dep ≤ Dt.depK l
  | [], p, _, e => by cases e
  | (k, x) :: r, p, h, e => by
    simp only [Dt.okK, Bool.and_eq_true] at h
    simp only [Dt.depK]
    rcases List.mem_cons.mp e with e | e
    · rw [e]
      exact ⟨h.1, by show x.dep ≤ _; omega⟩
    · have q := okK_mem h.2 e
      exact ⟨q.1, by omega⟩
theorem Atk.length {H : Hp} : ∀ {kvs : List (Key × V)} {ds : List (Str × Dt)}, Atk H kvs ds → kvs.length = ds.length
  | _, _, .nil => rfl
  | _, _, .cons _ hs => congrArg (· + 1) (Atk.length hs)
theorem Atk.keys {H : Hp} : ∀ {kvs : List (Key × V)} {ds : List (Str × Dt)}, Atk H kvs ds → (kvs.map fun kv => kV kv.1) = ds.map fun kd => V.str kd.1
  | _, _, .nil => rfl
  | _, _, .cons (k := k) _ hs => by
    rw [List.map_cons, List.map_cons, Atk.keys hs]
    rfl
theorem valV_cons {k j : Key} {v : V} {r : List (Key × V)} : valV ((j, v) :: r) k = if j = k then some v else valV r k := by
  unfold valV
  rw [List.find?_cons]
  by_cases h : j = k
  · rw [if_pos h]
    have : decide (j = k) = true := decide_eq_true h
    simp [this]
  · rw [if_neg h]
    have : decide (j = k) = false := decide_eq_false h
    simp [this]
/-- the value under a key that is there -/
theorem Atk.find {H : Hp} : ∀ {kvs : List (Key × V)} {ds : List (Str × Dt)} {k : Str} {d : Dt}, Atk H kvs ds → (ds.map (·.1)).Nodup → (k, d) ∈ ds → ∃ v, valV kvs (Sum.inr k) = some v ∧ At H v d
  | _, _, k, d, .nil, _, h => by cases h
  | _, _, k, d, .cons (k := j) (v := v) (d := e) hv hs, nd, h => by
    rw [valV_cons]
    rw [List.map_cons, List.nodup_cons] at nd
    rcases List.mem_cons.mp h with h | h
    · cases h
      rw [if_pos rfl]
      exact ⟨v, rfl, hv⟩
    · have nj : j ≠ k := fun z => nd.1 (by rw [z]; exact List.mem_map.mpr ⟨(k, d), h, rfl⟩)
      rw [if_neg (fun z => nj (Sum.inr.inj z))]
      exact Atk.find hs nd.2 h
def sp_is_int (K : PySem.W.Frag) : Sp := fun vs H Q _ => ∃ (v : V) (n : String), vs = [v] ∧ Ty0 H v n ∧ Q (.bl (vI v)) H
theorem c_is_int {K : PySem.W.Frag} {v : V} {n : String} {H : Hp} {Q : VK} {E : XK} (h : Ty0 H v n) (q : Q (.bl (vI v)) H) : sp_is_int K [v] H Q E := ⟨v, n, rfl, h, q⟩
def N_l_is_int : List Str := ["_law_value"]
def t_l_is_int (K : PySem.W.Frag) : TS := (tRet (tAndV (tCB (rIsi K) (tCons (tVar 0) (tCons (tC (.ty "int")) tNil))) (tNotV (tCB (rIsi K) (tCons (tVar 0) (tCons (tC (.ty "bool")) tNil))))))
theorem pure_is_int {K : PySem.W.Frag} {vs : List V} {H : Hp} {Q : VK} {E : XK} (h : sp_is_int K vs H Q E) : t_l_is_int K { nx := fun _ H' => Q .non H', rt := Q } (start N_l_is_int vs) H := by
  obtain ⟨v, n, rfl, ht, q⟩ := h
  exact pure_is_whole (K := K) (E := E) ⟨v, n, rfl, ht, q⟩
def Dt.eqI (j : Int) : Dt → Bool
  | .int i => decide (i = j)
  | _ => false
/-- what `same` says of two data, where we need it -/
def SameIs (d1 d2 : Dt) (b : Bool) : Prop := (d1 = d2 ∧ b = true) ∨ ∃ j, d2 = .int j ∧ b = d1.eqI j
def sp_same : Nat → Sp
  | 0 => fun _ _ _ _ => False
  | n + 1 => fun vs H Q _ => ∃ (va vb : V) (d1 d2 : Dt) (b : Bool), vs = [va, vb] ∧ At H va d1 ∧ At H vb d2 ∧ SameIs d1 d2 b ∧ d1.dep ≤ n ∧ d1.okd = true ∧ ∀ H', Same H H' → Q (.bl b) H'
theorem c_same {n : Nat} {va vb : V} {d : Dt} {H : Hp} {Q : VK} {E : XK} (h1 : At H va d) (h2 : At H vb d) (h3 : d.dep ≤ n) (h4 : d.okd = true) (h : ∀ H', Same H H' → Q (.bl true) H') : sp_same (n + 1) [va, vb] H Q E := ⟨va, vb, d, d, true, rfl, h1, h2, .inl ⟨rfl, rfl⟩, h3, h4, h⟩
theorem c_sameI {n : Nat} {va : V} {d : Dt} {j : Int} {H : Hp} {Q : VK} {E : XK} (h1 : At H va d) (h3 : d.dep ≤ n) (h4 : d.okd = true) (h : ∀ H', Same H H' → Q (.bl (d.eqI j)) H') : sp_same (n + 1) [va, .int j] H Q E := ⟨va, .int j, d, .int j, _, rfl, h1, .int j, .inr ⟨j, rfl, rfl⟩, h3, h4, h⟩
theorem i_lenD {H : Hp} {Q : VK} {a : Addr} {kvs : List (Key × V)} (h : H a = some (.dK kvs)) (q : Q (.int kvs.length) H) : rLenD [.ref a] H Q := ⟨a, kvs, rfl, h, q⟩
theorem i_dget {σ : St} {H : Hp} {Q : VK} {td ty : TE} (h : td σ H fun x H1 => ty σ H1 fun y H2 => ∃ a v, x = .ref a ∧ DGet H2 a y (some v) ∧ Q v H2) : tDGet td ty σ H Q := h
instance s_dget {σ : St} {H : Hp} {Q : VK} {td ty : TE} : Stp (tDGet td ty σ H Q) (td σ H fun x H1 => ty σ H1 fun y H2 => ∃ a v, x = .ref a ∧ DGet H2 a y (some v) ∧ Q v H2) := ⟨i_dget⟩
theorem i_dnotin {σ : St} {H : Hp} {Q : VK} {td ty : TE} (h : ty σ H fun y H1 => td σ H1 fun x H2 => ∃ a o, x = .ref a ∧ DGet H2 a y o ∧ Q (.bl (!o.isSome)) H2) : tDNotIn ty td σ H Q := h
instance s_dnotin {σ : St} {H : Hp} {Q : VK} {td ty : TE} : Stp (tDNotIn ty td σ H Q) (ty σ H fun y H1 => td σ H1 fun x H2 => ∃ a o, x = .ref a ∧ DGet H2 a y o ∧ Q (.bl (!o.isSome)) H2) := ⟨i_dnotin⟩
theorem dget_k {H : Hp} {a : Addr} {kvs : List (Key × V)} {k : Str} {v : V} (h : H a = some (.dK kvs)) (e : valV kvs (Sum.inr k) = some v) : DGet H a (.str k) (some v) := by
  rw [← e]
  exact DGet.k (k := Sum.inr k) h
instance s_dput {σ : St} {H : Hp} {D : Ends} {td ty tv : TE} : Stp (sDPut td ty tv D σ H) (tv σ H fun v H1 => td σ H1 fun x H2 => ty σ H2 fun y H3 => ∃ a H4, x = .ref a ∧ DPut H3 a y v H4 ∧ D.nx σ H4) := ⟨fun h => h⟩
/-- a test of the built-in class -/
theorem isi {K : PySem.W.Frag} {H : Hp} {Q : VK} {v : V} {d : Dt} (h : At H v d) (c : String) (b : Bool) (e : kitB d.ty c = some b) (q : Q (.bl b) H) : rIsi K [v, .ty c] H Q := i_isi h.ty e q
def N_l_same : List Str := ["_law_actual", "_law_expected", "_law_key", "_law_k"]
def t_l_same (K : PySem.W.Frag) (n : Nat) : TS := (tSeq (tIfS (tOr (tTest (tOp oIsN (tVar 0) (tC .non))) (tTest (tOp oIsN (tVar 1) (tC .non)))) (tRet (tAndV (tOp oIsN (tVar 0) (tC .non)) (tOp oIsN (tVar 1) (tC .non)))) tNext)
  (tSeq (tIfS (tOr (tB (tCB (rIsi K) (tCons (tVar 0) (tCons (tC (.ty "bool")) tNil)))) (tB (tCB (rIsi K) (tCons (tVar 1) (tCons (tC (.ty "bool")) tNil))))) (tRet (tAndV (tCB (rIsi K) (tCons (tVar 0) (tCons (tC (.ty "bool")) tNil))) (tAndV (tCB (rIsi K) (tCons (tVar 1) (tCons (tC (.ty "bool")) tNil))) (tOp rEq (tVar 0) (tVar 1))))) tNext)
  (tSeq (tIfS (tB (tCB (rIsi K) (tCons (tVar 1) (tCons (tC (.ty "int")) tNil)))) (tRet (tAndV (tCB (rIsi K) (tCons (tVar 0) (tCons (tC (.ty "int")) tNil))) (tOp rEq (tVar 0) (tVar 1)))) tNext)
  (tSeq (tIfS (tB (tCB (rIsi K) (tCons (tVar 1) (tCons (tC (.ty "str")) tNil)))) (tRet (tAndV (tCB (rIsi K) (tCons (tVar 0) (tCons (tC (.ty "str")) tNil))) (tOp rEq (tVar 0) (tVar 1)))) tNext)
  (tSeq (tIfS (tB (tCB (rIsi K) (tCons (tVar 1) (tCons (tC (.ty "dict")) tNil)))) (tSeq (tIfS (tOr (tNot (tB (tCB (rIsi K) (tCons (tVar 0) (tCons (tC (.ty "dict")) tNil))))) (tTest (tOp rNe (tCB rLenD (tCons (tVar 0) tNil)) (tCB rLenD (tCons (tVar 1) tNil))))) (tRet (tC (.bl false))) tNext)
  (tSeq (tFor (iList K (tCB rListDk (tCons (tVar 1) tNil))) (gName 2) (tIfS (tOr (tB (tDNotIn (tVar 2) (tVar 0))) (tNot (tB (tCall (sp_same n) [] E0 (tCons (tDGet (tVar 0) (tVar 2)) (tCons (tDGet (tVar 1) (tVar 2)) tNil)))))) (tRet (tC (.bl false))) tNext))
  (tRet (tC (.bl true))))) tNext)
  (tSeq (tIfS (tTest (tOp rNe (tCB (rIsi K) (tCons (tVar 1) (tCons (tC (.ty "list")) tNil))) (tCB (rIsi K) (tCons (tVar 0) (tCons (tC (.ty "list")) tNil))))) (tRet (tC (.bl false))) tNext)
  (tSeq (tIfS (tTest (tOp rNe (tCB (rIsi K) (tCons (tVar 1) (tCons (tC (.ty "tuple")) tNil))) (tCB (rIsi K) (tCons (tVar 0) (tCons (tC (.ty "tuple")) tNil))))) (tRet (tC (.bl false))) tNext)
  (tSeq (tIfS (tOr (tAnd (tNot (tB (tCB (rIsi K) (tCons (tVar 1) (tCons (tC (.ty "list")) tNil))))) (tNot (tB (tCB (rIsi K) (tCons (tVar 1) (tCons (tC (.ty "tuple")) tNil)))))) (tTest (tOp rNe (tCB (rLen K) (tCons (tVar 0) tNil)) (tCB (rLen K) (tCons (tVar 1) tNil))))) (tRet (tC (.bl false))) tNext)
  (tSeq (tFor (iRng1 (tCons (tCB (rLen K) (tCons (tVar 1) tNil)) tNil)) (gName 3) (tIfS (tNot (tB (tCall (sp_same n) [] E0 (tCons (tOp (rIx K) (tVar 0) (tVar 3)) (tCons (tOp (rIx K) (tVar 1) (tVar 3)) tNil))))) (tRet (tC (.bl false))) tNext))
  (tRet (tC (.bl true))))))))))))

/-- the walk over two rows that hold the same data -/
theorem same_row {K : PySem.W.Frag} {n : Nat} {a b : Addr} {xs ys : List V} {ds : List Dt} {H : Hp} {Q : VK} {x y : Option V} {nx bk ct : St → Hp → Prop} (A : ∀ H', Same H H' → ∀ (i : Int) v (Q' : VK), atI xs i = some v → Q' v H' → rIx K (.ref a) (.int i) H' Q') (B : ∀ H', Same H H' → ∀ (i : Int) v (Q' : VK), atI ys i = some v → Q' v H' → rIx K (.ref b) (.int i) H' Q')
    (h1 : Ats H xs ds) (h2 : Ats H ys ds) (hl : ds.length ≤ 10000) (hd : Dt.depL ds + 1 ≤ n) (hf : Dt.okL ds = true) (k : ∀ σ' H', Same H H' → nx σ' H') :
    ForW (Itr 0 ds.length) (gName 3) (tIfS (tNot (tB (tCall (sp_same n) [] E0 (tCons (tOp (rIx K) (tVar 0) (tVar 3)) (tCons (tOp (rIx K) (tVar 1) (tVar 3)) tNil))))) (tRet (tC (.bl false))) tNext) ⟨nx, Q, bk, ct⟩ [some (.ref a), some (.ref b), x, y] H := by
  refine l_rng (fun i σ H' => Same H H' ∧ ∃ y, σ = [some (.ref a), some (.ref b), x, y]) ⟨Same.refl H, y, rfl⟩ ?_ ?_
  · rintro i σ H' hi ⟨s1, y, rfl⟩
    obtain ⟨d, hd'⟩ : ∃ d, ds[i]? = some d := ⟨_, List.getElem?_eq_getElem hi⟩
    obtain ⟨va, ea, ha⟩ := h1.get hd'
    obtain ⟨vb, eb, hb⟩ := h2.get hd'
    fold_lay
    refine A H' s1 _ va _ (at_of (j := i) (by omega) ea) ?_
    fold_lay
    refine B H' s1 _ vb _ (at_of (j := i) (by omega) eb) ?_
    fold_lay
    cases n with
    | zero => omega
    | succ m =>
      have hdd := depL_get hd'
      refine c_same (ha.mono s1) (hb.mono s1) (by omega) (okL_get hf hd') fun H2 s4 => ?_
      fold_lay
      exact ⟨s1.trans s4, _, rfl⟩
  · rintro σ H' ⟨s1, _⟩
    exact k σ H' s1
theorem pure_same {K : PySem.W.Frag} {n : Nat} {vs : List V} {H : Hp} {Q : VK} {E : XK} (h : sp_same (n + 1) vs H Q E) : t_l_same K n { nx := fun _ H' => Q .non H', rt := Q } (start N_l_same vs) H := by
  obtain ⟨va, vb, d1, d2, b, rfl, h1, h2, hb, h3, h4, k⟩ := h
  unfold t_l_same
  rcases hb with ⟨rfl, rfl⟩ | ⟨j, rfl, rfl⟩
  rotate_left
  · cases h2
    have t0 : Ty0 H (.int j) "int" := .int j
    have t1 := h1.ty
    cases h1 with
    | non => kbj_rows; exact k H (Same.refl H)
    | bl b => simp only [Dt.ty] at t1; kbj_rows; exact k H (Same.refl H)
    | int i => simp only [Dt.ty] at t1; kbj_rows; exact k H (Same.refl H)
    | str x => simp only [Dt.ty] at t1; kbj_rows; exact k H (Same.refl H)
    | lst ea ha => simp only [Dt.ty] at t1; kbj_rows; exact k H (Same.refl H)
    | tup ea ha => simp only [Dt.ty] at t1; kbj_rows; exact k H (Same.refl H)
    | dic ea ha => simp only [Dt.ty] at t1; kbj_rows; exact k H (Same.refl H)
  cases h1 with
  | non => cases h2; kbj_rows; exact k H (Same.refl H)
  | bl b =>
    cases h2
    have t1 : Ty0 H (.bl b) "bool" := .bl b
    kbj_rows
    rw [beq_self_eq_true]
    exact k H (Same.refl H)
  | int i =>
    cases h2
    have t1 : Ty0 H (.int i) "int" := .int i
    kbj_rows
    rw [decide_eq_true rfl]
    exact k H (Same.refl H)
  | str x =>
    cases h2
    have t1 : Ty0 H (.str x) "str" := .str x
    kbj_rows
    rw [decide_eq_true rfl]
    exact k H (Same.refl H)
  | @lst a xs ds ea ha =>
    cases h2 with
    | @lst b ys _ eb hb =>
      have t1 : Ty0 H (.ref a) "list" := .lst ea
      have t2 : Ty0 H (.ref b) "list" := .lst eb
      have l1 := ha.length
      have l2 := hb.length
      simp only [Dt.okd, Bool.and_eq_true] at h4
      have f1 := of_decide_eq_true h4.1
      have h3' : Dt.depL ds + 1 ≤ n := by simpa only [Dt.dep] using h3
      kbj_rows
      refine i_ifn (fun z => absurd (by omega) z) (fun _ => ?_)
      kbj_rows
      refine f_rng1 (by omega) (by omega) ?_
      rw [show (ys.length : Int).toNat = ds.length by omega]
      refine same_row (fun H' s i v Q' e q => i_ixSL (sqL (s _ _ ea)) e q) (fun H' s i v Q' e q => i_ixSL (sqL (s _ _ eb)) e q) ha hb f1 h3' h4.2 fun σ' H' s1 => ?_
      kbj_rows
      exact k H' s1
  | @tup a xs ds ea ha =>
    cases h2 with
    | @tup b ys _ eb hb =>
      have t1 : Ty0 H (.ref a) "tuple" := .tup ea
      have t2 : Ty0 H (.ref b) "tuple" := .tup eb
      have l1 := ha.length
      have l2 := hb.length
      simp only [Dt.okd, Bool.and_eq_true] at h4
      have f1 := of_decide_eq_true h4.1
      have h3' : Dt.depL ds + 1 ≤ n := by simpa only [Dt.dep] using h3
      kbj_rows
      refine i_ifn (fun z => absurd (by omega) z) (fun _ => ?_)
      kbj_rows
      refine f_rng1 (by omega) (by omega) ?_
      rw [show (ys.length : Int).toNat = ds.length by omega]
      refine same_row (fun H' s i v Q' e q => i_ixST (sqT (s _ _ ea)) e q) (fun H' s i v Q' e q => i_ixST (sqT (s _ _ eb)) e q) ha hb f1 h3' h4.2 fun σ' H' s1 => ?_
      kbj_rows
      exact k H' s1
  | @dic a kv1 ds ea ha =>
    cases h2 with
    | @dic b kv2 _ eb hb =>
      have t1 : Ty0 H (.ref a) "dict" := .dic ea
      have t2 : Ty0 H (.ref b) "dict" := .dic eb
      have l1 := ha.length
      have l2 := hb.length
      simp only [Dt.okd, Bool.and_eq_true] at h4
      have f1 := of_decide_eq_true h4.1.1
      have f2 := of_decide_eq_true h4.1.2
      have h3' : Dt.depK ds + 1 ≤ n := by simpa only [Dt.dep] using h3
      kbj_rows
      refine i_lenD ea ?_
      kbj_rows
      refine i_lenD eb ?_
      kbj_rows
      refine i_ifn (fun z => absurd (by omega) z) (fun _ => ?_)
      kbj_rows
      refine ⟨b, kv2, rfl, .inl eb, fun p hp => ?_⟩
      rw [hb.keys]
      refine f_lst (sqL upd_same) (l_lst (fun i σ H' => Same (upd H p (.lst (ds.map fun kd => V.str kd.1))) H' ∧ ∃ x y, σ = [some (.ref a), some (.ref b), x, y]) ⟨Same.refl _, _, _, rfl⟩ (fun i σ H' _ h => sqL (h.1 _ _ upd_same)) ?_ ?_)
      · rintro i x σ H' hx ⟨s1, y, z, rfl⟩
        have s0 := (same_new (o := .lst (ds.map fun kd => V.str kd.1)) hp).trans s1
        rw [List.getElem?_map, Option.map_eq_some_iff] at hx
        obtain ⟨⟨kk, d⟩, hk, rfl⟩ := hx
        have hm := List.mem_of_getElem? hk
        obtain ⟨v1, e1, a1⟩ := ha.find f2 hm
        obtain ⟨v2, e2, a2⟩ := hb.find f2 hm
        have ok := okK_mem h4.2 hm
        kbj_rows
        refine ⟨a, some v1, rfl, dget_k (s0 _ _ ea) e1, ?_⟩
        kbj_rows
        refine i_ifF ?_
        kbj_rows
        refine ⟨a, v1, rfl, dget_k (s0 _ _ ea) e1, ?_⟩
        kbj_rows
        refine ⟨b, v2, rfl, dget_k (s0 _ _ eb) e2, ?_⟩
        kbj_rows
        cases n with
        | zero => omega
        | succ m =>
          refine c_same (a1.mono s0) (a2.mono s0) (by have := ok.2; simp only at this; omega) ok.1 fun H2 s4 => ?_
          kbj_rows
          exact ⟨s1.trans s4, _, _, rfl⟩
      · rintro σ H' ⟨s1, _⟩
        kbj_rows
        exact k H' ((same_new hp).trans s1)

def sp_copy : Nat → Sp
  | 0 => fun _ _ _ _ => False
  | n + 1 => fun vs H Q _ => ∃ (v : V) (d : Dt), vs = [v] ∧ At H v d ∧ d.dep ≤ n ∧ d.okd = true ∧ ∀ v' H', At (nw H H') v' d → Same H H' → Q v' H'
theorem c_copy {n : Nat} {v : V} {d : Dt} {H : Hp} {Q : VK} {E : XK} (h1 : At H v d) (h3 : d.dep ≤ n) (h4 : d.okd = true) (h : ∀ v' H', At (nw H H') v' d → Same H H' → Q v' H') : sp_copy (n + 1) [v] H Q E := ⟨v, d, rfl, h1, h3, h4, h⟩
/-- what was copied ahead stays beside the growing row at D -/
theorem beside_old {H H1 H2 : Hp} {D : Addr} {o : HO} (k : Same H1 H2) : Same (hid D (nw H H1)) (hid D (nw H (upd H2 D o))) := fun b u e => by
  obtain ⟨e1, e2⟩ := hid_of e
  obtain ⟨e3, e4⟩ := nw_of e1
  exact hid_to (nw_to e3 (upd_off e2 (k _ _ e4))) e2
theorem beside_new {H H1 H2 : Hp} {D : Addr} {o o1 : HO} (h0 : Same H H1 ∨ ∀ b u, H b = some u → b ≠ D → H1 b = some u) (hD : H1 D = some o1) (hn : H D = none) : Same (nw H1 H2) (hid D (nw H (upd H2 D o))) := fun b u e => by
  obtain ⟨e1, e2⟩ := nw_of e
  have nb : b ≠ D := fun z => by
    rw [z, hD] at e1
    cases e1
  have hb : H b = none := by
    cases q : H b with
    | none => rfl
    | some w =>
      rcases h0 with h0 | h0
      · rw [h0 b w q] at e1
        cases e1
      · rw [h0 b w q nb] at e1
        cases e1
  exact hid_to (nw_to hb (upd_off nb e2)) nb
theorem Ats.snoc {H : Hp} : ∀ {vs : List V} {ds : List Dt} {v : V} {d : Dt}, Ats H vs ds → At H v d → Ats H (vs ++ [v]) (ds ++ [d])
  | _, _, _, _, .nil, h => .cons h .nil
  | _, _, _, _, .cons h1 hs, h => .cons h1 (Ats.snoc hs h)
theorem Atk.snoc {H : Hp} : ∀ {vs : List (Key × V)} {ds : List (Str × Dt)} {k : Str} {v : V} {d : Dt}, Atk H vs ds → At H v d → Atk H (vs ++ [(Sum.inr k, v)]) (ds ++ [(k, d)])
  | _, _, _, _, _, .nil, h => .cons h .nil
  | _, _, _, _, _, .cons h1 hs, h => .cons h1 (Atk.snoc hs h)
theorem hid_nw_sub {H H1 : Hp} {D : Addr} : Same (hid D (nw H H1)) (nw H H1) := hid_same
/-- the copies of a row's items, in a new list -/
theorem copy_row {K : PySem.W.Frag} {n : Nat} {J : It} {xs : List V} {ds : List Dt} {H : Hp} {Q : VK} {σ : St} (hJ : ∀ (Pv : Addr → Nat → Hp → Prop), (∀ D, H D = none → Pv D 0 (upd H D (.lst []))) → (∀ D i H', i ≤ xs.length → Pv D i H' → Same H H') →
      (∀ D i x H', xs[i]? = some x → Pv D i H' → gName 3 x (wipe σ [3]) H' fun σ2 H2 => wipe σ2 [3] = wipe σ [3] ∧ tYes σ2 H2 fun b H3 => if b = true then tCall (sp_copy n) [] E0 (tCons (tVar 3) tNil) σ2 H3 fun y H4 => ∃ acc, H4 D = some (.lst acc) ∧ acc.length < sizeLine ∧ Pv D (i + 1) (upd H4 D (.lst (acc ++ [y]))) else Pv D (i + 1) H3) →
      (∀ D H', Pv D xs.length H' → Q (.ref D) H') → LcW J (gName 3) tYes (tCall (sp_copy n) [] E0 (tCons (tVar 3) tNil)) [3] σ H Q)
    (hσ : ∀ x, ((wipe σ [3]).set 3 (some x))[3]? = some (some x)) (hw : ∀ x, wipe ((wipe σ [3]).set 3 (some x)) [3] = wipe σ [3])
    (h1 : Ats H xs ds) (hl : ds.length ≤ 10000) (hd : Dt.depL ds + 1 ≤ n) (hf : Dt.okL ds = true)
    (k : ∀ D ys H', Same H H' → H D = none → H' D = some (.lst ys) → Ats (hid D (nw H H')) ys ds → Q (.ref D) H') : LcW J (gName 3) tYes (tCall (sp_copy n) [] E0 (tCons (tVar 3) tNil)) [3] σ H Q := by
  have hlen := h1.length
  refine hJ (fun D i H' => Same H H' ∧ H D = none ∧ ∃ ys, H' D = some (.lst ys) ∧ Ats (hid D (nw H H')) ys (ds.take i)) ?_ ?_ ?_ ?_
  · exact fun D hD => ⟨same_new hD, hD, [], upd_same, .nil⟩
  · exact fun D i H' _ h => h.1
  · rintro D i x H' hx ⟨s1, hn, ys, hys, hat⟩
    have hi : i < ds.length := by
      have := (List.getElem?_eq_some_iff.mp hx).1
      omega
    obtain ⟨d, hd'⟩ : ∃ d, ds[i]? = some d := ⟨_, List.getElem?_eq_getElem hi⟩
    obtain ⟨va, ea, ha⟩ := h1.get hd'
    rw [hx] at ea
    obtain rfl : x = va := Option.some.inj ea
    refine i_gname ⟨hw _, ?_⟩
    fold_lay
    refine i_var (hσ x) ?_
    fold_lay
    cases n with
    | zero => omega
    | succ m =>
      have hdd := depL_get hd'
      have hly := hat.length
      rw [List.length_take] at hly
      refine c_copy (ha.mono s1) (by omega) (okL_get hf hd') fun v' H2 hv' s2 => ?_
      refine ⟨ys, s2 _ _ hys, szl (by omega), ?_, hn, _, upd_same, ?_⟩
      · exact fun b o e => upd_off (ne_of_none e hn) (s2 _ _ (s1 _ _ e))
      · rw [take_more hd']
        exact (hat.mono (beside_old s2)).snoc (hv'.mono (beside_new (.inl s1) hys hn))
  · rintro D H' ⟨s1, hn, ys, hys, hat⟩
    rw [hlen, List.take_length] at hat
    exact k D ys H' s1 hn hys hat
def N_l_copy : List Str := ["_law_value", "_law_twin", "_law_key", "_law_one"]
def t_l_copy (K : PySem.W.Frag) (n : Nat) : TS := (tSeq (tIfS (tB (tCB (rIsi K) (tCons (tVar 0) (tCons (tC (.ty "list")) tNil)))) (tRet (tLc (iList K (tVar 0)) (gName 3) tYes (tCall (sp_copy n) [] E0 (tCons (tVar 3) tNil)) [3])) tNext)
  (tSeq (tIfS (tB (tCB (rIsi K) (tCons (tVar 0) (tCons (tC (.ty "tuple")) tNil)))) (tRet (tCB (rTupleOf K) (tCons (tLc (iTup K (tVar 0)) (gName 3) tYes (tCall (sp_copy n) [] E0 (tCons (tVar 3) tNil)) [3]) tNil))) tNext)
  (tSeq (tIfS (tB (tCB (rIsi K) (tCons (tVar 0) (tCons (tC (.ty "dict")) tNil)))) (tSeq (tAsg tDNewK (gName 1))
  (tSeq (tFor (iList K (tCB rListDk (tCons (tVar 0) tNil))) (gName 2) (sDPut (tVar 1) (tVar 2) (tCall (sp_copy n) [] E0 (tCons (tDGet (tVar 0) (tVar 2)) tNil))))
  (tRet (tVar 1)))) tNext)
  (tRet (tVar 0)))))
theorem take_fresh : ∀ {ds : List (Str × Dt)} {i : Nat} {p : Str × Dt}, (ds.map (·.1)).Nodup → ds[i]? = some p → p.1 ∉ (ds.take i).map (·.1)
  | [], i, p, _, e => by simp at e
  | x :: r, 0, p, _, e => by simp
  | x :: r, i + 1, p, nd, e => by
    rw [List.map_cons, List.nodup_cons] at nd
    rw [List.getElem?_cons_succ] at e
    rw [List.take_succ_cons, List.map_cons, List.mem_cons, not_or]
    exact ⟨fun z => nd.1 (by rw [← z]; exact List.mem_map.mpr ⟨p, List.mem_of_getElem? e, rfl⟩), take_fresh nd.2 e⟩
theorem putK_fresh {kvs : List (Key × V)} {k : Key} {v : V} (h : ∀ kv ∈ kvs, kv.1 ≠ k) : putK kvs k v = kvs ++ [(k, v)] := by
  unfold putK
  rw [if_neg]
  intro z
  rw [List.any_eq_true] at z
  obtain ⟨kv, h1, h2⟩ := z
  exact h kv h1 (of_decide_eq_true h2)
theorem Atk.fresh {H : Hp} {k : Str} : ∀ {kvs : List (Key × V)} {ds : List (Str × Dt)}, Atk H kvs ds → k ∉ ds.map (·.1) → ∀ kv ∈ kvs, kv.1 ≠ Sum.inr k
  | _, _, .nil, _, kv, h => by cases h
  | _, _, .cons (k := j) hv hs, hn, kv, h => by
    rw [List.map_cons, List.mem_cons, not_or] at hn
    rcases List.mem_cons.mp h with h | h
    · rw [h]
      exact fun z => hn.1 (Sum.inr.inj z).symm
    · exact Atk.fresh hs hn.2 kv h
theorem pure_copy {K : PySem.W.Frag} {n : Nat} {vs : List V} {H : Hp} {Q : VK} {E : XK} (h : sp_copy (n + 1) vs H Q E) : t_l_copy K n { nx := fun _ H' => Q .non H', rt := Q } (start N_l_copy vs) H := by
  obtain ⟨v, d, rfl, h1, h3, h4, k⟩ := h
  unfold t_l_copy
  cases h1 with
  | non => have t1 : Ty0 H .non "NoneType" := .non; kbj_rows; exact k _ H .non (Same.refl H)
  | bl b => have t1 : Ty0 H (.bl b) "bool" := .bl b; kbj_rows; exact k _ H (.bl b) (Same.refl H)
  | int i => have t1 : Ty0 H (.int i) "int" := .int i; kbj_rows; exact k _ H (.int i) (Same.refl H)
  | str x => have t1 : Ty0 H (.str x) "str" := .str x; kbj_rows; exact k _ H (.str x) (Same.refl H)
  | @lst a xs ds ea ha =>
    have t1 : Ty0 H (.ref a) "list" := .lst ea
    simp only [Dt.okd, Bool.and_eq_true] at h4
    have f1 := of_decide_eq_true h4.1
    have h3' : Dt.depL ds + 1 ≤ n := by simpa only [Dt.dep] using h3
    kbj_rows
    refine c_lst (sqL ea) (copy_row (K := K) (fun Pv p0 pl ps pd => m_lst (K := K) (a := a) (xs := xs) Pv p0 (fun D i H' hi hp => sqL (pl D i H' hi hp _ _ ea)) ps pd) (fun x => rfl) (fun x => rfl) ha f1 h3' h4.2 fun D ys H' s1 hn hD hat => ?_)
    exact k _ H' (.lst (nw_to hn hD) (hat.mono hid_nw_sub)) s1
  | @tup a xs ds ea ha =>
    have t1 : Ty0 H (.ref a) "tuple" := .tup ea
    simp only [Dt.okd, Bool.and_eq_true] at h4
    have f1 := of_decide_eq_true h4.1
    have h3' : Dt.depL ds + 1 ≤ n := by simpa only [Dt.dep] using h3
    kbj_rows
    refine c_tup (sqT ea) (copy_row (K := K) (fun Pv p0 pl ps pd => m_tup (K := K) (a := a) (xs := xs) Pv p0 (fun D i H' hi hp => sqT (pl D i H' hi hp _ _ ea)) ps pd) (fun x => rfl) (fun x => rfl) ha f1 h3' h4.2 fun D ys H' s1 hn hD hat => ?_)
    kbj_rows
    refine ⟨D, ys, rfl, .inl ⟨sqL hD, fun p hp => ?_⟩⟩
    refine k _ _ (.tup (nw_to (s1.free hp) upd_same) (hat.mono ?_)) (s1.trans (same_new hp))
    exact fun b o e => by
      obtain ⟨e1, e2⟩ := nw_of (hid_same _ _ e)
      exact nw_to e1 (upd_keep hp e2)
  | @dic a kvs ds ea ha =>
    have t1 : Ty0 H (.ref a) "dict" := .dic ea
    simp only [Dt.okd, Bool.and_eq_true] at h4
    have f1 := of_decide_eq_true h4.1.1
    have f2 := of_decide_eq_true h4.1.2
    have h3' : Dt.depK ds + 1 ≤ n := by simpa only [Dt.dep] using h3
    kbj_rows
    intro p hp
    kbj_rows
    refine ⟨a, kvs, rfl, .inl (upd_keep hp ea), fun q hq => ?_⟩
    rw [ha.keys]
    have np : p ≠ q := ne_of_none upd_same hq
    have h0 : upd H p (.dK []) p = some (.dK []) := upd_same
    refine f_lst (sqL upd_same) (l_lst (xs := ds.map fun kd => V.str kd.1) (fun i σ H' => Same H H' ∧ H' q = some (.lst (ds.map fun kd => V.str kd.1)) ∧ (∃ kw, H' p = some (.dK kw) ∧ Atk (hid p (nw H H')) kw (ds.take i)) ∧ ∃ x y, σ = [some (.ref a), some (.ref p), x, y]) ⟨(same_new hp).trans (same_new hq), upd_same, ⟨[], upd_keep hq h0, .nil⟩, _, _, rfl⟩ (fun i σ H' _ h => sqL h.2.1) ?_ ?_)
    · rintro i x σ H' hx ⟨s1, hq', ⟨kw, hkw, hat⟩, y, z, rfl⟩
      rw [List.getElem?_map, Option.map_eq_some_iff] at hx
      obtain ⟨⟨kk, d⟩, hk, rfl⟩ := hx
      have hm := List.mem_of_getElem? hk
      obtain ⟨v1, e1, a1⟩ := ha.find f2 hm
      have ok := okK_mem h4.2 hm
      kbj_rows
      refine ⟨a, v1, rfl, dget_k (s1 _ _ ea) e1, ?_⟩
      kbj_rows
      cases n with
      | zero => omega
      | succ m =>
        refine c_copy (a1.mono s1) (by have := ok.2; simp only at this; omega) ok.1 fun v' H2 hv' s2 => ?_
        kbj_rows
        refine ⟨p, _, rfl, DPut.k (k := Sum.inr kk) (s2 _ _ hkw) (szl (by have := hat.length; rw [List.length_take] at this; omega)), ?_⟩
        have nk : kk ∉ (ds.take i).map (·.1) := take_fresh f2 hk
        rw [putK_fresh (hat.fresh nk)]
        refine ⟨fun b o e => upd_off (ne_of_none e hp) (s2 _ _ (s1 _ _ e)), upd_off (Ne.symm np) (s2 _ _ hq'), ⟨_, upd_same, ?_⟩, _, _, rfl⟩
        rw [take_more hk]
        exact (hat.mono (beside_old s2)).snoc (hv'.mono (beside_new (.inl s1) hkw hp))
    · rintro σ H' ⟨s1, hq', ⟨kw, hkw, hat⟩, y, z, rfl⟩
      rw [List.length_map, List.take_length] at hat
      kbj_rows
      exact k _ H' (.dic (nw_to hp hkw) (hat.mono hid_nw_sub)) s1
/-! ## Ground0 -/
/-! ### the ground: words of its checks -/
def N_p_is_between : List Str := ["value", "low", "high"]
def t_p_is_between (K : PySem.W.Frag) : TS := (tRet (tAndV (tCall (sp_is_whole K) [] E0 (tCons (tVar 0) tNil)) (tChain oLe oLe (tVar 1) (tVar 0) (tVar 2))))
theorem pure_is_between {K : PySem.W.Frag} {vs : List V} {H : Hp} {Q : VK} {E : XK} (h : sp_whole_between K vs H Q E) : t_p_is_between K { nx := fun _ H' => Q .non H', rt := Q } (start N_p_is_between vs) H := pure_whole_between (E := E) h
def vH (v : V) : Bool := vR 0 8 v || (vR 11 18 v || vR 21 28 v)
def sp_is_holder (K : PySem.W.Frag) : Sp := fun vs H Q _ => ∃ (v : V) (n : String), vs = [v] ∧ Ty0 H v n ∧ Q (.bl (vH v)) H
theorem c_is_holder {K : PySem.W.Frag} {v : V} {n : String} {H : Hp} {Q : VK} {E : XK} (h : Ty0 H v n) (q : Q (.bl (vH v)) H) : sp_is_holder K [v] H Q E := ⟨v, n, rfl, h, q⟩
def N_p_is_holder : List Str := ["value"]
def t_p_is_holder (K : PySem.W.Frag) : TS := (tRet (tOrV (tCall (sp_whole_between K) [] E0 (tCons (tVar 0) (tCons (tC (.int 0)) (tCons (tC (.int 8)) tNil)))) (tOrV (tCall (sp_whole_between K) [] E0 (tCons (tVar 0) (tCons (tC (.int 11)) (tCons (tC (.int 18)) tNil)))) (tCall (sp_whole_between K) [] E0 (tCons (tVar 0) (tCons (tC (.int 21)) (tCons (tC (.int 28)) tNil)))))))
theorem pure_is_holder {K : PySem.W.Frag} {vs : List V} {H : Hp} {Q : VK} {E : XK} (h : sp_is_holder K vs H Q E) : t_p_is_holder K { nx := fun _ H' => Q .non H', rt := Q } (start N_p_is_holder vs) H := by
  obtain ⟨v, n, rfl, ht, k⟩ := h
  unfold vH at k
  unfold t_p_is_holder
  fold_lay
  refine c_whole_between ht ?_
  fold_lay
  refine i_ifb (fun g => ?_) (fun g => ?_)
  · rw [g] at k
    exact k
  rw [g] at k
  fold_lay
  refine c_whole_between ht ?_
  fold_lay
  refine i_ifb (fun g => ?_) (fun g => ?_)
  · rw [g] at k
    exact k
  rw [g] at k
  fold_lay
  refine c_whole_between ht ?_
  exact k
def vWd : V → Bool
  | .int i => decide (i ∈ ([16, 32, 64] : List Int))
  | _ => false
def sp_is_width (K : PySem.W.Frag) (c : Cl) : Sp := fun vs H Q _ => ∃ (v : V) (n : String), vs = [v] ∧ Ty0 H v n ∧ KTup K c.x_WIDTHS [16, 32, 64] ∧ Q (.bl (vWd v)) H
def N_p_is_width : List Str := ["value"]
def t_p_is_width (K : PySem.W.Frag) (c : Cl) : TS := (tRet (tAndV (tCall (sp_is_whole K) [] E0 (tCons (tVar 0) tNil)) (tOp (rIn K false) (tVar 0) (tC (.ref c.x_WIDTHS)))))
theorem in_ints3 {i : Int} : inV (.int i) [.int 16, .int 32, .int 64] = decide (i ∈ ([16, 32, 64] : List Int)) := by
  have e : ∀ j : Int, (j == i) = decide (i = j) := fun j => by
    rw [Bool.eq_iff_iff]
    exact ⟨fun h => decide_eq_true (eq_of_beq h).symm, fun h => beq_iff_eq.mpr (of_decide_eq_true h).symm⟩
  simp only [inV, eqV, List.any_cons, List.any_nil, Bool.or_false, e]
  simp
theorem pure_is_width {K : PySem.W.Frag} {c : Cl} {vs : List V} {H : Hp} {Q : VK} {E : XK} (h : sp_is_width K c vs H Q E) : t_p_is_width K c { nx := fun _ H' => Q .non H', rt := Q } (start N_p_is_width vs) H := by
  obtain ⟨v, n, rfl, ht, hT, k⟩ := h
  unfold t_p_is_width
  fold_lay
  refine c_is_whole ht ?_
  fold_lay
  refine i_ifb (fun g => ?_) (fun g => ?_)
  · obtain ⟨i, rfl⟩ := vI_int g
    fold_lay
    refine ⟨c.x_WIDTHS, _, rfl, .inr hT.sq, rfl, rfl, ?_⟩
    show Q (.bl (inV (.int i) [.int 16, .int 32, .int 64])) H
    rw [in_ints3]
    exact k
  · have e : vWd v = false := by cases v <;> first | rfl | cases g
    rw [e] at k
    exact k
def vB (v : V) : Bool := decide (v = .non) || vR 0 1000000000 v
def sp_is_budget (K : PySem.W.Frag) : Sp := fun vs H Q _ => ∃ (v : V) (n : String), vs = [v] ∧ Ty0 H v n ∧ Q (.bl (vB v)) H
def N_p_is_budget : List Str := ["value"]
def t_p_is_budget (K : PySem.W.Frag) : TS := (tRet (tOrV (tOp oIsN (tVar 0) (tC .non)) (tCall (sp_whole_between K) [] E0 (tCons (tVar 0) (tCons (tC (.int 0)) (tCons (tC (.int 1000000000)) tNil))))))
theorem pure_is_budget {K : PySem.W.Frag} {vs : List V} {H : Hp} {Q : VK} {E : XK} (h : sp_is_budget K vs H Q E) : t_p_is_budget K { nx := fun _ H' => Q .non H', rt := Q } (start N_p_is_budget vs) H := by
  obtain ⟨v, n, rfl, ht, k⟩ := h
  unfold vB at k
  unfold t_p_is_budget
  fold_lay
  refine i_ifb (fun g => ?_) (fun g => ?_)
  · rw [g] at k
    exact k
  · rw [g] at k
    fold_lay
    exact c_whole_between ht k
/-! ### the ground in the heap -/
/-- an entry of a deed: place, word, holder -/
abbrev En := Int × Int × Int
structure GS where
  pg : Int
  wd : Int
  fl : Int
  al : Option Int
  ch : Int
  ws : List Int
  hs : List Int
  ds : List (List En)
structure GA where
  g : Addr
  dx : Addr
  w : Addr
  h : Addr
  o : Addr
  dd : List Addr
def odV : Option Int → V
  | none => .non
  | some i => .int i
def flds (A : GA) (S : GS) : List (Str × V) := [("pages", .int S.pg), ("width", .int S.wd), ("fill", .int S.fl), ("allowance", odV S.al), ("charged", .int S.ch), ("cell_words", .ref A.w), ("cell_holders", .ref A.h), ("open_deeds", .ref A.o)]
/-- the entries of a deed's dict -/
inductive Ent (H : Hp) : List (Key × V) → List En → Prop where
  | nil : Ent H [] []
  | cons {p w h : Int} {t : Addr} {kvs : List (Key × V)} {es : List En} (ht : H t = some (.tup [.int w, .int h])) (r : Ent H kvs es) : Ent H ((Sum.inl p, .ref t) :: kvs) ((p, w, h) :: es)
/-- the deeds' dicts -/
inductive Dds (H : Hp) : List Addr → List (List En) → Prop where
  | nil : Dds H [] []
  | cons {d : Addr} {kvs : List (Key × V)} {es : List En} {dd : List Addr} {ds : List (List En)} (hd : H d = some (.dK kvs)) (he : Ent H kvs es) (r : Dds H dd ds) : Dds H (d :: dd) (es :: ds)
structure Gd (c : Cl) (H : Hp) (A : GA) (S : GS) : Prop where
  ob : H A.g = some (.ins c.k_Ground A.dx (flds A S))
  wl : H A.w = some (.lst (S.ws.map V.int))
  hl : H A.h = some (.lst (S.hs.map V.int))
  ol : H A.o = some (.lst (A.dd.map V.ref))
  dl : Dds H A.dd S.ds
  n1 : A.w ≠ A.h
  n2 : A.w ≠ A.o
  n3 : A.h ≠ A.o
  nd : A.dd.Nodup
  le : S.ws.length = S.hs.length
  sz : S.ws.length ≤ 20000
  dn : S.ds.length ≤ 1000
  ok : ∀ es ∈ S.ds, (es.map (·.1)).Nodup ∧ ∀ e ∈ es, 0 ≤ e.1 ∧ e.1 < S.ws.length
/-- what the class has -/
structure GdK (K : PySem.W.Frag) (c : Cl) : Prop where
  cl : Cls K c.k_Ground
  na : ∀ f ∈ (["pages", "width", "fill", "allowance", "charged", "cell_words", "cell_holders", "open_deeds"] : List Str), NoAttr K c.k_Ground f
theorem i_gfld {K : PySem.W.Frag} {c : Cl} {H : Hp} {g dx : Addr} {fs : List (Str × V)} {f : Str} {v : V} {P : V → Prop} (R : GdK K c) (h : H g = some (.ins c.k_Ground dx fs)) (hf : f ∈ (["pages", "width", "fill", "allowance", "charged", "cell_words", "cell_holders", "open_deeds"] : List Str)) (l : fs.lookup f = some v) (q : P v) :
    ∃ a C dx' fs' v', V.ref g = .ref a ∧ H a = some (.ins C dx' fs') ∧ Cls K C ∧ NoAttr K C f ∧ fs'.lookup f = some v' ∧ P v' := ⟨g, c.k_Ground, dx, fs, v, rfl, h, R.cl, R.na f hf, l, q⟩
instance s_fld {K : PySem.W.Frag} {ta : TE} {f : Str} {σ : St} {H : Hp} {Q : VK} : Stp (tFld K ta f σ H Q) (ta σ H fun x H1 => ∃ a C dx fs v, x = .ref a ∧ H1 a = some (.ins C dx fs) ∧ Cls K C ∧ NoAttr K C f ∧ fs.lookup f = some v ∧ Q v H1) := ⟨fun h => h⟩
theorem Gd.mono {c : Cl} {H H' : Hp} {A : GA} {S : GS} (h : Gd c H A S) (k : Same H H') : Gd c H' A S := by
  have e1 : ∀ {kvs es}, Ent H kvs es → Ent H' kvs es := by
    intro kvs es h
    induction h with
    | nil => exact .nil
    | cons ht _ ih => exact .cons (k _ _ ht) ih
  have e2 : ∀ {dd ds}, Dds H dd ds → Dds H' dd ds := by
    intro dd ds h
    induction h with
    | nil => exact .nil
    | cons hd he _ ih => exact .cons (k _ _ hd) (e1 he) ih
  exact ⟨k _ _ h.ob, k _ _ h.wl, k _ _ h.hl, k _ _ h.ol, e2 h.dl, h.n1, h.n2, h.n3, h.nd, h.le, h.sz, h.dn, h.ok⟩
/-! ## Ground1 -/
/-! ### the ground: what one write leaves -/
/-- all that stands outside of F stays -/
def Out (F : List Addr) (H H' : Hp) : Prop := ∀ b o, b ∉ F → H b = some o → H' b = some o
theorem Out.refl (F : List Addr) (H : Hp) : Out F H H := fun _ _ _ e => e
theorem Out.trans {F : List Addr} {H1 H2 H3 : Hp} (h1 : Out F H1 H2) (h2 : Out F H2 H3) : Out F H1 H3 := fun b o n e => h2 b o n (h1 b o n e)
theorem Out.wide {F G : List Addr} {H1 H2 : Hp} (h : Out F H1 H2) (s : ∀ a ∈ F, a ∈ G) : Out G H1 H2 := fun b o n e => h b o (fun z => n (s b z)) e
theorem Same.out {F : List Addr} {H1 H2 : Hp} (h : Same H1 H2) : Out F H1 H2 := fun b o _ e => h b o e
theorem out_upd {F : List Addr} {H : Hp} {a : Addr} {o : HO} (h : a ∈ F) : Out F H (upd H a o) := fun b u n e => upd_off (fun z => n (z ▸ h)) e
theorem Ent.upd {H : Hp} {a : Addr} {o : HO} {kvs : List (Key × V)} {es : List En} (h : Ent H kvs es) (ha : ∀ xs, H a ≠ some (.tup xs)) : Ent (L2.upd H a o) kvs es := by
  induction h with
  | nil => exact .nil
  | cons ht _ ih => exact .cons (upd_off (fun z => ha _ (z ▸ ht)) ht) ih
theorem Dds.upd {H : Hp} {a : Addr} {o : HO} {dd : List Addr} {ds : List (List En)} (h : Dds H dd ds) (ha : ∀ xs, H a ≠ some (.tup xs)) (hn : a ∉ dd) : Dds (L2.upd H a o) dd ds := by
  induction h with
  | nil => exact .nil
  | cons hd he _ ih => exact .cons (upd_off (fun z => hn (z ▸ List.mem_cons_self)) hd) (he.upd ha) (ih fun z => hn (List.mem_cons_of_mem _ z))
theorem Dds.length {H : Hp} {dd : List Addr} {ds : List (List En)} (h : Dds H dd ds) : dd.length = ds.length := by
  induction h with
  | nil => rfl
  | cons _ _ _ ih => simp [ih]
theorem Dds.at_ {H : Hp} {dd : List Addr} {ds : List (List En)} (h : Dds H dd ds) : ∀ d ∈ dd, ∃ kvs, H d = some (.dK kvs) := by
  induction h with
  | nil => intro d hd; cases hd
  | cons hd _ _ ih =>
    intro d m
    rcases List.mem_cons.mp m with rfl | m
    · exact ⟨_, hd⟩
    · exact ih d m
theorem Dds.snoc {H : Hp} {dd : List Addr} {ds : List (List En)} {d : Addr} {kvs : List (Key × V)} {es : List En} (h : Dds H dd ds) (hd : H d = some (.dK kvs)) (he : Ent H kvs es) : Dds H (dd ++ [d]) (ds ++ [es]) := by
  induction h with
  | nil => exact .cons hd he .nil
  | cons h1 h2 _ ih => exact .cons h1 h2 ih
theorem Dds.last {H : Hp} {ds : List (List En)} {es : List En} : ∀ {dd : List Addr}, Dds H dd (ds ++ [es]) → ∃ dd0 d kvs, dd = dd0 ++ [d] ∧ Dds H dd0 ds ∧ H d = some (.dK kvs) ∧ Ent H kvs es := by
  induction ds with
  | nil =>
    intro dd h
    cases h with
    | cons hd he r =>
      cases r
      exact ⟨[], _, _, rfl, .nil, hd, he⟩
  | cons x r ih =>
    intro dd h
    cases h with
    | cons hd he h2 =>
      obtain ⟨dd0, d, kvs, e, h3, h4, h5⟩ := ih h2
      exact ⟨_ :: dd0, d, kvs, by rw [e]; rfl, .cons hd he h3, h4, h5⟩
theorem Ent.mono {H H' : Hp} {kvs : List (Key × V)} {es : List En} (h : Ent H kvs es) (k : Same H H') : Ent H' kvs es := by
  induction h with
  | nil => exact .nil
  | cons ht _ ih => exact .cons (k _ _ ht) ih
theorem Dds.mono {H H' : Hp} {dd : List Addr} {ds : List (List En)} (h : Dds H dd ds) (k : Same H H') : Dds H' dd ds := by
  induction h with
  | nil => exact .nil
  | cons hd he _ ih => exact .cons (k _ _ hd) (he.mono k) ih
theorem Ent.length {H : Hp} {kvs : List (Key × V)} {es : List En} (h : Ent H kvs es) : kvs.length = es.length := by
  induction h with
  | nil => rfl
  | cons _ _ ih => simp [ih]
theorem Ent.snoc {H : Hp} {kvs : List (Key × V)} {es : List En} {p w h : Int} {t : Addr} (e : Ent H kvs es) (ht : H t = some (.tup [.int w, .int h])) : Ent H (kvs ++ [(Sum.inl p, .ref t)]) (es ++ [(p, w, h)]) := by
  induction e with
  | nil => exact .cons ht .nil
  | cons h1 _ ih => exact .cons h1 ih
theorem Ent.get {H : Hp} {kvs : List (Key × V)} {es : List En} (h : Ent H kvs es) : ∀ {i : Nat} {k : Key} {v : V}, kvs[i]? = some (k, v) → ∃ p w g t, es[i]? = some (p, w, g) ∧ k = Sum.inl p ∧ v = .ref t ∧ H t = some (.tup [.int w, .int g]) := by
  induction h with
  | nil => intro i k v e; simp at e
  | cons ht _ ih =>
    intro i k v e
    cases i with
    | zero =>
      simp at e
      obtain ⟨rfl, rfl⟩ := e
      exact ⟨_, _, _, _, rfl, rfl, rfl, ht⟩
    | succ i => exact ih (by simpa using e)
theorem Ent.fresh {H : Hp} {kvs : List (Key × V)} {es : List En} {p : Int} (h : Ent H kvs es) (hn : p ∉ es.map (·.1)) : ∀ kv ∈ kvs, kv.1 ≠ Sum.inl p := by
  induction h with
  | nil => intro kv m; cases m
  | cons _ _ ih =>
    intro kv m
    rw [List.map_cons, List.mem_cons, not_or] at hn
    rcases List.mem_cons.mp m with rfl | m
    · exact fun z => hn.1 (Sum.inl.inj z).symm
    · exact ih hn.2 kv m
theorem Ent.val {H : Hp} {kvs : List (Key × V)} {es : List En} {p : Int} (h : Ent H kvs es) : (valV kvs (Sum.inl p)).isSome = decide (p ∈ es.map (·.1)) := by
  induction h with
  | nil => rfl
  | @cons q w g t kvs es _ _ ih =>
    rw [valV_cons]
    by_cases e : (Sum.inl q : Key) = Sum.inl p
    · rw [if_pos e]
      have := Sum.inl.inj e
      subst this
      simp
    · rw [if_neg e, ih]
      have : p ≠ q := fun z => e (by rw [z])
      simp [this]
/-- for .. in d.items(), the dict locked -/
theorem l_items {σ : St} {H : Hp} {g : TG} {tb : TS} {d : Addr} {o : Obj} {kvs : List (Key × V)} {nx bk ct : St → Hp → Prop} {rt : VK} (Pv : Nat → St → Hp → Prop) (h0 : Pv 0 σ H) (hl : ∀ i σ' H', i ≤ kvs.length → Pv i σ' H' → H' d = some (.frz o (.dK kvs)))
    (hs : ∀ i k v σ' H' T, kvs[i]? = some (k, v) → Pv i σ' H' → H' T = none → g (.ref T) σ' (upd H' T (.tup [kV k, v])) fun σ2 H2 => tb ⟨Pv (i + 1), rt, nx, Pv (i + 1)⟩ σ2 H2) (hd : ∀ σ' H', Pv kvs.length σ' H' → nx σ' H') : ForW (Iti d o kvs) g tb ⟨nx, rt, bk, ct⟩ σ H := by
  refine ⟨fun i m σ' H' => m + i = kvs.length ∧ Pv i σ' H', ⟨kvs.length, rfl, h0⟩, fun i m σ' H' h => ?_⟩
  obtain ⟨hm, hp⟩ := h
  have q := hl i σ' H' (by omega) hp
  cases m with
  | zero =>
    have e : i = kvs.length := by omega
    subst e
    exact .inl ⟨⟨q, Nat.le_refl _⟩, hd σ' H' hp⟩
  | succ m =>
    refine .inr ⟨⟨q, by omega⟩, Pv (i + 1), fun σ2 H2 p2 => ⟨m, by omega, by omega, p2⟩, fun v H2 y => ?_⟩
    obtain ⟨T, k, w, hx, rfl, hT, rfl⟩ := y
    exact hs i k w σ' H' T hx hp hT
instance s_forI {D : Ends} {td : TE} {g : TG} {tb : TS} {σ : St} {H : Hp} : Stp (tFor (iItems td) g tb D σ H) (td σ H fun x H1 => ∃ d o kvs, x = .ref d ∧ H1 d = some (.frz o (.dK kvs)) ∧ ForW (Iti d o kvs) g tb D σ H1) := ⟨fun h => h⟩
instance s_meth {C : Addr} {m : Str} {sp : Sp} {dvs : List V} {E : XK} {ta : TE} {t : TA} {σ : St} {H : Hp} {Q : VK} : Stp (tMeth C m sp dvs E ta t σ H Q) (ta σ H fun x H1 => ∃ a dx fs, x = .ref a ∧ H1 a = some (.ins C dx fs) ∧ fs.lookup m = none ∧ t σ H1 fun vs H2 => sp (x :: (vs ++ dvs)) H2 Q E) := ⟨fun h => h⟩
instance s_bm0 {K : PySem.W.Frag} {T : String} {r : V → List V → Hp → VK → Prop} {to : TE} {σ : St} {H : Hp} {Q : VK} : Stp (tBM0 K T r to σ H Q) (to σ H fun x H1 => tyV K T x H1 ∧ r x [] H1 Q) := ⟨fun h => h⟩
/-! ## Ground2 -/
/-! ### the ground: begin, change_cell, cost_since -/
theorem lkf_pages {A : GA} {S : GS} : (flds A S).lookup ("pages" : Str) = some (.int S.pg : V) := by unfold flds; rw [lookup_put, if_pos rfl]
theorem lkf_width {A : GA} {S : GS} : (flds A S).lookup ("width" : Str) = some (.int S.wd : V) := by unfold flds; rw [lookup_put, if_neg (by decide), lookup_put, if_pos rfl]
theorem lkf_fill {A : GA} {S : GS} : (flds A S).lookup ("fill" : Str) = some (.int S.fl : V) := by unfold flds; rw [lookup_put, if_neg (by decide), lookup_put, if_neg (by decide), lookup_put, if_pos rfl]
theorem lkf_allowance {A : GA} {S : GS} : (flds A S).lookup ("allowance" : Str) = some (odV S.al : V) := by unfold flds; rw [lookup_put, if_neg (by decide), lookup_put, if_neg (by decide), lookup_put, if_neg (by decide), lookup_put, if_pos rfl]
theorem lkf_charged {A : GA} {S : GS} : (flds A S).lookup ("charged" : Str) = some (.int S.ch : V) := by unfold flds; rw [lookup_put, if_neg (by decide), lookup_put, if_neg (by decide), lookup_put, if_neg (by decide), lookup_put, if_neg (by decide), lookup_put, if_pos rfl]
theorem lkf_cell_words {A : GA} {S : GS} : (flds A S).lookup ("cell_words" : Str) = some (.ref A.w : V) := by unfold flds; rw [lookup_put, if_neg (by decide), lookup_put, if_neg (by decide), lookup_put, if_neg (by decide), lookup_put, if_neg (by decide), lookup_put, if_neg (by decide), lookup_put, if_pos rfl]
theorem lkf_cell_holders {A : GA} {S : GS} : (flds A S).lookup ("cell_holders" : Str) = some (.ref A.h : V) := by unfold flds; rw [lookup_put, if_neg (by decide), lookup_put, if_neg (by decide), lookup_put, if_neg (by decide), lookup_put, if_neg (by decide), lookup_put, if_neg (by decide), lookup_put, if_neg (by decide), lookup_put, if_pos rfl]
theorem lkf_open_deeds {A : GA} {S : GS} : (flds A S).lookup ("open_deeds" : Str) = some (.ref A.o : V) := by unfold flds; rw [lookup_put, if_neg (by decide), lookup_put, if_neg (by decide), lookup_put, if_neg (by decide), lookup_put, if_neg (by decide), lookup_put, if_neg (by decide), lookup_put, if_neg (by decide), lookup_put, if_neg (by decide), lookup_put, if_pos rfl]
theorem lkm_begin {A : GA} {S : GS} : (flds A S).lookup ("begin" : Str) = none := by unfold flds; rw [lookup_put, if_neg (by decide), lookup_put, if_neg (by decide), lookup_put, if_neg (by decide), lookup_put, if_neg (by decide), lookup_put, if_neg (by decide), lookup_put, if_neg (by decide), lookup_put, if_neg (by decide), lookup_put, if_neg (by decide)]; rfl
theorem lkm_check_place {A : GA} {S : GS} : (flds A S).lookup ("check_place" : Str) = none := by unfold flds; rw [lookup_put, if_neg (by decide), lookup_put, if_neg (by decide), lookup_put, if_neg (by decide), lookup_put, if_neg (by decide), lookup_put, if_neg (by decide), lookup_put, if_neg (by decide), lookup_put, if_neg (by decide), lookup_put, if_neg (by decide)]; rfl
theorem lkm_check_guard {A : GA} {S : GS} : (flds A S).lookup ("check_guard" : Str) = none := by unfold flds; rw [lookup_put, if_neg (by decide), lookup_put, if_neg (by decide), lookup_put, if_neg (by decide), lookup_put, if_neg (by decide), lookup_put, if_neg (by decide), lookup_put, if_neg (by decide), lookup_put, if_neg (by decide), lookup_put, if_neg (by decide)]; rfl
theorem lkm_change_cell {A : GA} {S : GS} : (flds A S).lookup ("change_cell" : Str) = none := by unfold flds; rw [lookup_put, if_neg (by decide), lookup_put, if_neg (by decide), lookup_put, if_neg (by decide), lookup_put, if_neg (by decide), lookup_put, if_neg (by decide), lookup_put, if_neg (by decide), lookup_put, if_neg (by decide), lookup_put, if_neg (by decide)]; rfl
theorem lkm_commit {A : GA} {S : GS} : (flds A S).lookup ("commit" : Str) = none := by unfold flds; rw [lookup_put, if_neg (by decide), lookup_put, if_neg (by decide), lookup_put, if_neg (by decide), lookup_put, if_neg (by decide), lookup_put, if_neg (by decide), lookup_put, if_neg (by decide), lookup_put, if_neg (by decide), lookup_put, if_neg (by decide)]; rfl
theorem lkm_cancel {A : GA} {S : GS} : (flds A S).lookup ("cancel" : Str) = none := by unfold flds; rw [lookup_put, if_neg (by decide), lookup_put, if_neg (by decide), lookup_put, if_neg (by decide), lookup_put, if_neg (by decide), lookup_put, if_neg (by decide), lookup_put, if_neg (by decide), lookup_put, if_neg (by decide), lookup_put, if_neg (by decide)]; rfl
theorem lkm_cost_since {A : GA} {S : GS} : (flds A S).lookup ("cost_since" : Str) = none := by unfold flds; rw [lookup_put, if_neg (by decide), lookup_put, if_neg (by decide), lookup_put, if_neg (by decide), lookup_put, if_neg (by decide), lookup_put, if_neg (by decide), lookup_put, if_neg (by decide), lookup_put, if_neg (by decide), lookup_put, if_neg (by decide)]; rfl
theorem lkm_check_fill {A : GA} {S : GS} : (flds A S).lookup ("check_fill" : Str) = none := by unfold flds; rw [lookup_put, if_neg (by decide), lookup_put, if_neg (by decide), lookup_put, if_neg (by decide), lookup_put, if_neg (by decide), lookup_put, if_neg (by decide), lookup_put, if_neg (by decide), lookup_put, if_neg (by decide), lookup_put, if_neg (by decide)]; rfl
theorem lkm_write {A : GA} {S : GS} : (flds A S).lookup ("write" : Str) = none := by unfold flds; rw [lookup_put, if_neg (by decide), lookup_put, if_neg (by decide), lookup_put, if_neg (by decide), lookup_put, if_neg (by decide), lookup_put, if_neg (by decide), lookup_put, if_neg (by decide), lookup_put, if_neg (by decide), lookup_put, if_neg (by decide)]; rfl
theorem lkm_poke {A : GA} {S : GS} : (flds A S).lookup ("poke" : Str) = none := by unfold flds; rw [lookup_put, if_neg (by decide), lookup_put, if_neg (by decide), lookup_put, if_neg (by decide), lookup_put, if_neg (by decide), lookup_put, if_neg (by decide), lookup_put, if_neg (by decide), lookup_put, if_neg (by decide), lookup_put, if_neg (by decide)]; rfl
theorem lkm_pass_on {A : GA} {S : GS} : (flds A S).lookup ("pass_on" : Str) = none := by unfold flds; rw [lookup_put, if_neg (by decide), lookup_put, if_neg (by decide), lookup_put, if_neg (by decide), lookup_put, if_neg (by decide), lookup_put, if_neg (by decide), lookup_put, if_neg (by decide), lookup_put, if_neg (by decide), lookup_put, if_neg (by decide)]; rfl
theorem lkm_image {A : GA} {S : GS} : (flds A S).lookup ("image" : Str) = none := by unfold flds; rw [lookup_put, if_neg (by decide), lookup_put, if_neg (by decide), lookup_put, if_neg (by decide), lookup_put, if_neg (by decide), lookup_put, if_neg (by decide), lookup_put, if_neg (by decide), lookup_put, if_neg (by decide), lookup_put, if_neg (by decide)]; rfl
theorem Gd.gw {c : Cl} {H : Hp} {A : GA} {S : GS} (h : Gd c H A S) : A.g ≠ A.w ∧ A.g ≠ A.h ∧ A.g ≠ A.o := by
  refine ⟨fun z => ?_, fun z => ?_, fun z => ?_⟩
  · have := h.ob
    rw [z, h.wl] at this
    cases this
  · have := h.ob
    rw [z, h.hl] at this
    cases this
  · have := h.ob
    rw [z, h.ol] at this
    cases this
theorem Gd.dw {c : Cl} {H : Hp} {A : GA} {S : GS} (h : Gd c H A S) : A.w ∉ A.dd ∧ A.h ∉ A.dd ∧ A.o ∉ A.dd ∧ A.g ∉ A.dd := by
  refine ⟨fun z => ?_, fun z => ?_, fun z => ?_, fun z => ?_⟩
  · obtain ⟨kvs, e⟩ := h.dl.at_ _ z
    rw [h.wl] at e
    cases e
  · obtain ⟨kvs, e⟩ := h.dl.at_ _ z
    rw [h.hl] at e
    cases e
  · obtain ⟨kvs, e⟩ := h.dl.at_ _ z
    rw [h.ol] at e
    cases e
  · obtain ⟨kvs, e⟩ := h.dl.at_ _ z
    rw [h.ob] at e
    cases e
theorem not_tup {H : Hp} {a : Addr} {o : HO} (h : H a = some o) (ho : ∀ xs, o ≠ .tup xs) : ∀ xs, H a ≠ some (.tup xs) := fun xs e => by
  rw [h] at e
  exact ho xs (Option.some.inj e)
/-- a word, a holder written -/
theorem Gd.setW {c : Cl} {H : Hp} {A : GA} {S : GS} {ws : List Int} (h : Gd c H A S) (hl : ws.length = S.ws.length) : Gd c (upd H A.w (.lst (ws.map V.int))) A { S with ws := ws } := by
  obtain ⟨g1, g2, g3⟩ := h.gw
  obtain ⟨d1, d2, d3, d4⟩ := h.dw
  exact ⟨upd_off g1 h.ob, upd_same, upd_off (Ne.symm h.n1) h.hl, upd_off (Ne.symm h.n2) h.ol, h.dl.upd (not_tup h.wl (fun xs z => by cases z)) d1, h.n1, h.n2, h.n3, h.nd, hl.trans h.le, by show ws.length ≤ _; rw [hl]; exact h.sz, h.dn, fun es m => ⟨(h.ok es m).1, fun e he => by show 0 ≤ e.1 ∧ e.1 < (ws.length : Int); rw [hl]; exact (h.ok es m).2 e he⟩⟩
theorem Gd.setH {c : Cl} {H : Hp} {A : GA} {S : GS} {hs : List Int} (h : Gd c H A S) (hl : hs.length = S.hs.length) : Gd c (upd H A.h (.lst (hs.map V.int))) A { S with hs := hs } := by
  obtain ⟨g1, g2, g3⟩ := h.gw
  obtain ⟨d1, d2, d3, d4⟩ := h.dw
  exact ⟨upd_off g2 h.ob, upd_off h.n1 h.wl, upd_same, upd_off (Ne.symm h.n3) h.ol, h.dl.upd (not_tup h.hl (fun xs z => by cases z)) d2, h.n1, h.n2, h.n3, h.nd, h.le.trans hl.symm, h.sz, h.dn, h.ok⟩
def sp_begin (K : PySem.W.Frag) (c : Cl) : Sp := fun vs H Q _ => ∃ (A : GA) (S : GS), vs = [.ref A.g] ∧ Gd c H A S ∧ GdK K c ∧ S.ds.length < 1000 ∧
  ∀ d H', Gd c H' { A with dd := A.dd ++ [d] } { S with ds := S.ds ++ [[]] } → H d = none → Out [A.o] H H' → Q (.int (S.ds.length + 1 : Nat)) H'
def N_c_Ground_begin : List Str := ["self"]
def t_c_Ground_begin (K : PySem.W.Frag) : TS := (tSeq (tDrop (tBM K "list" rAppend (tFld K (tVar 0) "open_deeds") (tCons tDNewK tNil)))
  (tRet (tCB (rLen K) (tCons (tFld K (tVar 0) "open_deeds") tNil))))
theorem pure_begin {K : PySem.W.Frag} {c : Cl} {vs : List V} {H : Hp} {Q : VK} {E : XK} (h : sp_begin K c vs H Q E) : t_c_Ground_begin K { nx := fun _ H' => Q .non H', rt := Q } (start N_c_Ground_begin vs) H := by
  obtain ⟨A, S, rfl, G, R, dl, k⟩ := h
  obtain ⟨g1, g2, g3⟩ := G.gw
  obtain ⟨d1, d2, d3, d4⟩ := G.dw
  have ln := G.dl.length
  unfold t_c_Ground_begin
  fold_lay
  refine i_gfld R G.ob (by simp) lkf_open_deeds ?_
  refine i_app G.ol ?_
  fold_lay
  intro d hd
  have hol : upd H d (.dK []) A.o = some (.lst (A.dd.map V.ref)) := upd_keep hd G.ol
  fold_lay
  refine i_put hol (by rw [List.length_map]; omega) ?_
  have s1 := same_new (o := .dK []) hd
  have ndo : d ≠ A.o := Ne.symm (ne_of_none G.ol hd)
  have hd0 : d ∉ A.dd := fun z => by
    obtain ⟨kvs, e⟩ := G.dl.at_ _ z
    rw [hd] at e
    cases e
  have G2 : Gd c (upd (upd H d (.dK [])) A.o (.lst (A.dd.map V.ref ++ [.ref d]))) { A with dd := A.dd ++ [d] } { S with ds := S.ds ++ [[]] } := by
    have dls := ((G.dl.mono s1).upd (o := .lst (A.dd.map V.ref ++ [.ref d])) (a := A.o) (not_tup hol (fun xs z => by cases z)) d3).snoc (d := d) (kvs := []) (es := []) (upd_off ndo upd_same) .nil
    refine ⟨upd_off g3 (s1 _ _ G.ob), upd_off G.n2 (s1 _ _ G.wl), upd_off G.n3 (s1 _ _ G.hl), ?_, dls, G.n1, G.n2, G.n3, ?_, G.le, G.sz, ?_, fun es m => ?_⟩
    · show upd _ A.o _ A.o = some (.lst ((A.dd ++ [d]).map V.ref))
      rw [upd_same, List.map_append]
      rfl
    · exact List.nodup_append.mpr ⟨G.nd, by simp, fun a ha b hb => by
        rw [List.mem_singleton.mp hb]
        exact fun z => hd0 (z ▸ ha)⟩
    · show (S.ds ++ [[]]).length ≤ 1000
      rw [List.length_append]
      show S.ds.length + 1 ≤ 1000
      omega
    · rcases List.mem_append.mp m with m | m
      · exact G.ok es m
      · rw [List.mem_singleton.mp m]
        exact ⟨List.nodup_nil, fun e he => by cases he⟩
  have O2 : Out [A.o] H (upd (upd H d (.dK [])) A.o (.lst (A.dd.map V.ref ++ [.ref d]))) := (Same.out s1).trans (out_upd (by simp))
  have kk := k d _ G2 hd O2
  have ob2 := G2.ob
  have ol2 := G2.ol
  generalize upd (upd H d (.dK [])) A.o (.lst (A.dd.map V.ref ++ [.ref d])) = H2 at *
  fold_lay
  refine i_gfld R ob2 (by simp) lkf_open_deeds ?_
  fold_lay
  show Q (.int ((List.map V.ref (A.dd ++ [d])).length : Nat)) H2
  have e : (List.map V.ref (A.dd ++ [d])).length = S.ds.length + 1 := by
    rw [List.length_map, List.length_append, ln]
    rfl
  rw [e]
  exact kk
/-! ## Ground3 -/
/-! ### the ground: cost_since, change_cell, cancel -/
def differs (ws hs : List Int) (e : En) : Bool := decide (ws.getD e.1.toNat 0 ≠ e.2.1 ∨ hs.getD e.1.toNat 0 ≠ e.2.2)
def costOf (ws hs : List Int) (es : List En) : Nat := (es.filter (differs ws hs)).length
theorem getD_at {l : List Int} {p : Int} (h0 : 0 ≤ p) (h1 : p < l.length) : l[p.toNat]? = some (l.getD p.toNat 0) := by
  rw [List.getD_eq_getElem?_getD, List.getElem?_eq_getElem (by omega)]
  rfl
theorem at_ints {l : List Int} {p : Int} (h0 : 0 ≤ p) (h1 : p < l.length) : atI (l.map V.int) p = some (.int (l.getD p.toNat 0)) :=
  at_of (j := p.toNat) (by omega) (by rw [List.getElem?_map, getD_at h0 h1]; rfl)
/-- a top deed's dict -/
def sp_cost_since (K : PySem.W.Frag) (c : Cl) : Sp := fun vs H Q _ => ∃ (A : GA) (S : GS) (d : Addr) (kvs : List (Key × V)) (es : List En), vs = [.ref A.g, .ref d] ∧ Gd c H A S ∧ GdK K c ∧ H d = some (.dK kvs) ∧ Ent H kvs es ∧ (∀ e ∈ es, 0 ≤ e.1 ∧ e.1 < S.ws.length) ∧ es.length ≤ 20000 ∧
  ∀ H', Same H H' → Q (.int (costOf S.ws S.hs es : Nat)) H'
theorem filter_step {p : En → Bool} {l : List En} {i : Nat} {x : En} (h : l[i]? = some x) : ((l.take (i + 1)).filter p).length = ((l.take i).filter p).length + (if p x = true then 1 else 0) := by
  rw [take_more h, List.filter_append, List.length_append]
  by_cases q : p x = true
  · simp [q]
  · simp [q]
def N_c_Ground_cost_since : List Str := ["self", "deed", "cost", "place", "word", "holder"]
def t_c_Ground_cost_since (K : PySem.W.Frag) : TS := (tSeq (tAsg (tC (.int 0)) (gName 2))
  (tSeq (tLock (tFor (iItems (tVar 1)) (gTup K 2 (gCons (gName 3) (gCons (gTup K 2 (gCons (gName 4) (gCons (gName 5) gNil))) gNil))) (tIfS (tOr (tTest (tOp rNe (tOp (rIxL K) (tFld K (tVar 0) "cell_words") (tVar 3)) (tVar 4))) (tTest (tOp rNe (tOp (rIxL K) (tFld K (tVar 0) "cell_holders") (tVar 3)) (tVar 5)))) (tAug 2 (tC (.int 1)) (ipI fun i j => i + j)) tNext)))
  (tRet (tVar 2))))
theorem pure_cost_since {K : PySem.W.Frag} {c : Cl} {vs : List V} {H : Hp} {Q : VK} {E : XK} (h : sp_cost_since K c vs H Q E) : t_c_Ground_cost_since K { nx := fun _ H' => Q .non H', rt := Q } (start N_c_Ground_cost_since vs) H := by
  obtain ⟨A, S, d, kvs, es, rfl, G, R, hd, he, hp, hz, k⟩ := h
  have el := he.length
  unfold t_c_Ground_cost_since
  fold_lay
  refine i_seq ?_
  refine ⟨d, .dK kvs, hd, trivial, fun od => ?_⟩
  have ngd : A.g ≠ d := fun z => by
    have := G.ob
    rw [z, hd] at this
    cases this
  have nwd : A.w ≠ d := fun z => by
    have := G.wl
    rw [z, hd] at this
    cases this
  have nhd : A.h ≠ d := fun z => by
    have := G.hl
    rw [z, hd] at this
    cases this
  have hd1 : upd H d (.frz od (.dK kvs)) d = some (.frz od (.dK kvs)) := upd_same
  have og : upd H d (.frz od (.dK kvs)) A.g = some (.ins c.k_Ground A.dx (flds A S)) := upd_off ngd G.ob
  have ow : upd H d (.frz od (.dK kvs)) A.w = some (.lst (S.ws.map V.int)) := upd_off nwd G.wl
  have oh : upd H d (.frz od (.dK kvs)) A.h = some (.lst (S.hs.map V.int)) := upd_off nhd G.hl
  have he1 : Ent (upd H d (.frz od (.dK kvs))) kvs es := he.upd (not_tup hd (fun xs z => by cases z))
  have back : ∀ H', Same (upd H d (.frz od (.dK kvs))) H' → Same H (upd H' d (.dK kvs)) := fun H' s b u e => by
    by_cases hb : b = d
    · subst hb
      rw [hd] at e
      rw [upd_same]
      exact e
    · exact upd_off hb (s _ _ (upd_off hb e))
  generalize upd H d (.frz od (.dK kvs)) = H1 at *
  fold_lay
  refine ⟨d, od, kvs, rfl, hd1, ?_⟩
  refine l_items (fun i σ' H' => Same H1 H' ∧ ∃ y1 y2 y3, σ' = [some (.ref A.g), some (.ref d), some (.int (((es.take i).filter (differs S.ws S.hs)).length : Nat)), y1, y2, y3]) ⟨Same.refl _, none, none, none, rfl⟩ (fun i σ' H' _ h => h.1 _ _ hd1) ?_ ?_
  · rintro i kk v σ' H2 T hx ⟨s2, y1, y2, y3, rfl⟩ hT
    obtain ⟨p, w, g, t, e1, rfl, rfl, ht⟩ := he1.get hx
    obtain ⟨p0, p1⟩ := hp _ (List.mem_of_getElem? e1)
    have p0 : 0 ≤ p := p0
    have p1 : p < S.ws.length := p1
    have p2 : p < S.hs.length := by rw [← G.le]; exact p1
    have s3 := s2.trans (same_new (o := .tup [.int p, .ref t]) hT)
    have fs := filter_step (p := differs S.ws S.hs) e1
    show gTup K 2 _ (.ref T) _ (upd H2 T (.tup [.int p, .ref t])) _
    have ht3 : upd H2 T (.tup [.int p, .ref t]) t = some (.tup [.int w, .int g]) := s3 _ _ ht
    have hT3 : upd H2 T (.tup [.int p, .ref t]) T = some (.tup [.int p, .ref t]) := upd_same
    generalize upd H2 T (.tup [.int p, .ref t]) = H3 at *
    have next : ∀ b : Bool, b = differs S.ws S.hs (p, w, g) → ∀ y, y = (((es.take i).filter (differs S.ws S.hs)).length : Int) + (if b = true then 1 else 0) → Same H1 H3 ∧ ∃ y1 y2 y3, ([some (.ref A.g), some (.ref d), some (.int y), some (.int p), some (.int w), some (.int g)] : St) = [some (.ref A.g), some (.ref d), some (.int (((es.take (i + 1)).filter (differs S.ws S.hs)).length : Nat)), y1, y2, y3] := fun b hb y hy => by
      refine ⟨s3, some (.int p), some (.int w), some (.int g), ?_⟩
      rw [fs, hy, hb]
      have : ((if differs S.ws S.hs (p, w, g) = true then 1 else 0 : Nat) : Int) = (if differs S.ws S.hs (p, w, g) = true then 1 else 0 : Int) := by split <;> rfl
      rw [Int.natCast_add, this]
    fold_lay
    refine i_gfld R (s3 _ _ og) (by simp) lkf_cell_words ?_
    fold_lay
    refine i_ixL (sqL (s3 _ _ ow)) (at_ints p0 p1) ?_
    fold_lay
    refine i_ifn (fun q => ?_) (fun q => ?_)
    · fold_lay
      exact next true (decide_eq_true (.inl q)).symm _ rfl
    · fold_lay
      refine i_gfld R (s3 _ _ og) (by simp) lkf_cell_holders ?_
      fold_lay
      refine i_ixL (sqL (s3 _ _ oh)) (at_ints p0 p2) ?_
      fold_lay
      refine i_ifn (fun q2 => ?_) (fun q2 => ?_)
      · fold_lay
        exact next true (decide_eq_true (.inr q2)).symm _ rfl
      · fold_lay
        exact next false (decide_eq_false (fun z => z.elim (fun a => a q) (fun b => b q2))).symm _ (by simp)
  · rintro σ' H2 ⟨s2, y1, y2, y3, rfl⟩
    rw [el, List.take_length]
    refine ⟨s2 _ _ hd1, ?_⟩
    fold_lay
    exact k _ (back H2 s2)
/-- a word and a holder put, noted in the top deed -/
def note (ws hs : List Int) (p : Int) (es : List En) : List En := if p ∈ es.map (·.1) then es else es ++ [(p, ws.getD p.toNat 0, hs.getD p.toNat 0)]
theorem Gd.setD {c : Cl} {H : Hp} {A : GA} {S : GS} {dd0 : List Addr} {d : Addr} {ds0 : List (List En)} {es es' : List En} {kvs kvs' : List (Key × V)} (G : Gd c H A S) (ea : A.dd = dd0 ++ [d]) (eS : S.ds = ds0 ++ [es]) (hd : H d = some (.dK kvs)) (hdl0 : Dds H dd0 ds0) (he : Ent H kvs' es') (hok : (es'.map (·.1)).Nodup ∧ ∀ e ∈ es', 0 ≤ e.1 ∧ e.1 < S.ws.length) :
    Gd c (upd H d (.dK kvs')) A { S with ds := ds0 ++ [es'] } := by
  obtain ⟨d1, d2, d3, d4⟩ := G.dw
  have din : d ∈ A.dd := by rw [ea]; simp
  have nt := not_tup hd (fun xs z => by cases z)
  have nd := G.nd
  rw [ea] at nd
  have nd0 : d ∉ dd0 := fun z => (List.nodup_append.mp nd).2.2 d z d (by simp) rfl
  refine ⟨upd_off (fun z => d4 (z ▸ din)) G.ob, upd_off (fun z => d1 (z ▸ din)) G.wl, upd_off (fun z => d2 (z ▸ din)) G.hl, upd_off (fun z => d3 (z ▸ din)) G.ol, ?_, G.n1, G.n2, G.n3, G.nd, G.le, G.sz, ?_, fun x m => ?_⟩
  · rw [ea]
    exact (hdl0.upd nt nd0).snoc upd_same (he.upd nt)
  · have := G.dn
    rw [eS, List.length_append] at this
    show (ds0 ++ [es']).length ≤ 1000
    rw [List.length_append]
    exact this
  · rcases List.mem_append.mp m with m | m
    · exact G.ok x (by rw [eS]; exact List.mem_append_left _ m)
    · rw [List.mem_singleton.mp m]
      exact hok
def sp_change_cell (K : PySem.W.Frag) (c : Cl) : Sp := fun vs H Q _ => ∃ (A : GA) (S : GS) (dd0 : List Addr) (d : Addr) (ds0 : List (List En)) (es : List En) (p w h : Int), vs = [.ref A.g, .int p, .int w, .int h] ∧ Gd c H A S ∧ GdK K c ∧ A.dd = dd0 ++ [d] ∧ S.ds = ds0 ++ [es] ∧ 0 ≤ p ∧ p < S.ws.length ∧ es.length ≤ 20000 ∧
  ∀ H', Gd c H' A { S with ws := S.ws.set p.toNat w, hs := S.hs.set p.toNat h, ds := ds0 ++ [note S.ws S.hs p es] } → Out [A.w, A.h, d] H H' → Q .non H'
theorem nodup_snoc {l : List Int} {p : Int} (h : l.Nodup) (n : p ∉ l) : (l ++ [p]).Nodup := List.nodup_append.mpr ⟨h, by simp, fun a ha b hb => by
  rw [List.mem_singleton.mp hb]
  exact fun z => n (z ▸ ha)⟩
theorem set_ints {l : List Int} {i : Nat} {w : Int} : (l.map V.int).set i (.int w) = (l.set i w).map V.int := by
  rw [List.map_set]
theorem ix_ints {l : List Int} {p : Int} (h0 : 0 ≤ p) (h1 : p < l.length) : ixN (l.map V.int).length p = some p.toNat := by
  rw [List.length_map]
  unfold ixN
  rw [if_pos h0, if_pos (by omega)]
def N_c_Ground_change_cell : List Str := ["self", "place", "word", "holder", "deed"]
def t_c_Ground_change_cell (K : PySem.W.Frag) : TS := (tSeq (tAsg (tOp (rIxL K) (tFld K (tVar 0) "open_deeds") (tUn oNeg (tC (.int 1)))) (gName 4))
  (tSeq (tIfS (tB (tDNotIn (tVar 1) (tVar 4))) (sDPut (tVar 4) (tVar 1) (tTup (tCons (tOp (rIxL K) (tFld K (tVar 0) "cell_words") (tVar 1)) (tCons (tOp (rIxL K) (tFld K (tVar 0) "cell_holders") (tVar 1)) tNil)))) tNext)
  (tSeq (tAsg (tVar 2) (gSub (tFld K (tVar 0) "cell_words") (tVar 1) rSetL))
  (tAsg (tVar 3) (gSub (tFld K (tVar 0) "cell_holders") (tVar 1) rSetL)))))
theorem pure_change_cell {K : PySem.W.Frag} {c : Cl} {vs : List V} {H : Hp} {Q : VK} {E : XK} (h : sp_change_cell K c vs H Q E) : t_c_Ground_change_cell K { nx := fun _ H' => Q .non H', rt := Q } (start N_c_Ground_change_cell vs) H := by
  obtain ⟨A, S, dd0, d, ds0, es, p, w, hh, rfl, G, R, ea, eS, p0, p1, ez, k⟩ := h
  have p2 : p < S.hs.length := by rw [← G.le]; exact p1
  have hdl := G.dl
  rw [ea, eS] at hdl
  obtain ⟨dd1, d1, kvs, e1, hdl0, hd, he⟩ := hdl.last
  obtain ⟨rfl, e2⟩ := List.append_inj' e1 rfl
  obtain rfl : d = d1 := by simpa using e2
  have hok := G.ok es (by rw [eS]; simp)
  unfold t_c_Ground_change_cell
  fold_lay
  refine i_gfld R G.ob (by simp) lkf_open_deeds ?_
  fold_lay
  have hol := G.ol
  rw [ea, List.map_append] at hol
  refine i_ixL (sqL hol) (v := .ref d) ?_ ?_
  · unfold atI ixN
    have : (List.map V.ref dd0 ++ List.map V.ref [d]).length = dd0.length + 1 := by simp
    rw [this, if_neg (by omega), if_pos (by omega)]
    show (List.map V.ref dd0 ++ [.ref d])[(-1 + ((dd0.length + 1 : Nat) : Int)).toNat]? = _
    rw [show (-1 + ((dd0.length + 1 : Nat) : Int)).toNat = (List.map V.ref dd0).length by rw [List.length_map]; omega]
    simp
  fold_lay
  have hw0 := at_ints (l := S.ws) p0 p1
  have hh0 := at_ints (l := S.hs) p0 p2
  refine i_cut (fun σ' H' => Gd c H' A { S with ds := ds0 ++ [note S.ws S.hs p es] } ∧ Out [d] H H' ∧ σ' = [some (.ref A.g), some (.int p), some (.int w), some (.int hh), some (.ref d)]) ?_ (fun nx key => ?_)
  rotate_left
  · fold_lay
    refine ⟨d, _, rfl, DGet.k (k := Sum.inl p) hd, ?_⟩
    fold_lay
    rw [he.val]
    refine i_ifn (fun g => ?_) (fun g => ?_)
    · fold_lay
      refine i_gfld R G.ob (by simp) lkf_cell_words ?_
      fold_lay
      refine i_ixL (sqL G.wl) hw0 ?_
      fold_lay
      refine i_gfld R G.ob (by simp) lkf_cell_holders ?_
      fold_lay
      refine i_ixL (sqL G.hl) hh0 ?_
      fold_lay
      rename_i t ht
      have s1 := same_new (o := .tup [.int (S.ws.getD p.toNat 0), .int (S.hs.getD p.toNat 0)]) ht
      refine ⟨d, _, rfl, DPut.k (k := Sum.inl p) (s1 _ _ hd) (szl (by rw [he.length]; omega)), ?_⟩
      rw [putK_fresh (he.fresh g)]
      refine key _ _ ⟨?_, (Same.out s1).trans (out_upd (by simp)), rfl⟩
      have e : note S.ws S.hs p es = es ++ [(p, S.ws.getD p.toNat 0, S.hs.getD p.toNat 0)] := by
        unfold note
        rw [if_neg g]
      rw [e]
      refine (G.mono s1).setD ea eS (s1 _ _ hd) (hdl0.mono s1) ((he.mono s1).snoc upd_same) ⟨?_, fun x m => ?_⟩
      · rw [List.map_append]
        exact nodup_snoc hok.1 g
      · rcases List.mem_append.mp m with m | m
        · exact hok.2 x m
        · rw [List.mem_singleton.mp m]
          exact ⟨p0, p1⟩
    · fold_lay
      have e : note S.ws S.hs p es = es := by
        unfold note
        rw [if_pos g]
      refine key _ _ ⟨?_, Out.refl _ _, rfl⟩
      rw [e, ← eS]
      exact G
  rintro σ' H2 ⟨G2, O2, rfl⟩
  have kk := k
  fold_lay
  refine i_gfld R G2.ob (by simp) lkf_cell_words ?_
  fold_lay
  refine i_setL G2.wl (ix_ints (l := S.ws) p0 p1) ?_
  rw [set_ints]
  have G3 := G2.setW (ws := S.ws.set p.toNat w) (by rw [List.length_set])
  have O3 : Out [A.w, A.h, d] H (upd H2 A.w (.lst ((S.ws.set p.toNat w).map V.int))) := (O2.wide (by simp)).trans (out_upd (by simp))
  generalize upd H2 A.w (.lst ((S.ws.set p.toNat w).map V.int)) = H3 at *
  fold_lay
  refine i_gfld R G3.ob (by simp) lkf_cell_holders ?_
  fold_lay
  refine i_setL G3.hl (ix_ints (l := S.hs) p0 p2) ?_
  rw [set_ints]
  exact k _ (G3.setH (hs := S.hs.set p.toNat hh) (by rw [List.length_set])) (O3.trans (out_upd (by simp)))
/-! ## Ground4 -/
/-! ### the ground: cancel -/
theorem Gd.off {c : Cl} {H : Hp} {A : GA} {S : GS} {a : Addr} {o : HO} (G : Gd c H A S) (n1 : a ≠ A.g) (n2 : a ≠ A.w) (n3 : a ≠ A.h) (n4 : a ≠ A.o) (n5 : a ∉ A.dd) (nt : ∀ xs, H a ≠ some (.tup xs)) : Gd c (upd H a o) A S :=
  ⟨upd_off (Ne.symm n1) G.ob, upd_off (Ne.symm n2) G.wl, upd_off (Ne.symm n3) G.hl, upd_off (Ne.symm n4) G.ol, G.dl.upd nt n5, G.n1, G.n2, G.n3, G.nd, G.le, G.sz, G.dn, G.ok⟩
/-- the top deed, and what stands below it -/
theorem Gd.top {c : Cl} {H : Hp} {A : GA} {S : GS} {ds0 : List (List En)} {es : List En} (G : Gd c H A S) (eS : S.ds = ds0 ++ [es]) :
    ∃ dd0 d kvs, A.dd = dd0 ++ [d] ∧ Dds H dd0 ds0 ∧ H d = some (.dK kvs) ∧ Ent H kvs es ∧ d ∉ dd0 ∧ dd0.Nodup := by
  have hdl := G.dl
  rw [eS] at hdl
  obtain ⟨dd0, d, kvs, e1, h1, h2, h3⟩ := hdl.last
  have nd := G.nd
  rw [e1] at nd
  obtain ⟨q1, _, q3⟩ := List.nodup_append.mp nd
  exact ⟨dd0, d, kvs, e1, h1, h2, h3, fun z => q3 d z d (by simp) rfl, q1⟩
theorem Gd.pop {c : Cl} {H : Hp} {A : GA} {S : GS} {ds0 : List (List En)} {es : List En} {dd0 : List Addr} {d : Addr} (G : Gd c H A S) (eS : S.ds = ds0 ++ [es]) (ea : A.dd = dd0 ++ [d]) (h1 : Dds H dd0 ds0) (q1 : dd0.Nodup) :
    Gd c (upd H A.o (.lst (dd0.map V.ref))) { A with dd := dd0 } { S with ds := ds0 } := by
  obtain ⟨g1, g2, g3⟩ := G.gw
  obtain ⟨d1, d2, d3, d4⟩ := G.dw
  refine ⟨upd_off g3 G.ob, upd_off G.n2 G.wl, upd_off G.n3 G.hl, upd_same, h1.upd (not_tup G.ol (fun xs z => by cases z)) (fun z => d3 (by rw [ea]; exact List.mem_append_left _ z)), G.n1, G.n2, G.n3, q1, G.le, G.sz, ?_, fun x m => G.ok x (by rw [eS]; exact List.mem_append_left _ m)⟩
  have := G.dn
  rw [eS, List.length_append] at this
  show ds0.length ≤ 1000
  omega
def restW (es : List En) (ws : List Int) : List Int := es.foldl (fun l e => l.set e.1.toNat e.2.1) ws
def restH (es : List En) (hs : List Int) : List Int := es.foldl (fun l e => l.set e.1.toNat e.2.2) hs
theorem restW_len {es : List En} : ∀ {ws : List Int}, (restW es ws).length = ws.length := by
  induction es with
  | nil => intro ws; rfl
  | cons e r ih =>
    intro ws
    show (restW r (ws.set e.1.toNat e.2.1)).length = _
    rw [ih, List.length_set]
theorem restH_len {es : List En} : ∀ {ws : List Int}, (restH es ws).length = ws.length := by
  induction es with
  | nil => intro ws; rfl
  | cons e r ih =>
    intro ws
    show (restH r (ws.set e.1.toNat e.2.2)).length = _
    rw [ih, List.length_set]
theorem restW_more {es : List En} {i : Nat} {x : En} {ws : List Int} (h : es[i]? = some x) : restW (es.take (i + 1)) ws = (restW (es.take i) ws).set x.1.toNat x.2.1 := by
  unfold restW
  rw [take_more h, List.foldl_append]
  rfl
theorem restH_more {es : List En} {i : Nat} {x : En} {ws : List Int} (h : es[i]? = some x) : restH (es.take (i + 1)) ws = (restH (es.take i) ws).set x.1.toNat x.2.2 := by
  unfold restH
  rw [take_more h, List.foldl_append]
  rfl
abbrev unkA (H : Hp) (d : Addr) : Prop := ErAt H d "Unknown" [("parameter", .str "deed")] [.str "deed"]
def sp_cancel (K : PySem.W.Frag) (c : Cl) : Sp := fun vs H Q E => ∃ (A : GA) (S : GS), vs = [.ref A.g] ∧ Gd c H A S ∧ GdK K c ∧ ErC K c.k_Unknown ["told", "parameter"] ∧
  (S.ds = [] → ∀ d H', unkA H' d → Same H H' → E (.ref c.k_Unknown) (some d) H') ∧
  (∀ ds0 es, S.ds = ds0 ++ [es] → es.length ≤ 20000 ∧ ∀ dd0 d H', A.dd = dd0 ++ [d] → Gd c H' { A with dd := dd0 } { S with ws := restW es S.ws, hs := restH es S.hs, ds := ds0 } → Out [A.w, A.h, A.o] H H' → Q .non H')
theorem snoc_of {α : Type} (l : List α) : l = [] ∨ ∃ r x, l = r ++ [x] := by
  rcases List.eq_nil_or_concat l with h | ⟨r, x, h⟩
  · exact .inl h
  · exact .inr ⟨r, x, by simpa using h⟩
theorem i_popL {K : PySem.W.Frag} {H : Hp} {Q : VK} {l : Addr} {xs : List V} {y : V} (h : H l = some (.lst (xs ++ [y]))) (q : Q y (upd H l (.lst xs))) : tyV K "list" (.ref l) H ∧ rPop (.ref l) [] H Q := by
  refine ⟨.inl ⟨rfl, _, sqL h⟩, l, _, y, rfl, rfl, h, ?_, ?_⟩
  · rw [List.length_append]
    show (xs ++ [y])[xs.length + 1 - 1]? = some y
    simp
  · rw [List.dropLast_concat]
    exact q
def N_c_Ground_cancel : List Str := ["self", "deed", "place", "word", "holder"]
def t_c_Ground_cancel (K : PySem.W.Frag) (c : Cl) (E : XK) : TS := (tSeq (tIfS (tTest (tOp rEq (tCB (rLen K) (tCons (tFld K (tVar 0) "open_deeds") tNil)) (tC (.int 0)))) (tRz (tMkO c.k_Unknown (sp_init_Unknown K c.k_Unknown) [] (tCons (tC (.str "deed")) tNil)) (fun cls d _ H => E cls d H)) tNext)
  (tSeq (tAsg (tBM0 K "list" rPop (tFld K (tVar 0) "open_deeds")) (gName 1))
  (tLock (tFor (iItems (tVar 1)) (gTup K 2 (gCons (gName 2) (gCons (gTup K 2 (gCons (gName 3) (gCons (gName 4) gNil))) gNil))) (tSeq (tAsg (tVar 3) (gSub (tFld K (tVar 0) "cell_words") (tVar 2) rSetL))
  (tAsg (tVar 4) (gSub (tFld K (tVar 0) "cell_holders") (tVar 2) rSetL)))))))
theorem pure_cancel {K : PySem.W.Frag} {c : Cl} {vs : List V} {H : Hp} {Q : VK} {E : XK} (h : sp_cancel K c vs H Q E) : t_c_Ground_cancel K c E { nx := fun _ H' => Q .non H', rt := Q } (start N_c_Ground_cancel vs) H := by
  obtain ⟨A, S, rfl, G, R, EU, k0, k1⟩ := h
  have ln := G.dl.length
  unfold t_c_Ground_cancel
  fold_depth
  refine i_gfld R G.ob (by simp) lkf_open_deeds ?_
  fold_lay
  rcases snoc_of S.ds with e0 | ⟨ds0, es, eS⟩
  · have : (List.map V.ref A.dd).length = 0 := by rw [List.length_map, ln, e0]; rfl
    refine i_lenL (sqL G.ol) ?_
    rw [this]
    fold_lay
    refine i_yes rfl ?_
    refine i_rzE ?_
    fold_lay
    exact c_mkE (nm := "Unknown") (fs := [("parameter", .str "deed")]) (vs := [.str "deed"]) (by simp) (fun a H Q he hq => ⟨a, _, rfl, he, EU, hq⟩) fun d H' hE hS _ => k0 e0 d H' hE hS
  obtain ⟨ez, k1⟩ := k1 ds0 es eS
  obtain ⟨dd0, d, kvs, ea, h1, hd, he, nd0, q1⟩ := G.top eS
  have : (List.map V.ref A.dd).length = dd0.length + 1 := by rw [List.length_map, ea]; simp
  have hok := (G.ok es (by rw [eS]; simp)).2
  have hol := G.ol
  rw [ea, List.map_append] at hol
  refine i_lenL (sqL G.ol) ?_
  rw [this]
  fold_lay
  refine i_no (by omega) ?_
  fold_lay
  refine i_gfld R G.ob (by simp) lkf_open_deeds ?_
  refine i_popL (y := .ref d) hol ?_
  have G1 := G.pop eS ea h1 q1
  obtain ⟨d1, d2, d3, d4⟩ := G.dw
  have din : d ∈ A.dd := by rw [ea]; simp
  have m1 : d ≠ A.g := fun z => d4 (z ▸ din)
  have m2 : d ≠ A.w := fun z => d1 (z ▸ din)
  have m3 : d ≠ A.h := fun z => d2 (z ▸ din)
  have m4 : d ≠ A.o := fun z => d3 (z ▸ din)
  have hd1 : upd H A.o (.lst (dd0.map V.ref)) d = some (.dK kvs) := upd_off m4 hd
  have he1 : Ent (upd H A.o (.lst (dd0.map V.ref))) kvs es := he.upd (not_tup G.ol (fun xs z => by cases z))
  have O1 : Out [A.w, A.h, A.o] H (upd H A.o (.lst (dd0.map V.ref))) := out_upd (by simp)
  generalize upd H A.o (.lst (dd0.map V.ref)) = H1 at *
  fold_lay
  refine ⟨d, .dK kvs, hd1, trivial, fun od => ?_⟩
  have nt := not_tup hd1 (fun xs z => by cases z)
  have G2 : Gd c (upd H1 d (.frz od (.dK kvs))) { A with dd := dd0 } { S with ds := ds0 } := G1.off m1 m2 m3 m4 nd0 nt
  have he2 : Ent (upd H1 d (.frz od (.dK kvs))) kvs es := he1.upd nt
  have hd2 : upd H1 d (.frz od (.dK kvs)) d = some (.frz od (.dK kvs)) := upd_same
  have back : ∀ H', Out [A.w, A.h, A.o] (upd H1 d (.frz od (.dK kvs))) H' → Out [A.w, A.h, A.o] H1 (upd H' d (.dK kvs)) := fun H' s b u n e => by
    by_cases hb : b = d
    · subst hb
      rw [hd1] at e
      rw [upd_same]
      exact e
    · exact upd_off hb (s _ _ n (upd_off hb e))
  generalize upd H1 d (.frz od (.dK kvs)) = H2 at *
  fold_lay
  refine ⟨d, od, kvs, rfl, hd2, ?_⟩
  refine l_items (fun i σ' H' => H' d = some (.frz od (.dK kvs)) ∧ Gd c H' { A with dd := dd0 } { S with ws := restW (es.take i) S.ws, hs := restH (es.take i) S.hs, ds := ds0 } ∧ Out [A.w, A.h, A.o] H2 H' ∧ Ent H' kvs es ∧ ∃ y1 y2 y3, σ' = [some (.ref A.g), some (.ref d), y1, y2, y3]) ⟨hd2, G2, Out.refl _ _, he2, none, none, none, rfl⟩ (fun i σ' H' _ h => h.1) ?_ ?_
  · rintro i kk v σ' H3 T hx ⟨hd3, G3, O3, he3, y1, y2, y3, rfl⟩ hT
    obtain ⟨p, w, g, t, e1, rfl, rfl, ht⟩ := he3.get hx
    obtain ⟨p0, p1⟩ := hok _ (List.mem_of_getElem? e1)
    have p0 : 0 ≤ p := p0
    have p1 : p < S.ws.length := p1
    have s4 := same_new (o := .tup [.int p, .ref t]) hT
    show gTup K 2 _ (.ref T) _ (upd H3 T (.tup [.int p, .ref t])) _
    have hT4 : upd H3 T (.tup [.int p, .ref t]) T = some (.tup [.int p, .ref t]) := upd_same
    have ht4 := s4 _ _ ht
    have hd4 := s4 _ _ hd3
    have G4 := G3.mono s4
    have O4 : Out [A.w, A.h, A.o] H2 (upd H3 T (.tup [.int p, .ref t])) := O3.trans (Same.out s4)
    have he4 := he3.mono s4
    generalize upd H3 T (.tup [.int p, .ref t]) = H4 at *
    fold_lay
    refine i_gfld R G4.ob (by simp) lkf_cell_words ?_
    fold_lay
    refine i_setL G4.wl (ix_ints p0 (by show p < ((restW (es.take i) S.ws).length : Int); rw [restW_len]; exact p1)) ?_
    rw [set_ints]
    have G5 := G4.setW (ws := (restW (es.take i) S.ws).set p.toNat w) (by rw [List.length_set])
    have nw : ∀ xs, H4 A.w ≠ some (.tup xs) := not_tup G4.wl (fun xs z => by cases z)
    have he5 := he4.upd (o := .lst (((restW (es.take i) S.ws).set p.toNat w).map V.int)) nw
    have hd5 : upd H4 A.w (.lst (((restW (es.take i) S.ws).set p.toNat w).map V.int)) d = some (.frz od (.dK kvs)) := upd_off m2 hd4
    have O5 : Out [A.w, A.h, A.o] H2 (upd H4 A.w (.lst (((restW (es.take i) S.ws).set p.toNat w).map V.int))) := O4.trans (out_upd (by simp))
    generalize upd H4 A.w (.lst (((restW (es.take i) S.ws).set p.toNat w).map V.int)) = H5 at *
    fold_lay
    refine i_gfld R G5.ob (by simp) lkf_cell_holders ?_
    fold_lay
    refine i_setL G5.hl (ix_ints p0 (by show p < ((restH (es.take i) S.hs).length : Int); rw [restH_len, ← G.le]; exact p1)) ?_
    rw [set_ints]
    have G6 := G5.setH (hs := (restH (es.take i) S.hs).set p.toNat g) (by rw [List.length_set])
    have nh : ∀ xs, H5 A.h ≠ some (.tup xs) := not_tup G5.hl (fun xs z => by cases z)
    refine ⟨upd_off m3 hd5, ?_, O5.trans (out_upd (by simp)), he5.upd nh, _, _, _, rfl⟩
    rw [restW_more e1, restH_more e1]
    exact G6
  · rintro σ' H3 ⟨hd3, G3, O3, he3, y1, y2, y3, rfl⟩
    rw [he.length, List.take_length] at G3
    exact ⟨hd3, k1 dd0 d _ ea (G3.off m1 m2 m3 m4 nd0 (not_tup hd3 (fun xs z => by cases z))) (O1.trans (back H3 O3))⟩
/-! ## Ground5 -/
/-! ### the ground: commit -/
def merge (o es : List En) : List En := es.foldl (fun o e => if e.1 ∈ o.map (·.1) then o else o ++ [e]) o
theorem merge_more {es : List En} {i : Nat} {x : En} {o : List En} (h : es[i]? = some x) : merge o (es.take (i + 1)) = if x.1 ∈ (merge o (es.take i)).map (·.1) then merge o (es.take i) else merge o (es.take i) ++ [x] := by
  unfold merge
  rw [take_more h, List.foldl_append]
  rfl
theorem merge_len {es : List En} : ∀ {o : List En}, (merge o es).length ≤ o.length + es.length := by
  induction es with
  | nil => intro o; exact Nat.le_refl _
  | cons e r ih =>
    intro o
    show (merge (if e.1 ∈ o.map (·.1) then o else o ++ [e]) r).length ≤ _
    refine Nat.le_trans ih ?_
    split
    · simp only [List.length_cons]
      omega
    · simp only [List.length_cons, List.length_append, List.length_nil]
      omega
theorem merge_ok {es : List En} {n : Int} : ∀ {o : List En}, (o.map (·.1)).Nodup → (∀ e ∈ o, 0 ≤ e.1 ∧ e.1 < n) → (∀ e ∈ es, 0 ≤ e.1 ∧ e.1 < n) → ((merge o es).map (·.1)).Nodup ∧ ∀ e ∈ merge o es, 0 ≤ e.1 ∧ e.1 < n := by
  induction es with
  | nil => intro o h1 h2 _; exact ⟨h1, h2⟩
  | cons e r ih =>
    intro o h1 h2 h3
    show ((merge (if e.1 ∈ o.map (·.1) then o else o ++ [e]) r).map (·.1)).Nodup ∧ ∀ x ∈ merge (if e.1 ∈ o.map (·.1) then o else o ++ [e]) r, 0 ≤ x.1 ∧ x.1 < n
    have hr : ∀ x ∈ r, 0 ≤ x.1 ∧ x.1 < n := fun x m => h3 x (List.mem_cons_of_mem _ m)
    by_cases g : e.1 ∈ o.map (·.1)
    · rw [if_pos g]
      exact ih h1 h2 hr
    · rw [if_neg g]
      refine ih ?_ (fun x m => ?_) hr
      · rw [List.map_append]
        exact nodup_snoc h1 g
      · rcases List.mem_append.mp m with m | m
        · exact h2 x m
        · rw [List.mem_singleton.mp m]
          exact h3 e List.mem_cons_self
/-- a field of the ground written -/
theorem Gd.setF {c : Cl} {H : Hp} {A : GA} {S : GS} {al : Option Int} {ch : Int} (h : Gd c H A S) : Gd c (upd H A.g (.ins c.k_Ground A.dx (flds A { S with al := al, ch := ch }))) A { S with al := al, ch := ch } := by
  obtain ⟨g1, g2, g3⟩ := h.gw
  obtain ⟨d1, d2, d3, d4⟩ := h.dw
  exact ⟨upd_same, upd_off (Ne.symm g1) h.wl, upd_off (Ne.symm g2) h.hl, upd_off (Ne.symm g3) h.ol, h.dl.upd (not_tup h.ob (fun xs z => by cases z)) d4, h.n1, h.n2, h.n3, h.nd, h.le, h.sz, h.dn, h.ok⟩
theorem put_al {A : GA} {S : GS} {x : Int} : putF "allowance" (.int x) (flds A S) = flds A { S with al := some x } := by
  unfold flds
  simp only [putF]
  rw [if_neg (by decide), if_neg (by decide), if_neg (by decide), if_pos trivial]
  rfl
theorem put_ch {A : GA} {S : GS} {x : Int} : putF "charged" (.int x) (flds A S) = flds A { S with ch := x } := by
  unfold flds
  simp only [putF]
  rw [if_neg (by decide), if_neg (by decide), if_neg (by decide), if_neg (by decide), if_pos trivial]
theorem i_sfld {K : PySem.W.Frag} {c : Cl} {H : Hp} {A : GA} {S : GS} {f : Str} {y : V} {P : Hp → Prop} (R : GdK K c) (G : Gd c H A S) (hf : f ∈ (["pages", "width", "fill", "allowance", "charged", "cell_words", "cell_holders", "open_deeds"] : List Str)) (q : P (upd H A.g (.ins c.k_Ground A.dx (putF f y (flds A S))))) :
    ∃ a C dx fs, V.ref A.g = .ref a ∧ H a = some (.ins C dx fs) ∧ Cls K C ∧ NoAttr K C f ∧ fs.length < 1000 ∧ P (upd H a (.ins C dx (putF f y fs))) := ⟨A.g, c.k_Ground, A.dx, flds A S, rfl, G.ob, R.cl, R.na f hf, by show 8 < 1000; decide, q⟩
instance s_sfld {K : PySem.W.Frag} {ta tv : TE} {f : Str} {nx bk ct : St → Hp → Prop} {rt : VK} {σ : St} {H : Hp} : Stp (sFld K ta tv f ⟨nx, rt, bk, ct⟩ σ H) (tv σ H fun y H1 => ta σ H1 fun x H2 => ∃ a C dx fs, x = .ref a ∧ H2 a = some (.ins C dx fs) ∧ Cls K C ∧ NoAttr K C f ∧ fs.length < 1000 ∧ nx σ (upd H2 a (.ins C dx (putF f y fs)))) := ⟨fun h => h⟩
theorem i_meth {c : Cl} {H : Hp} {A : GA} {S : GS} {m : Str} {P : Prop} (G : Gd c H A S) (l : (flds A S).lookup m = none) (q : P) : ∃ a dx fs, V.ref A.g = .ref a ∧ H a = some (.ins c.k_Ground dx fs) ∧ fs.lookup m = none ∧ P := ⟨A.g, A.dx, flds A S, rfl, G.ob, l, q⟩
abbrev cutA (H : Hp) (d : Addr) (n l : Int) : Prop := ErAt H d "Cut" [("left", .int l), ("needed", .int n)] [.int n, .int l]
def sp_commit (K : PySem.W.Frag) (c : Cl) : Sp := fun vs H Q E => ∃ (A : GA) (S : GS), vs = [.ref A.g] ∧ Gd c H A S ∧ GdK K c ∧ ErC K c.k_Unknown ["told", "parameter"] ∧ ErC K c.k_Cut ["told", "needed", "left"] ∧ (∀ es ∈ S.ds, es.length ≤ 20000) ∧
  (S.ds = [] → ∀ d H', unkA H' d → Same H H' → E (.ref c.k_Unknown) (some d) H') ∧
  (∀ es, S.ds = [es] → ∀ d, A.dd = [d] →
    (S.al = none → ∀ H', Gd c H' { A with dd := [] } { S with ch := S.ch + (costOf S.ws S.hs es : Nat), ds := [] } → Out [A.g, A.o] H H' → Q (.int (costOf S.ws S.hs es : Nat)) H') ∧
    (∀ a, S.al = some a → ((costOf S.ws S.hs es : Nat) : Int) ≤ a → ∀ H', Gd c H' { A with dd := [] } { S with al := some (a - (costOf S.ws S.hs es : Nat)), ch := S.ch + (costOf S.ws S.hs es : Nat), ds := [] } → Out [A.g, A.o] H H' → Q (.int (costOf S.ws S.hs es : Nat)) H') ∧
    (∀ a, S.al = some a → a < ((costOf S.ws S.hs es : Nat) : Int) → ∀ e H', cutA H' e (costOf S.ws S.hs es : Nat) a → Gd c H' { A with dd := [] } { S with ws := restW es S.ws, hs := restH es S.hs, ds := [] } → Out [A.w, A.h, A.o] H H' → E (.ref c.k_Cut) (some e) H')) ∧
  (∀ ds0 es1 es, S.ds = ds0 ++ [es1] ++ [es] → ∀ dd0 d1 d, A.dd = dd0 ++ [d1] ++ [d] → ∀ H', Gd c H' { A with dd := dd0 ++ [d1] } { S with ds := ds0 ++ [merge es1 es] } → Out [A.o, d1] H H' → Q (.int (costOf S.ws S.hs es : Nat)) H')
theorem ix_last {xs : List V} {y : V} : atI (xs ++ [y]) (-1) = some y := by
  unfold atI ixN
  have : (xs ++ [y]).length = xs.length + 1 := by simp
  rw [this, if_neg (by omega), if_pos (by omega)]
  show (xs ++ [y])[(-1 + ((xs.length + 1 : Nat) : Int)).toNat]? = _
  rw [show (-1 + ((xs.length + 1 : Nat) : Int)).toNat = xs.length by omega]
  simp
def N_c_Ground_commit : List Str := ["self", "deed", "cost", "outer", "place", "old"]
def t_c_Ground_commit (K : PySem.W.Frag) (c : Cl) (E : XK) : TS := (tSeq (tIfS (tTest (tOp rEq (tCB (rLen K) (tCons (tFld K (tVar 0) "open_deeds") tNil)) (tC (.int 0)))) (tRz (tMkO c.k_Unknown (sp_init_Unknown K c.k_Unknown) [] (tCons (tC (.str "deed")) tNil)) (fun cls d _ H => E cls d H)) tNext)
  (tSeq (tAsg (tOp (rIxL K) (tFld K (tVar 0) "open_deeds") (tUn oNeg (tC (.int 1)))) (gName 1))
  (tSeq (tAsg (tMeth c.k_Ground "cost_since" (sp_cost_since K c) [] E0 (tVar 0) (tCons (tVar 1) tNil)) (gName 2))
  (tSeq (tIfS (tTest (tOp rEq (tCB (rLen K) (tCons (tFld K (tVar 0) "open_deeds") tNil)) (tC (.int 1)))) (tSeq (tIfS (tTest (tOp oNotN (tFld K (tVar 0) "allowance") (tC .non))) (tSeq (tIfS (tTest (tOp oLt (tFld K (tVar 0) "allowance") (tVar 2))) (tSeq (tDrop (tMeth c.k_Ground "cancel" (sp_cancel K c) [] E (tVar 0) tNil))
  (tRz (tMkO c.k_Cut (sp_init_Cut K c.k_Cut) [] (tCons (tVar 2) (tCons (tFld K (tVar 0) "allowance") tNil))) (fun cls d _ H => E cls d H))) tNext)
  (sFld K (tVar 0) (tOp oSub (tFld K (tVar 0) "allowance") (tVar 2)) "allowance")) tNext)
  (tSeq (sFld K (tVar 0) (tOp oAdd (tFld K (tVar 0) "charged") (tVar 2)) "charged")
  (tSeq (tDrop (tBM0 K "list" rPop (tFld K (tVar 0) "open_deeds")))
  (tRet (tVar 2))))) tNext)
  (tSeq (tDrop (tBM0 K "list" rPop (tFld K (tVar 0) "open_deeds")))
  (tSeq (tAsg (tOp (rIxL K) (tFld K (tVar 0) "open_deeds") (tUn oNeg (tC (.int 1)))) (gName 3))
  (tSeq (tLock (tFor (iItems (tVar 1)) (gTup K 2 (gCons (gName 4) (gCons (gName 5) gNil))) (tIfS (tB (tDNotIn (tVar 4) (tVar 3))) (sDPut (tVar 3) (tVar 4) (tVar 5)) tNext)))
  (tRet (tVar 2)))))))))
theorem pure_commit {K : PySem.W.Frag} {c : Cl} {vs : List V} {H : Hp} {Q : VK} {E : XK} (h : sp_commit K c vs H Q E) : t_c_Ground_commit K c E { nx := fun _ H' => Q .non H', rt := Q } (start N_c_Ground_commit vs) H := by
  obtain ⟨A, S, rfl, G, R, EU, EC, ez, k0, k1, k2⟩ := h
  have ln := G.dl.length
  unfold t_c_Ground_commit
  fold_depth
  refine i_gfld R G.ob (by simp) lkf_open_deeds ?_
  fold_lay
  rcases snoc_of S.ds with e0 | ⟨ds0, es, eS⟩
  · have : (List.map V.ref A.dd).length = 0 := by rw [List.length_map, ln, e0]; rfl
    refine i_lenL (sqL G.ol) ?_
    rw [this]
    fold_lay
    refine i_yes rfl ?_
    refine i_rzE ?_
    fold_lay
    exact c_mkE (nm := "Unknown") (fs := [("parameter", .str "deed")]) (vs := [.str "deed"]) (by simp) (fun a H Q he hq => ⟨a, _, rfl, he, EU, hq⟩) fun d H' hE hS _ => k0 e0 d H' hE hS
  obtain ⟨dd0, d, kvs, ea, h1, hd, he, nd0, q1⟩ := G.top eS
  have l1 : (List.map V.ref A.dd).length = dd0.length + 1 := by rw [List.length_map, ea]; simp
  have hok := (G.ok es (by rw [eS]; simp)).2
  have ezs := ez es (by rw [eS]; simp)
  have hol := G.ol
  rw [ea, List.map_append] at hol
  refine i_lenL (sqL G.ol) ?_
  rw [l1]
  fold_lay
  refine i_no (by omega) ?_
  fold_lay
  refine i_gfld R G.ob (by simp) lkf_open_deeds ?_
  fold_lay
  refine i_ixL (sqL hol) (v := .ref d) ix_last ?_
  fold_lay
  refine i_meth G lkm_cost_since ?_
  fold_lay
  refine ⟨A, S, d, kvs, es, rfl, G, R, hd, he, hok, ezs, fun H1 s1 => ?_⟩
  have G1 := G.mono s1
  have hd1 := s1 _ _ hd
  have he1 := he.mono s1
  have h11 := h1.mono s1
  have hol1 := s1 _ _ hol
  have O1 : ∀ F, Out F H H1 := fun F => Same.out s1
  generalize hcost : (costOf S.ws S.hs es) = cost at *
  clear hd he h1 s1
  fold_lay; fold_depth
  refine i_gfld R G1.ob (by simp) lkf_open_deeds ?_
  fold_lay
  rw [show (List.map V.ref dd0 ++ List.map V.ref [d]).length = dd0.length + 1 by simp]
  refine i_ifd (fun g => ?_) (fun g => ?_)
  · -- the outermost deed
    have e2 : dd0 = [] := List.length_eq_zero_iff.mp (by omega)
    subst e2
    have e3 : ds0 = [] := by cases h11; rfl
    subst e3
    obtain ⟨j1, j2, j3⟩ := k1 es eS d ea
    rw [hcost] at j1 j2 j3
    have fin : ∀ (al : Option Int) (H2 : Hp), Gd c H2 A { S with al := al } → Out [A.g, A.o] H H2 → (∀ H', Gd c H' { A with dd := [] } { S with al := al, ch := S.ch + (cost : Nat), ds := [] } → Out [A.g, A.o] H H' → Q (.int (cost : Nat)) H') →
        tSeq (sFld K (tVar 0) (tOp oAdd (tFld K (tVar 0) "charged") (tVar 2)) "charged") (tSeq (tDrop (tBM0 K "list" rPop (tFld K (tVar 0) "open_deeds"))) (tRet (tVar 2))) { nx := fun _ H' => Q .non H', rt := Q } [some (.ref A.g), some (.ref d), some (.int (cost : Nat)), none, none, none] H2 := fun al H2 G2 O2 kf => by
      fold_depth
      refine i_gfld R G2.ob (by simp) lkf_charged ?_
      fold_lay
      refine i_sfld R G2 (by simp) ?_
      rw [put_ch]
      have G3 := G2.setF (al := al) (ch := S.ch + (cost : Nat))
      have O3 : Out [A.g, A.o] H (upd H2 A.g (.ins c.k_Ground A.dx (flds A { S with al := al, ch := S.ch + (cost : Nat) }))) := O2.trans (out_upd (by simp))
      generalize upd H2 A.g (.ins c.k_Ground A.dx (flds A { S with al := al, ch := S.ch + (cost : Nat) })) = H3 at *
      fold_lay
      refine i_gfld R G3.ob (by simp) lkf_open_deeds ?_
      have ho3 := G3.ol
      rw [ea, List.map_append] at ho3
      refine i_popL (y := .ref d) ho3 ?_
      fold_lay
      obtain ⟨dd9, d9, kv9, ea9, h9, _, _, _, q9⟩ := G3.top (ds0 := []) (es := es) eS
      obtain ⟨rfl, _⟩ := List.append_inj' (ea9.symm.trans ea) rfl
      exact kf _ (G3.pop (ds0 := []) (es := es) eS ea h9 q9) (O3.trans (out_upd (by simp)))
    have hna : ∀ z, odV S.al = z → z = odV S.al := fun z e => e.symm
    fold_depth
    refine i_gfld R G1.ob (by simp) lkf_allowance ?_
    fold_lay
    cases hal : S.al with
    | none =>
      refine i_ifn (fun z => absurd rfl z) (fun _ => ?_)
      fold_lay
      exact fin S.al H1 G1 (O1 _) (j1 hal)
    | some a =>
      refine i_ifn (fun _ => ?_) (fun z => by cases z)
      fold_lay; fold_depth
      refine i_gfld R G1.ob (by simp) lkf_allowance ?_
      rw [hal]
      show tVar 2 _ _ _
      fold_lay
      refine ⟨a, (cost : Nat), rfl, rfl, ?_⟩
      fold_lay
      refine i_ifd (fun hlt => ?_) (fun hlt => ?_)
      · fold_lay
        refine i_meth G1 lkm_cancel ?_
        fold_lay
        refine ⟨A, S, rfl, G1, R, EU, fun z => absurd (eS.symm.trans z) (by simp), fun ds' es' e' => ?_⟩
        obtain ⟨rfl, e4⟩ := List.append_inj' (eS.symm.trans e') rfl
        obtain rfl : es = es' := by simpa using e4
        refine ⟨ezs, fun dd' d' H2 ea' G2 O2 => ?_⟩
        obtain ⟨rfl, _⟩ := List.append_inj' (ea.symm.trans ea') rfl
        refine i_rzE ?_
        fold_lay
        refine i_gfld R G2.ob (by simp) lkf_allowance ?_
        show tNil _ _ _
        rw [show odV S.al = .int a by rw [hal]; rfl]
        fold_lay
        exact c_mkE (nm := "Cut") (fs := [("left", .int a), ("needed", .int (cost : Nat))]) (vs := [.int (cost : Nat), .int a]) (by simp) (fun a' H Q he hq => ⟨a', _, _, rfl, he, EC, hq⟩) fun e H' hE hS _ => j3 a hal hlt e H' hE (G2.mono hS) (((O1 _).trans O2).trans (Same.out hS))
      · fold_lay
        refine i_gfld R G1.ob (by simp) lkf_allowance ?_
        rw [hal]
        show tVar 2 _ _ _
        fold_lay
        refine ⟨a, (cost : Nat), rfl, rfl, ?_⟩
        fold_lay
        refine i_sfld R G1 (by simp) ?_
        rw [put_al]
        exact fin (some (a - (cost : Nat))) _ (G1.setF (al := some (a - (cost : Nat))) (ch := S.ch)) ((O1 _).trans (out_upd (by simp))) (j2 a hal (by omega))
  · -- a deed inside another one
    rcases snoc_of ds0 with e0 | ⟨ds1, es1, e5⟩
    · subst e0
      cases h11
      exact absurd rfl g
    subst e5
    fold_lay
    refine i_gfld R G1.ob (by simp) lkf_open_deeds ?_
    refine i_popL (y := .ref d) hol1 ?_
    have G2 := G1.pop eS ea h11 q1
    obtain ⟨x1, x2, x3, x4⟩ := G1.dw
    have din : d ∈ A.dd := by rw [ea]; simp
    have m1 : d ≠ A.g := fun z => x4 (z ▸ din)
    have m2 : d ≠ A.w := fun z => x1 (z ▸ din)
    have m3 : d ≠ A.h := fun z => x2 (z ▸ din)
    have m4 : d ≠ A.o := fun z => x3 (z ▸ din)
    have hd2 : upd H1 A.o (.lst (dd0.map V.ref)) d = some (.dK kvs) := upd_off m4 hd1
    have he2 : Ent (upd H1 A.o (.lst (dd0.map V.ref))) kvs es := he1.upd (not_tup G1.ol (fun xs z => by cases z))
    have O2 : ∀ d1, Out [A.o, d1] H (upd H1 A.o (.lst (dd0.map V.ref))) := fun d1 => (O1 _).trans (out_upd (by simp))
    generalize upd H1 A.o (.lst (dd0.map V.ref)) = H2 at *
    obtain ⟨dd1, d1, kv1, ea1, h12, hd12, he12, nd1, q11⟩ := G2.top (ds0 := ds1) (es := es1) rfl
    have ea1 : dd0 = dd1 ++ [d1] := ea1
    subst ea1
    have nd12 : d ≠ d1 := fun z => nd0 (by rw [z]; simp)
    have ol2 := G2.ol
    have ol2 : H2 A.o = some (.lst (dd1.map V.ref ++ [.ref d1])) := by
      have e : (({ A with dd := dd1 ++ [d1] } : GA).dd.map V.ref) = dd1.map V.ref ++ [.ref d1] := by simp
      rw [← e]
      exact ol2
    fold_lay
    refine i_gfld R G2.ob (by simp) lkf_open_deeds ?_
    fold_lay
    refine i_ixL (sqL ol2) (v := .ref d1) ix_last ?_
    fold_lay
    refine i_seq ?_
    refine ⟨d, .dK kvs, hd2, trivial, fun od => ?_⟩
    have nt := not_tup hd2 (fun xs z => by cases z)
    have G3 : Gd c (upd H2 d (.frz od (.dK kvs))) { A with dd := dd1 ++ [d1] } { S with ds := ds1 ++ [es1] } := G2.off m1 m2 m3 m4 nd0 nt
    have he3 : Ent (upd H2 d (.frz od (.dK kvs))) kvs es := he2.upd nt
    have hd3 : upd H2 d (.frz od (.dK kvs)) d = some (.frz od (.dK kvs)) := upd_same
    have back : ∀ H', Out [A.o, d1] (upd H2 d (.frz od (.dK kvs))) H' → Out [A.o, d1] H2 (upd H' d (.dK kvs)) := fun H' s b u n e => by
      by_cases hb : b = d
      · subst hb
        rw [hd2] at e
        rw [upd_same]
        exact e
      · exact upd_off hb (s _ _ n (upd_off hb e))
    generalize upd H2 d (.frz od (.dK kvs)) = H3 at *
    have es1z := ez es1 (by rw [eS]; simp)
    have ok1 := G.ok es1 (by rw [eS]; simp)
    fold_lay
    refine ⟨d, od, kvs, rfl, hd3, ?_⟩
    refine l_items (fun i σ' H' => H' d = some (.frz od (.dK kvs)) ∧ Gd c H' { A with dd := dd1 ++ [d1] } { S with ds := ds1 ++ [merge es1 (es.take i)] } ∧ Out [A.o, d1] H3 H' ∧ Ent H' kvs es ∧ ∃ y1 y2, σ' = [some (.ref A.g), some (.ref d), some (.int (cost : Nat)), some (.ref d1), y1, y2]) ⟨hd3, G3, Out.refl _ _, he3, none, none, rfl⟩ (fun i σ' H' _ h => h.1) ?_ ?_
    · rintro i kk v σ' H4 T hx ⟨hd4, G4, O4, he4, y1, y2, rfl⟩ hT
      obtain ⟨p, w, gg, t, e1, rfl, rfl, ht⟩ := he4.get hx
      have s5 := same_new (o := .tup [.int p, .ref t]) hT
      show gTup K 2 _ (.ref T) _ (upd H4 T (.tup [.int p, .ref t])) _
      have hT5 : upd H4 T (.tup [.int p, .ref t]) T = some (.tup [.int p, .ref t]) := upd_same
      have ht5 := s5 _ _ ht
      have hd5 := s5 _ _ hd4
      have G5 := G4.mono s5
      have O5 : Out [A.o, d1] H3 (upd H4 T (.tup [.int p, .ref t])) := O4.trans (Same.out s5)
      have he5 := he4.mono s5
      generalize upd H4 T (.tup [.int p, .ref t]) = H5 at *
      obtain ⟨dd5, d5, kv5, ea5, h15, hd15, he15, _, _⟩ := G5.top (ds0 := ds1) (es := merge es1 (es.take i)) rfl
      have ea5 : dd1 ++ [d1] = dd5 ++ [d5] := ea5
      obtain ⟨rfl, e9⟩ := List.append_inj' ea5 rfl
      obtain rfl : d1 = d5 := by simpa using e9
      have mm := merge_more (o := es1) e1
      have ml := merge_len (o := es1) (es := es.take i)
      have mo := merge_ok (n := (S.ws.length : Int)) (o := es1) (es := es.take i) ok1.1 ok1.2 (fun x m => hok x (List.mem_of_mem_take m))
      fold_lay
      refine ⟨d1, _, rfl, DGet.k (k := Sum.inl p) hd15, ?_⟩
      fold_lay
      rw [he15.val]
      refine i_ifn (fun q => ?_) (fun q => ?_)
      · fold_lay
        refine ⟨d1, _, rfl, DPut.k (k := Sum.inl p) hd15 (szl (by rw [he15.length]; rw [List.length_take] at ml; omega)), ?_⟩
        rw [putK_fresh (he15.fresh q)]
        refine ⟨upd_off nd12 hd5, ?_, O5.trans (out_upd (by simp)), he5.upd (not_tup hd15 (fun xs z => by cases z)), _, _, rfl⟩
        rw [mm, if_neg q]
        obtain ⟨p0, p1⟩ := hok _ (List.mem_of_getElem? e1)
        refine G5.setD (dd0 := dd1) rfl rfl hd15 h15 (he15.snoc ht5) ⟨?_, fun x m => ?_⟩
        · rw [List.map_append]
          exact nodup_snoc mo.1 q
        · rcases List.mem_append.mp m with m | m
          · exact mo.2 x m
          · rw [List.mem_singleton.mp m]
            exact ⟨p0, p1⟩
      · fold_lay
        refine ⟨hd5, ?_, O5, he5, _, _, rfl⟩
        rw [mm, if_pos q]
        exact G5
    · rintro σ' H4 ⟨hd4, G4, O4, he4, y1, y2, rfl⟩
      rw [he1.length, List.take_length] at G4
      refine ⟨hd4, ?_⟩
      fold_lay
      have := k2 ds1 es1 es eS dd1 d1 d ea
      rw [hcost] at this
      exact this _ (G4.off m1 m2 m3 m4 nd0 (not_tup hd4 (fun xs z => by cases z))) ((O2 d1).trans (back H4 O4))
/-! ## Ground6 -/
/-! ### the ground: its checks, what it tells, how it is made -/
def sp_check_place (K : PySem.W.Frag) (c : Cl) : Sp := fun vs H Q E => ∃ (A : GA) (S : GS) (v : V) (n : String), vs = [.ref A.g, v] ∧ Gd c H A S ∧ GdK K c ∧ Ty0 H v n ∧ BvC K c.k_BadValue ∧
  (vR 0 ((S.ws.length : Int) - 1) v = true → Q .non H) ∧ (vR 0 ((S.ws.length : Int) - 1) v = false → ∀ d H', BadAt H' d (.str "place") → Same H H' → E (.ref c.k_BadValue) (some d) H')
theorem c_check_place {K : PySem.W.Frag} {c : Cl} {A : GA} {S : GS} {v : V} {n : String} {H : Hp} {Q : VK} {E : XK} (G : Gd c H A S) (R : GdK K c) (h : Ty0 H v n) (hC : BvC K c.k_BadValue) (h1 : vR 0 ((S.ws.length : Int) - 1) v = true → Q .non H) (h2 : vR 0 ((S.ws.length : Int) - 1) v = false → ∀ d H', BadAt H' d (.str "place") → Same H H' → E (.ref c.k_BadValue) (some d) H') : sp_check_place K c [.ref A.g, v] H Q E := ⟨A, S, v, n, rfl, G, R, h, hC, h1, h2⟩
def N_c_Ground_check_place : List Str := ["self", "place"]
def t_c_Ground_check_place (K : PySem.W.Frag) (c : Cl) (E : XK) : TS := (tIfS (tNot (tB (tCall (sp_whole_between K) [] E0 (tCons (tVar 1) (tCons (tC (.int 0)) (tCons (tOp oSub (tCB (rLen K) (tCons (tFld K (tVar 0) "cell_words") tNil)) (tC (.int 1))) tNil)))))) (tRz (tMkO c.k_BadValue (sp_init_BadValue K c.k_BadValue) [] (tCons (tC (.str "place")) tNil)) (fun cls d _ H => E cls d H)) tNext)
theorem pure_check_place {K : PySem.W.Frag} {c : Cl} {vs : List V} {H : Hp} {Q : VK} {E : XK} (h : sp_check_place K c vs H Q E) : t_c_Ground_check_place K c E { nx := fun _ H' => Q .non H', rt := Q } (start N_c_Ground_check_place vs) H := by
  obtain ⟨A, S, v, n, rfl, G, R, ht, hC, k1, k2⟩ := h
  have wl := G.wl
  unfold t_c_Ground_check_place
  fold_lay
  refine i_gfld R G.ob (by simp) lkf_cell_words ?_
  fold_lay
  rw [List.length_map]
  refine c_whole_between ht ?_
  fold_lay
  refine i_ifb (fun g => ?_) (fun g => ?_)
  · have g : vR 0 ((S.ws.length : Int) - 1) v = false := by simpa using g
    fold_lay
    exact c_bad hC (k2 g)
  · have g : vR 0 ((S.ws.length : Int) - 1) v = true := by simpa using g
    fold_lay
    exact k1 g
abbrev nhA (H : Hp) (d : Addr) (p f : Int) : Prop := ErAt H d "NotHeld" [("found", .int f), ("place", .int p)] [.int p, .int f]
def sp_check_guard (K : PySem.W.Frag) (c : Cl) : Sp := fun vs H Q E => ∃ (A : GA) (S : GS) (p h : Int), vs = [.ref A.g, .int p, .int h] ∧ Gd c H A S ∧ GdK K c ∧ ErC K c.k_NotHeld ["told", "place", "found"] ∧ 0 ≤ p ∧ p < S.ws.length ∧
  (S.hs.getD p.toNat 0 = h → Q .non H) ∧ (S.hs.getD p.toNat 0 ≠ h → ∀ d H', nhA H' d p (S.hs.getD p.toNat 0) → Same H H' → E (.ref c.k_NotHeld) (some d) H')
theorem c_check_guard {K : PySem.W.Frag} {c : Cl} {A : GA} {S : GS} {p h : Int} {H : Hp} {Q : VK} {E : XK} (G : Gd c H A S) (R : GdK K c) (EN : ErC K c.k_NotHeld ["told", "place", "found"]) (p0 : 0 ≤ p) (p1 : p < S.ws.length) (h1 : S.hs.getD p.toNat 0 = h → Q .non H) (h2 : S.hs.getD p.toNat 0 ≠ h → ∀ d H', nhA H' d p (S.hs.getD p.toNat 0) → Same H H' → E (.ref c.k_NotHeld) (some d) H') : sp_check_guard K c [.ref A.g, .int p, .int h] H Q E := ⟨A, S, p, h, rfl, G, R, EN, p0, p1, h1, h2⟩
def N_c_Ground_check_guard : List Str := ["self", "place", "holder", "found"]
def t_c_Ground_check_guard (K : PySem.W.Frag) (c : Cl) (E : XK) : TS := (tSeq (tAsg (tOp (rIxL K) (tFld K (tVar 0) "cell_holders") (tVar 1)) (gName 3))
  (tIfS (tTest (tOp rNe (tVar 3) (tVar 2))) (tRz (tMkO c.k_NotHeld (sp_init_NotHeld K c.k_NotHeld) [] (tCons (tVar 1) (tCons (tVar 3) tNil))) (fun cls d _ H => E cls d H)) tNext))
theorem pure_check_guard {K : PySem.W.Frag} {c : Cl} {vs : List V} {H : Hp} {Q : VK} {E : XK} (h : sp_check_guard K c vs H Q E) : t_c_Ground_check_guard K c E { nx := fun _ H' => Q .non H', rt := Q } (start N_c_Ground_check_guard vs) H := by
  obtain ⟨A, S, p, hh, rfl, G, R, EN, p0, p1, k1, k2⟩ := h
  have p2 : p < S.hs.length := by rw [← G.le]; exact p1
  unfold t_c_Ground_check_guard
  fold_lay
  refine i_gfld R G.ob (by simp) lkf_cell_holders ?_
  fold_lay
  refine i_ixL (sqL G.hl) (at_ints p0 p2) ?_
  fold_lay
  refine i_ifn (fun g => ?_) (fun g => ?_)
  · refine i_rzE ?_
    fold_lay
    exact c_mkE (nm := "NotHeld") (fs := [("found", .int (S.hs.getD p.toNat 0)), ("place", .int p)]) (vs := [.int p, .int (S.hs.getD p.toNat 0)]) (by simp) (fun a' H Q he hq => ⟨a', _, _, rfl, he, EN, hq⟩) fun d H' hE hS _ => k2 g d H' hE hS
  · fold_lay
    exact k1 g
/-- the first place from s on, of n, that f tells -/
def firstP (f : Int → Bool) (s : Int) (n : Nat) : Option Int := ((List.range n).find? fun i : Nat => f (s + (i : Int))).map fun i : Nat => s + (i : Int)
theorem firstP_some {f : Int → Bool} {s : Int} {n i : Nat} (hi : i < n) (h1 : f (s + (i : Int)) = true) (h0 : ∀ j : Nat, j < i → f (s + (j : Int)) = false) : firstP f s n = some (s + (i : Int)) := by
  unfold firstP
  have e : (List.range n).find? (fun i : Nat => f (s + (i : Int))) = some i := by
    rw [List.find?_range_eq_some]
    exact ⟨h1, List.mem_range.mpr hi, fun j hj => by simp [h0 j hj]⟩
  rw [e]
  rfl
theorem firstP_none {f : Int → Bool} {s : Int} {n : Nat} (h0 : ∀ j : Nat, j < n → f (s + (j : Int)) = false) : firstP f s n = none := by
  unfold firstP
  have e : (List.range n).find? (fun i : Nat => f (s + (i : Int))) = none := by
    rw [List.find?_eq_none]
    intro j hj
    simp [h0 j (List.mem_range.mp hj)]
  rw [e]
  rfl
def brk (S : GS) (p : Int) : Bool := decide (S.hs.getD p.toNat 0 = 0 ∧ S.ws.getD p.toNat 0 ≠ S.fl)
abbrev brA (H : Hp) (d : Addr) (p f u : Int) : Prop := ErAt H d "Broken" [("due", .int u), ("found", .int f), ("place", .int p)] [.int p, .int f, .int u]
def sp_check_fill (K : PySem.W.Frag) (c : Cl) : Sp := fun vs H Q E => ∃ (A : GA) (S : GS) (s : Int) (n : Nat), vs = [.ref A.g, .int s, .int n] ∧ Gd c H A S ∧ GdK K c ∧ ErC K c.k_Broken ["told", "place", "found", "due"] ∧ 0 ≤ s ∧ s + (n : Int) ≤ S.ws.length ∧
  (firstP (brk S) s n = none → Q .non H) ∧ (∀ p, firstP (brk S) s n = some p → ∀ d H', brA H' d p (S.ws.getD p.toNat 0) S.fl → Same H H' → E (.ref c.k_Broken) (some d) H')
def N_c_Ground_check_fill : List Str := ["self", "start", "size", "place", "found"]
def t_c_Ground_check_fill (K : PySem.W.Frag) (c : Cl) (E : XK) : TS := (tFor (iRng2 (tCons (tVar 1) (tCons (tOp oAdd (tVar 1) (tVar 2)) tNil))) (gName 3) (tSeq (tAsg (tOp (rIxL K) (tFld K (tVar 0) "cell_words") (tVar 3)) (gName 4))
  (tIfS (tAnd (tTest (tOp rEq (tOp (rIxL K) (tFld K (tVar 0) "cell_holders") (tVar 3)) (tC (.int 0)))) (tTest (tOp rNe (tVar 4) (tFld K (tVar 0) "fill")))) (tRz (tMkO c.k_Broken (sp_init_Broken K c.k_Broken) [] (tCons (tVar 3) (tCons (tVar 4) (tCons (tFld K (tVar 0) "fill") tNil)))) (fun cls d _ H => E cls d H)) tNext)))
theorem pure_check_fill {K : PySem.W.Frag} {c : Cl} {vs : List V} {H : Hp} {Q : VK} {E : XK} (h : sp_check_fill K c vs H Q E) : t_c_Ground_check_fill K c E { nx := fun _ H' => Q .non H', rt := Q } (start N_c_Ground_check_fill vs) H := by
  obtain ⟨A, S, s, n, rfl, G, R, EB, s0, s1, k1, k2⟩ := h
  have sz := G.sz
  have wl := G.wl
  have hl := G.hl
  unfold t_c_Ground_check_fill
  fold_lay
  refine f_rng2 (by omega) (by omega) (by omega) (by omega) ?_
  rw [show (s + (n : Int) - s).toNat = n by omega]
  refine l_rng (fun i σ' H' => H' = H ∧ (∀ j : Nat, j < i → brk S (s + (j : Int)) = false) ∧ ∃ y1 y2, σ' = [some (.ref A.g), some (.int s), some (.int n), y1, y2]) ⟨rfl, fun j hj => by omega, _, _, rfl⟩ ?_ ?_
  · rintro i σ' H' hi ⟨rfl, hlow, y1, y2, rfl⟩
    have p0 : 0 ≤ s + (i : Int) := by omega
    have p1 : s + (i : Int) < S.ws.length := by omega
    have p2 : s + (i : Int) < S.hs.length := by rw [← G.le]; exact p1
    have next : brk S (s + (i : Int)) = false → ∀ j : Nat, j < i + 1 → brk S (s + (j : Int)) = false := fun hb j hj => by
      rcases Nat.lt_or_ge j i with q | q
      · exact hlow j q
      · have : j = i := by omega
        subst this
        exact hb
    fold_lay
    refine i_gfld R G.ob (by simp) lkf_cell_words ?_
    fold_lay
    refine i_ixL (sqL wl) (at_ints p0 p1) ?_
    fold_lay
    refine i_gfld R G.ob (by simp) lkf_cell_holders ?_
    fold_lay
    refine i_ixL (sqL hl) (at_ints p0 p2) ?_
    fold_lay
    refine i_ifd (fun g => ?_) (fun g => ?_)
    · fold_lay
      refine i_gfld R G.ob (by simp) lkf_fill ?_
      fold_lay
      refine i_ifn (fun g2 => ?_) (fun g2 => ?_)
      · refine i_rzE ?_
        fold_lay
        refine i_gfld R G.ob (by simp) lkf_fill ?_
        fold_lay
        exact c_mkE (nm := "Broken") (fs := [("due", .int S.fl), ("found", .int (S.ws.getD (s + (i : Int)).toNat 0)), ("place", .int (s + (i : Int)))]) (vs := [.int (s + (i : Int)), .int (S.ws.getD (s + (i : Int)).toNat 0), .int S.fl]) (by simp) (fun a' H Q he hq => ⟨a', _, _, _, rfl, he, EB, hq⟩) fun d H' hE hS _ => k2 _ (firstP_some hi (decide_eq_true ⟨g, g2⟩) hlow) d H' hE hS
      · fold_lay
        exact ⟨rfl, next (decide_eq_false fun z => z.2 g2), _, _, rfl⟩
    · fold_lay
      exact ⟨rfl, next (decide_eq_false fun z => g z.1), _, _, rfl⟩
  · rintro σ' H' ⟨rfl, hlow, y1, y2, rfl⟩
    exact k1 (firstP_none hlow)
/-! what it tells -/
def sp_depth (K : PySem.W.Frag) (c : Cl) : Sp := fun vs H Q _ => ∃ (A : GA) (S : GS), vs = [.ref A.g] ∧ Gd c H A S ∧ GdK K c ∧ Q (.int (S.ds.length : Nat)) H
def N_c_Ground_depth : List Str := ["self"]
def t_c_Ground_depth (K : PySem.W.Frag) : TS := (tRet (tCB (rLen K) (tCons (tFld K (tVar 0) "open_deeds") tNil)))
theorem pure_depth {K : PySem.W.Frag} {c : Cl} {vs : List V} {H : Hp} {Q : VK} {E : XK} (h : sp_depth K c vs H Q E) : t_c_Ground_depth K { nx := fun _ H' => Q .non H', rt := Q } (start N_c_Ground_depth vs) H := by
  obtain ⟨A, S, rfl, G, R, k⟩ := h
  have ol := G.ol
  unfold t_c_Ground_depth
  fold_lay
  refine i_gfld R G.ob (by simp) lkf_open_deeds ?_
  fold_lay
  rw [List.length_map, G.dl.length]
  exact k
def sp_spent (K : PySem.W.Frag) (c : Cl) : Sp := fun vs H Q _ => ∃ (A : GA) (S : GS), vs = [.ref A.g] ∧ Gd c H A S ∧ GdK K c ∧ Q (.int S.ch) H
def N_c_Ground_spent : List Str := ["self"]
def t_c_Ground_spent (K : PySem.W.Frag) : TS := (tRet (tFld K (tVar 0) "charged"))
theorem pure_spent {K : PySem.W.Frag} {c : Cl} {vs : List V} {H : Hp} {Q : VK} {E : XK} (h : sp_spent K c vs H Q E) : t_c_Ground_spent K { nx := fun _ H' => Q .non H', rt := Q } (start N_c_Ground_spent vs) H := by
  obtain ⟨A, S, rfl, G, R, k⟩ := h
  unfold t_c_Ground_spent
  fold_lay
  exact i_gfld R G.ob (by simp) lkf_charged k
def sp_budget (K : PySem.W.Frag) (c : Cl) : Sp := fun vs H Q _ => ∃ (A : GA) (S : GS), vs = [.ref A.g] ∧ Gd c H A S ∧ GdK K c ∧ Q (odV S.al) H
def N_c_Ground_budget : List Str := ["self"]
def t_c_Ground_budget (K : PySem.W.Frag) : TS := (tRet (tFld K (tVar 0) "allowance"))
theorem pure_budget {K : PySem.W.Frag} {c : Cl} {vs : List V} {H : Hp} {Q : VK} {E : XK} (h : sp_budget K c vs H Q E) : t_c_Ground_budget K { nx := fun _ H' => Q .non H', rt := Q } (start N_c_Ground_budget vs) H := by
  obtain ⟨A, S, rfl, G, R, k⟩ := h
  unfold t_c_Ground_budget
  fold_lay
  exact i_gfld R G.ob (by simp) lkf_allowance k
def imgD (S : GS) : Dt := .tup [.int S.wd, .int S.fl, .tup (S.ws.map Dt.int), .tup (S.hs.map Dt.int)]
theorem Ats_is {H : Hp} : ∀ l : List Int, Ats H (l.map V.int) (l.map Dt.int)
  | [] => .nil
  | b :: r => .cons (.int b) (Ats_is r)
def sp_image (K : PySem.W.Frag) (c : Cl) : Sp := fun vs H Q _ => ∃ (A : GA) (S : GS), vs = [.ref A.g] ∧ Gd c H A S ∧ GdK K c ∧ ∀ v H', At (nw H H') v (imgD S) → Same H H' → Q v H'
def N_c_Ground_image : List Str := ["self"]
def t_c_Ground_image (K : PySem.W.Frag) : TS := (tRet (tTup (tCons (tFld K (tVar 0) "width") (tCons (tFld K (tVar 0) "fill") (tCons (tCB (rTupleOf K) (tCons (tFld K (tVar 0) "cell_words") tNil)) (tCons (tCB (rTupleOf K) (tCons (tFld K (tVar 0) "cell_holders") tNil)) tNil))))))
theorem pure_image {K : PySem.W.Frag} {c : Cl} {vs : List V} {H : Hp} {Q : VK} {E : XK} (h : sp_image K c vs H Q E) : t_c_Ground_image K { nx := fun _ H' => Q .non H', rt := Q } (start N_c_Ground_image vs) H := by
  obtain ⟨A, S, rfl, G, R, k⟩ := h
  unfold t_c_Ground_image
  fold_lay
  refine i_gfld R G.ob (by simp) lkf_width ?_
  fold_lay
  refine i_gfld R G.ob (by simp) lkf_fill ?_
  fold_lay
  refine i_gfld R G.ob (by simp) lkf_cell_words ?_
  fold_lay
  refine ⟨A.w, _, rfl, .inl ⟨sqL G.wl, fun p hp => ?_⟩⟩
  have G1 := G.mono (same_new (o := .tup (S.ws.map V.int)) hp)
  fold_lay
  refine i_gfld R G1.ob (by simp) lkf_cell_holders ?_
  fold_lay
  refine ⟨A.h, _, rfl, .inl ⟨sqL G1.hl, fun q hq => ?_⟩⟩
  fold_lay
  rename_i r hr
  exact k _ _ (.tup (nw_to (by nest_room) upd_same) (.cons (.int _) (.cons (.int _) (.cons (.tup (nw_to hp (by kct_strs)) (Ats_is _)) (.cons (.tup (nw_to (by nest_room) (by kct_strs)) (Ats_is _)) .nil))))) (by mem_news)
/-! ## Ground7 -/
/-! ### the ground: how it is made -/
def badG (v1 v2 v3 v4 : V) : Option Str := if vR 1 256 v1 = false then some "pages" else if vWd v2 = false then some "width" else if vR 0 65535 v3 = false then some "fill" else if vB v4 = false then some "budget" else none
def oI : V → Option Int
  | .int i => some i
  | _ => none
def vi : V → Int
  | .int i => i
  | _ => 0
def newG (v1 v2 v3 v4 : V) : GS := { pg := vi v1, wd := vi v2, fl := vi v3, al := oI v4, ch := 0, ws := List.replicate (vi v1 * vi v2).toNat (vi v3), hs := List.replicate (vi v1 * vi v2).toNat 0, ds := [] }
def sp_ground_init (K : PySem.W.Frag) (c : Cl) : Sp := fun vs H Q E => ∃ (x dx : Addr) (v1 v2 v3 v4 : V) (n1 n2 n3 n4 : String), vs = [.ref x, v1, v2, v3, v4] ∧ H x = some (.ins c.k_Ground dx []) ∧ Ty0 H v1 n1 ∧ Ty0 H v2 n2 ∧ Ty0 H v3 n3 ∧ Ty0 H v4 n4 ∧ GdK K c ∧ BvC K c.k_BadValue ∧ KTup K c.x_WIDTHS [16, 32, 64] ∧
  (∀ t, badG v1 v2 v3 v4 = some t → ∀ d H', BadAt H' d (.str t) → Same H H' → E (.ref c.k_BadValue) (some d) H') ∧
  (badG v1 v2 v3 v4 = none → ∀ w h o H', Gd c H' ⟨x, dx, w, h, o, []⟩ (newG v1 v2 v3 v4) → H w = none → H h = none → H o = none → Out [x] H H' → Q .non H')
theorem vR_i {v : V} {lo hi : Int} (h : vR lo hi v = true) : ∃ i, v = .int i ∧ lo ≤ i ∧ i ≤ hi := by
  cases v <;> first | exact ⟨_, rfl, by simpa [vR] using h⟩ | cases h
theorem vWd_i {v : V} (h : vWd v = true) : ∃ i, v = .int i ∧ (i = 16 ∨ i = 32 ∨ i = 64) := by
  cases v <;> first | exact ⟨_, rfl, by simpa [vWd] using h⟩ | cases h
theorem vB_o {v : V} (h : vB v = true) : v = odV (oI v) := by
  unfold vB at h
  cases v <;> first | rfl | (simp [vR] at h)
theorem i_put1 {K : PySem.W.Frag} {c : Cl} {H : Hp} {x dx : Addr} {fs : List (Str × V)} {f : Str} {y : V} {P : Hp → Prop} (R : GdK K c) (h : H x = some (.ins c.k_Ground dx fs)) (hf : f ∈ (["pages", "width", "fill", "allowance", "charged", "cell_words", "cell_holders", "open_deeds"] : List Str)) (hl : fs.length < 1000) (hn : putF f y fs = fs ++ [(f, y)]) (q : P (upd H x (.ins c.k_Ground dx (fs ++ [(f, y)])))) :
    ∃ a C dx' fs', V.ref x = .ref a ∧ H a = some (.ins C dx' fs') ∧ Cls K C ∧ NoAttr K C f ∧ fs'.length < 1000 ∧ P (upd H a (.ins C dx' (putF f y fs'))) := ⟨x, c.k_Ground, dx, fs, rfl, h, R.cl, R.na f hf, hl, by rw [hn]; exact q⟩
theorem putF_new {f : Str} {y : V} : ∀ {fs : List (Str × V)}, (∀ g ∈ fs, g.1 ≠ f) → putF f y fs = fs ++ [(f, y)]
  | [], _ => rfl
  | (g, v) :: r, h => by
    have : g ≠ f := h (g, v) List.mem_cons_self
    simp only [putF]
    rw [if_neg this, putF_new fun q m => h q (List.mem_cons_of_mem _ m)]
    rfl
theorem i_rep {H : Hp} {Q : VK} {l : Addr} {v : V} {n : Int} (h : H l = some (.lst [v])) (h0 : 0 ≤ n) (hn : n ≤ 100000) (q : ∀ p, H p = none → Q (.ref p) (upd H p (.lst (List.replicate n.toNat v)))) : rRep (.ref l) (.int n) H Q := by
  have e : (List.replicate n.toNat [v]).flatten = List.replicate n.toNat v := by
    generalize n.toNat = m
    induction m with
    | zero => rfl
    | succ m ih => rw [List.replicate_succ, List.flatten_cons, ih]; rfl
  refine ⟨l, n, [v], rfl, rfl, h, by omega, by omega, sz (by simp; omega), fun p hp => ?_⟩
  rw [e]
  exact q p hp
def N_c_Ground_init : List Str := ["self", "pages", "width", "fill", "budget"]
def t_c_Ground_init (K : PySem.W.Frag) (c : Cl) (E : XK) : TS := (tSeq (tIfS (tNot (tB (tCall (sp_whole_between K) [] E0 (tCons (tVar 1) (tCons (tC (.int 1)) (tCons (tC (.int 256)) tNil)))))) (tRz (tMkO c.k_BadValue (sp_init_BadValue K c.k_BadValue) [] (tCons (tC (.str "pages")) tNil)) (fun cls d _ H => E cls d H)) tNext)
  (tSeq (tIfS (tNot (tB (tCall (sp_is_width K c) [] E0 (tCons (tVar 2) tNil)))) (tRz (tMkO c.k_BadValue (sp_init_BadValue K c.k_BadValue) [] (tCons (tC (.str "width")) tNil)) (fun cls d _ H => E cls d H)) tNext)
  (tSeq (tIfS (tNot (tB (tCall (sp_whole_between K) [] E0 (tCons (tVar 3) (tCons (tC (.int 0)) (tCons (tC (.int 65535)) tNil)))))) (tRz (tMkO c.k_BadValue (sp_init_BadValue K c.k_BadValue) [] (tCons (tC (.str "fill")) tNil)) (fun cls d _ H => E cls d H)) tNext)
  (tSeq (tIfS (tNot (tB (tCall (sp_is_budget K) [] E0 (tCons (tVar 4) tNil)))) (tRz (tMkO c.k_BadValue (sp_init_BadValue K c.k_BadValue) [] (tCons (tC (.str "budget")) tNil)) (fun cls d _ H => E cls d H)) tNext)
  (tSeq (sFld K (tVar 0) (tVar 1) "pages")
  (tSeq (sFld K (tVar 0) (tVar 2) "width")
  (tSeq (sFld K (tVar 0) (tVar 3) "fill")
  (tSeq (sFld K (tVar 0) (tVar 4) "allowance")
  (tSeq (sFld K (tVar 0) (tC (.int 0)) "charged")
  (tSeq (sFld K (tVar 0) (tOp rRep (tLst (tCons (tVar 3) tNil)) (tOp oMul (tVar 1) (tVar 2))) "cell_words")
  (tSeq (sFld K (tVar 0) (tOp rRep (tLst (tCons (tC (.int 0)) tNil)) (tOp oMul (tVar 1) (tVar 2))) "cell_holders")
  (sFld K (tVar 0) (tLst tNil) "open_deeds"))))))))))))
theorem rep_map {n : Nat} {i : Int} : List.replicate n (V.int i) = (List.replicate n i).map V.int := by
  rw [List.map_replicate]
theorem pure_ground_init {K : PySem.W.Frag} {c : Cl} {vs : List V} {H : Hp} {Q : VK} {E : XK} (h : sp_ground_init K c vs H Q E) : t_c_Ground_init K c E { nx := fun _ H' => Q .non H', rt := Q } (start N_c_Ground_init vs) H := by
  obtain ⟨x, dx, v1, v2, v3, v4, n1, n2, n3, n4, rfl, hx, t1, t2, t3, t4, R, hC, hT, kE, kQ⟩ := h
  unfold t_c_Ground_init
  fold_depth
  refine c_whole_between t1 ?_
  fold_lay
  refine i_ifb (fun g => ?_) (fun g => ?_)
  · have g : vR 1 256 v1 = false := by simpa using g
    fold_lay
    exact c_bad hC (kE _ (by simp [badG, g]))
  have g1 : vR 1 256 v1 = true := by simpa using g
  fold_lay; fold_depth
  refine ⟨v2, n2, rfl, t2, hT, ?_⟩
  fold_lay
  refine i_ifb (fun g => ?_) (fun g => ?_)
  · have g : vWd v2 = false := by simpa using g
    fold_lay
    exact c_bad hC (kE _ (by simp [badG, g, g1]))
  have g2 : vWd v2 = true := by simpa using g
  fold_lay; fold_depth
  refine c_whole_between t3 ?_
  fold_lay
  refine i_ifb (fun g => ?_) (fun g => ?_)
  · have g : vR 0 65535 v3 = false := by simpa using g
    fold_lay
    exact c_bad hC (kE _ (by simp [badG, g, g1, g2]))
  have g3 : vR 0 65535 v3 = true := by simpa using g
  fold_lay; fold_depth
  refine ⟨v4, n4, rfl, t4, ?_⟩
  fold_lay
  refine i_ifb (fun g => ?_) (fun g => ?_)
  · have g : vB v4 = false := by simpa using g
    fold_lay
    exact c_bad hC (kE _ (by simp [badG, g, g1, g2, g3]))
  have g4 : vB v4 = true := by simpa using g
  have kk := kQ (by simp [badG, g1, g2, g3, g4])
  obtain ⟨p, rfl, p1, p2⟩ := vR_i g1
  obtain ⟨w, rfl, w1⟩ := vWd_i g2
  obtain ⟨f, rfl, f1, f2⟩ := vR_i g3
  have ov := vB_o g4
  have pw0 : 0 ≤ p * w := Int.mul_nonneg (by omega) (by omega)
  have pw1 : p * w ≤ 16384 := by rcases w1 with rfl | rfl | rfl <;> omega
  fold_lay
  let σ0 : St := [some (.ref x), some (.int p), some (.int w), some (.int f), some v4]
  refine i_cut (fun σ' H' => Out [x] H H' ∧ H' x = some (.ins c.k_Ground dx ([("pages", .int p)] : List (Str × V))) ∧ σ' = σ0) ?_ (fun nx key => ?_)
  rotate_left
  · fold_lay
    refine i_put1 R hx (by simp) (by simp) (putF_new (by simp <;> decide)) ?_
    exact key _ _ ⟨out_upd (by simp), upd_same, rfl⟩
  rintro σ' H1 ⟨o1, h1, rfl⟩
  refine i_cut (fun σ' H' => Out [x] H H' ∧ H' x = some (.ins c.k_Ground dx ([("pages", .int p), ("width", .int w)] : List (Str × V))) ∧ σ' = σ0) ?_ (fun nx key => ?_)
  rotate_left
  · fold_lay
    refine i_put1 R h1 (by simp) (by simp) (putF_new (by simp <;> decide)) ?_
    exact key _ _ ⟨o1.trans (out_upd (by simp)), upd_same, rfl⟩
  rintro σ' H2 ⟨o2, h2, rfl⟩
  refine i_cut (fun σ' H' => Out [x] H H' ∧ H' x = some (.ins c.k_Ground dx ([("pages", .int p), ("width", .int w), ("fill", .int f)] : List (Str × V))) ∧ σ' = σ0) ?_ (fun nx key => ?_)
  rotate_left
  · fold_lay
    refine i_put1 R h2 (by simp) (by simp) (putF_new (by simp <;> decide)) ?_
    exact key _ _ ⟨o2.trans (out_upd (by simp)), upd_same, rfl⟩
  rintro σ' H3 ⟨o3, h3, rfl⟩
  refine i_cut (fun σ' H' => Out [x] H H' ∧ H' x = some (.ins c.k_Ground dx ([("pages", .int p), ("width", .int w), ("fill", .int f), ("allowance", v4)] : List (Str × V))) ∧ σ' = σ0) ?_ (fun nx key => ?_)
  rotate_left
  · fold_lay
    refine i_put1 R h3 (by simp) (by simp) (putF_new (by simp <;> decide)) ?_
    exact key _ _ ⟨o3.trans (out_upd (by simp)), upd_same, rfl⟩
  rintro σ' H4 ⟨o4, h4, rfl⟩
  refine i_cut (fun σ' H' => Out [x] H H' ∧ H' x = some (.ins c.k_Ground dx ([("pages", .int p), ("width", .int w), ("fill", .int f), ("allowance", v4), ("charged", .int 0)] : List (Str × V))) ∧ σ' = σ0) ?_ (fun nx key => ?_)
  rotate_left
  · fold_lay
    refine i_put1 R h4 (by simp) (by simp) (putF_new (by simp <;> decide)) ?_
    exact key _ _ ⟨o4.trans (out_upd (by simp)), upd_same, rfl⟩
  rintro σ' H5 ⟨o5, h5, rfl⟩
  refine i_cut (fun σ' H' => ∃ a, Out [x] H H' ∧ H' x = some (.ins c.k_Ground dx ([("pages", .int p), ("width", .int w), ("fill", .int f), ("allowance", v4), ("charged", .int 0), ("cell_words", .ref a)] : List (Str × V))) ∧ H' a = some (.lst ((List.replicate (p * w).toNat f).map V.int)) ∧ H a = none ∧ a ≠ x ∧ σ' = σ0) ?_ (fun nx key => ?_)
  rotate_left
  · fold_lay
    rename_i l0 j0
    refine i_rep upd_same pw0 (by omega) fun a ja => ?_
    have ja0 : H5 a = none := free2 ja (same_new j0)
    have nax : a ≠ x := Ne.symm (ne_of_none h5 ja0)
    have haH : H a = none := by
      cases q : H a with
      | none => rfl
      | some u => rw [o5 a u (by simpa using nax) q] at ja0; cases ja0
    fold_lay
    refine i_put1 R (upd_keep ja (upd_keep j0 h5)) (by simp) (by simp) (putF_new (by simp <;> decide)) ?_
    exact key _ _ ⟨a, ((o5.trans (Same.out (same_new j0))).trans (Same.out (same_new ja))).trans (out_upd (by simp)), upd_same, by rw [← rep_map]; exact upd_off nax upd_same, haH, nax, rfl⟩
  rintro σ' H6 ⟨wa, o6, h6, hw6, w6, nwx, rfl⟩
  refine i_cut (fun σ' H' => ∃ a, Out [x] H H' ∧ H' x = some (.ins c.k_Ground dx ([("pages", .int p), ("width", .int w), ("fill", .int f), ("allowance", v4), ("charged", .int 0), ("cell_words", .ref wa), ("cell_holders", .ref a)] : List (Str × V))) ∧ H' wa = some (.lst ((List.replicate (p * w).toNat f).map V.int)) ∧ H' a = some (.lst ((List.replicate (p * w).toNat (0 : Int)).map V.int)) ∧ H a = none ∧ a ≠ x ∧ wa ≠ a ∧ σ' = σ0) ?_ (fun nx key => ?_)
  rotate_left
  · fold_lay
    rename_i l0 j0
    refine i_rep upd_same pw0 (by omega) fun a ja => ?_
    have ja0 : H6 a = none := free2 ja (same_new j0)
    have nax : a ≠ x := Ne.symm (ne_of_none h6 ja0)
    have haH : H a = none := by
      cases q : H a with
      | none => rfl
      | some u => rw [o6 a u (by simpa using nax) q] at ja0; cases ja0
    have nwa : wa ≠ a := ne_of_none hw6 ja0
    fold_lay
    refine i_put1 R (upd_keep ja (upd_keep j0 h6)) (by simp) (by simp) (putF_new (by simp <;> decide)) ?_
    exact key _ _ ⟨a, ((o6.trans (Same.out (same_new j0))).trans (Same.out (same_new ja))).trans (out_upd (by simp)), upd_same, upd_off nwx (upd_keep ja (upd_keep j0 hw6)), by rw [← rep_map]; exact upd_off nax upd_same, haH, nax, nwa, rfl⟩
  rintro σ' H7 ⟨ha, o7, h7, hw7, hh7, hh0, nhx, nwh, rfl⟩
  fold_lay
  rename_i oa joa
  have nox : oa ≠ x := Ne.symm (ne_of_none h7 joa)
  have hoH : H oa = none := by
    cases q : H oa with
    | none => rfl
    | some u => rw [o7 oa u (by simpa using nox) q] at joa; cases joa
  have nwo : wa ≠ oa := ne_of_none hw7 joa
  have nho : ha ≠ oa := ne_of_none hh7 joa
  refine i_put1 R (upd_keep joa h7) (by simp) (by simp) (putF_new (by simp <;> decide)) ?_
  refine kk wa ha oa _ ⟨?_, upd_off nwx (upd_keep joa hw7), upd_off nhx (upd_keep joa hh7), upd_off nox upd_same, .nil, nwh, nwo, nho, List.nodup_nil, ?_, ?_, Nat.zero_le _, fun es m => by cases m⟩ w6 hh0 hoH ((o7.trans (Same.out (same_new joa))).trans (out_upd (by simp)))
  · rw [upd_same]
    show some (HO.ins c.k_Ground dx _) = some (HO.ins c.k_Ground dx (flds _ _))
    unfold flds newG
    rw [← ov]
    rfl
  · show (List.replicate (p * w).toNat f).length = (List.replicate (p * w).toNat (0 : Int)).length
    rw [List.length_replicate, List.length_replicate]
  · show (List.replicate (p * w).toNat f).length ≤ 20000
    rw [List.length_replicate]
    omega
/-! ## Ground8 -/
/-! ### a deed of some changes -/
theorem short {n : Nat} : ∀ {l : List Nat}, l.Nodup → (∀ x ∈ l, x < n) → l.length ≤ n := by
  induction n with
  | zero =>
    intro l _ h
    cases l with
    | nil => exact Nat.le_refl _
    | cons x r => exact absurd (h x List.mem_cons_self) (by omega)
  | succ n ih =>
    intro l hn h
    have h1 : (l.erase n).length ≤ n := ih (hn.erase n) fun x m => by
      have m1 := List.mem_of_mem_erase m
      have m2 := h x m1
      have m3 : x ≠ n := fun z => by
        rw [z] at m
        exact (List.Nodup.not_mem_erase hn) m
      omega
    by_cases g : n ∈ l
    · rw [List.length_erase_of_mem g] at h1
      omega
    · rw [List.erase_of_not_mem g] at h1
      omega
theorem keys_nat {es : List En} {n : Nat} (h : (es.map (·.1)).Nodup) (r : ∀ e ∈ es, 0 ≤ e.1 ∧ e.1 < n) : (es.map fun e => e.1.toNat).Nodup := by
  induction es with
  | nil => exact List.nodup_nil
  | cons e l ih =>
    rw [List.map_cons, List.nodup_cons] at h ⊢
    refine ⟨fun m => ?_, ih h.2 fun x m => r x (List.mem_cons_of_mem _ m)⟩
    obtain ⟨x, hx, he⟩ := List.mem_map.mp m
    have r1 := r e List.mem_cons_self
    have r2 := r x (List.mem_cons_of_mem _ hx)
    have : x.1 = e.1 := by omega
    exact h.1 (List.mem_map.mpr ⟨x, hx, this⟩)
theorem ents_short {es : List En} {n : Nat} (h : (es.map (·.1)).Nodup) (r : ∀ e ∈ es, 0 ≤ e.1 ∧ e.1 < n) : es.length ≤ n := by
  have := short (n := n) (keys_nat h r) fun x m => by
    obtain ⟨e, he, rfl⟩ := List.mem_map.mp m
    have := r e he
    omega
  rwa [List.length_map] at this
theorem Gd.shorts {c : Cl} {H : Hp} {A : GA} {S : GS} (G : Gd c H A S) : ∀ es ∈ S.ds, es.length ≤ 20000 := fun es m => Nat.le_trans (ents_short (G.ok es m).1 (G.ok es m).2) G.sz
def logOf (l : List En) (ws hs : List Int) : List En := l.map fun e => (e.1, ws.getD e.1.toNat 0, hs.getD e.1.toNat 0)
theorem log_keys {l : List En} {ws hs : List Int} : (logOf l ws hs).map (·.1) = l.map (·.1) := by
  unfold logOf
  rw [List.map_map]
  rfl
theorem restW_off {l : List En} {i : Nat} : ∀ {ws : List Int}, (∀ e ∈ l, e.1.toNat ≠ i) → (restW l ws)[i]? = ws[i]? := by
  induction l with
  | nil => intro ws _; rfl
  | cons e r ih =>
    intro ws h
    show (restW r (ws.set e.1.toNat e.2.1))[i]? = _
    rw [ih fun x m => h x (List.mem_cons_of_mem _ m), List.getElem?_set_ne (h e List.mem_cons_self)]
theorem restH_off {l : List En} {i : Nat} : ∀ {ws : List Int}, (∀ e ∈ l, e.1.toNat ≠ i) → (restH l ws)[i]? = ws[i]? := by
  induction l with
  | nil => intro ws _; rfl
  | cons e r ih =>
    intro ws h
    show (restH r (ws.set e.1.toNat e.2.2))[i]? = _
    rw [ih fun x m => h x (List.mem_cons_of_mem _ m), List.getElem?_set_ne (h e List.mem_cons_self)]
theorem restW_on {l : List En} {e : En} : ∀ {ws : List Int}, (l.map fun e => e.1.toNat).Nodup → e ∈ l → e.1.toNat < ws.length → (restW l ws)[e.1.toNat]? = some e.2.1 := by
  induction l with
  | nil => intro ws _ h; cases h
  | cons x r ih =>
    intro ws hn h hl
    rw [List.map_cons, List.nodup_cons] at hn
    show (restW r (ws.set x.1.toNat x.2.1))[e.1.toNat]? = _
    rcases List.mem_cons.mp h with h | h
    · subst h
      rw [restW_off fun y m z => hn.1 (List.mem_map.mpr ⟨y, m, z⟩), List.getElem?_set_self hl]
    · exact ih hn.2 h (by rw [List.length_set]; exact hl)
theorem restH_on {l : List En} {e : En} : ∀ {ws : List Int}, (l.map fun e => e.1.toNat).Nodup → e ∈ l → e.1.toNat < ws.length → (restH l ws)[e.1.toNat]? = some e.2.2 := by
  induction l with
  | nil => intro ws _ h; cases h
  | cons x r ih =>
    intro ws hn h hl
    rw [List.map_cons, List.nodup_cons] at hn
    show (restH r (ws.set x.1.toNat x.2.2))[e.1.toNat]? = _
    rcases List.mem_cons.mp h with h | h
    · subst h
      rw [restH_off fun y m z => hn.1 (List.mem_map.mpr ⟨y, m, z⟩), List.getElem?_set_self hl]
    · exact ih hn.2 h (by rw [List.length_set]; exact hl)
/-- changes at places of their own -/
structure Chg (n : Nat) (l : List En) : Prop where
  nd : (l.map (·.1)).Nodup
  rg : ∀ e ∈ l, 0 ≤ e.1 ∧ e.1 < n
theorem log_nat {l : List En} {ws hs : List Int} {n : Nat} (h : Chg n l) : ((logOf l ws hs).map fun e => e.1.toNat).Nodup := by
  have := keys_nat h.nd h.rg
  unfold logOf
  rw [List.map_map]
  exact this
theorem restW_back {l : List En} {ws hs : List Int} (h : Chg ws.length l) : restW (logOf l ws hs) (restW l ws) = ws := by
  apply List.ext_getElem?
  intro i
  by_cases g : ∃ e ∈ l, e.1.toNat = i
  · obtain ⟨e, he, rfl⟩ := g
    have r := h.rg e he
    have := restW_on (e := (e.1, ws.getD e.1.toNat 0, hs.getD e.1.toNat 0)) (ws := restW l ws) (log_nat (hs := hs) h) (List.mem_map.mpr ⟨e, he, rfl⟩) (by rw [restW_len]; show e.1.toNat < _; omega)
    rw [this, getD_at r.1 r.2]
  · have g2 : ∀ e ∈ l, e.1.toNat ≠ i := fun e he z => g ⟨e, he, z⟩
    rw [restW_off (l := logOf l ws hs) fun e he => by
      obtain ⟨x, hx, rfl⟩ := List.mem_map.mp he
      exact g2 x hx, restW_off g2]
theorem restH_back {l : List En} {ws hs : List Int} (h : Chg hs.length l) : restH (logOf l ws hs) (restH l hs) = hs := by
  apply List.ext_getElem?
  intro i
  by_cases g : ∃ e ∈ l, e.1.toNat = i
  · obtain ⟨e, he, rfl⟩ := g
    have r := h.rg e he
    have := restH_on (e := (e.1, ws.getD e.1.toNat 0, hs.getD e.1.toNat 0)) (ws := restH l hs) (log_nat (ws := ws) (hs := hs) h) (List.mem_map.mpr ⟨e, he, rfl⟩) (by rw [restH_len]; show e.1.toNat < _; omega)
    rw [this, getD_at r.1 r.2]
  · have g2 : ∀ e ∈ l, e.1.toNat ≠ i := fun e he z => g ⟨e, he, z⟩
    rw [restH_off (l := logOf l ws hs) fun e he => by
      obtain ⟨x, hx, rfl⟩ := List.mem_map.mp he
      exact g2 x hx, restH_off g2]
abbrev fpA (A : GA) : List Addr := A.g :: A.w :: A.h :: A.o :: A.dd
def costL (S : GS) (l : List En) : Nat := costOf (restW l S.ws) (restH l S.hs) (logOf l S.ws S.hs)
/-- how a deed of the changes l ends -/
structure DeedOk (c : Cl) (A : GA) (S : GS) (l : List En) (H : Hp) (Q : Hp → Prop) (E : XK) : Prop where
  free : S.ds = [] → S.al = none → ∀ H', Gd c H' A { S with ws := restW l S.ws, hs := restH l S.hs, ch := S.ch + (costL S l : Nat) } → Out (fpA A) H H' → Q H'
  paid : S.ds = [] → ∀ a, S.al = some a → ((costL S l : Nat) : Int) ≤ a → ∀ H', Gd c H' A { S with ws := restW l S.ws, hs := restH l S.hs, al := some (a - (costL S l : Nat)), ch := S.ch + (costL S l : Nat) } → Out (fpA A) H H' → Q H'
  cut : S.ds = [] → ∀ a, S.al = some a → a < ((costL S l : Nat) : Int) → ∀ e H', cutA H' e (costL S l : Nat) a → Gd c H' A S → Out (fpA A) H H' → E (.ref c.k_Cut) (some e) H'
  inner : ∀ ds0 es, S.ds = ds0 ++ [es] → ∀ H', Gd c H' A { S with ws := restW l S.ws, hs := restH l S.hs, ds := ds0 ++ [merge es (logOf l S.ws S.hs)] } → Out (fpA A) H H' → Q H'
/-- a ground inside its deed -/
abbrev inA (A : GA) (d : Addr) : GA := { A with dd := A.dd ++ [d] }
abbrev inS (S : GS) (l : List En) : GS := { S with ws := restW l S.ws, hs := restH l S.hs, ds := S.ds ++ [logOf l S.ws S.hs] }
theorem commit_deed {K : PySem.W.Frag} {c : Cl} {A : GA} {S : GS} {l : List En} {H H1 : Hp} {d : Addr} {Q : Hp → Prop} {E : XK} (G0 : Gd c H A S) (h : Chg S.ws.length l) (G : Gd c H1 (inA A d) (inS S l)) (O : Out (fpA A) H H1) (hd : H d = none) (R : GdK K c) (EU : ErC K c.k_Unknown ["told", "parameter"]) (EC : ErC K c.k_Cut ["told", "needed", "left"]) (D : DeedOk c A S l H Q E) : sp_commit K c [.ref A.g] H1 (fun _ H' => Q H') E := by
  have wid : ∀ {F : List Addr} {H2 : Hp}, Out F H1 H2 → (∀ a ∈ F, a ∈ fpA A ∨ a = d) → Out (fpA A) H H2 := fun o s b u n e => o b u (fun z => by
    rcases s b z with q | q
    · exact n q
    · rw [q, hd] at e
      cases e) (O b u n e)
  refine ⟨inA A d, inS S l, rfl, G, R, EU, EC, G.shorts, fun z => absurd z (by simp), fun es e1 d' e2 => ?_, fun ds0 es1 es e1 dd0 d1 d' e2 H' G' O' => ?_⟩
  · have e1 : S.ds ++ [logOf l S.ws S.hs] = [] ++ [es] := e1
    obtain ⟨e3, e4⟩ := List.append_inj' e1 rfl
    obtain rfl : logOf l S.ws S.hs = es := by simpa using e4
    have e5 : A.dd = [] := List.length_eq_zero_iff.mp (by rw [G0.dl.length, e3]; rfl)
    have eA : ({ inA A d with dd := [] } : GA) = A := by
      cases A
      simp_all
    have sub : ∀ a ∈ [A.g, A.o], a ∈ fpA A ∨ a = d := by simp
    refine ⟨fun ha H' G' O' => ?_, fun a ha hle H' G' O' => ?_, fun a ha hlt e H' hE G' O' => ?_⟩
    · rw [eA] at G'
      refine D.free e3 ha H' ?_ (wid O' sub)
      have e : ({ inS S l with ch := S.ch + (costL S l : Nat), ds := [] } : GS) = { S with ws := restW l S.ws, hs := restH l S.hs, ch := S.ch + (costL S l : Nat) } := by
        cases S
        simp_all
      rw [← e]
      exact G'
    · rw [eA] at G'
      refine D.paid e3 a ha hle H' ?_ (wid O' sub)
      have e : ({ inS S l with al := some (a - (costL S l : Nat)), ch := S.ch + (costL S l : Nat), ds := [] } : GS) = { S with ws := restW l S.ws, hs := restH l S.hs, al := some (a - (costL S l : Nat)), ch := S.ch + (costL S l : Nat) } := by
        cases S
        simp_all
      rw [← e]
      exact G'
    · rw [eA] at G'
      refine D.cut e3 a ha hlt e H' hE ?_ (wid O' (by simp))
      have e : ({ inS S l with ws := restW (logOf l S.ws S.hs) (restW l S.ws), hs := restH (logOf l S.ws S.hs) (restH l S.hs), ds := [] } : GS) = S := by
        rw [restW_back h, restH_back (by rw [← G0.le]; exact h)]
        cases S
        simp_all
      rw [← e]
      exact G'
  · have e1 : S.ds ++ [logOf l S.ws S.hs] = (ds0 ++ [es1]) ++ [es] := e1
    have e2 : A.dd ++ [d] = (dd0 ++ [d1]) ++ [d'] := e2
    obtain ⟨e3, e4⟩ := List.append_inj' e1 rfl
    obtain ⟨e5, e6⟩ := List.append_inj' e2 rfl
    obtain rfl : logOf l S.ws S.hs = es := by simpa using e4
    have eA : ({ inA A d with dd := dd0 ++ [d1] } : GA) = A := by
      cases A
      simp_all
    rw [eA] at G'
    refine D.inner ds0 es1 e3 H' G' (wid O' fun a m => ?_)
    simp only [List.mem_cons, List.not_mem_nil, or_false] at m
    rcases m with rfl | rfl
    · simp
    · left
      simp [e5]
/-! ## Ground9 -/
/-! ### the ground: write, poke, pass_on -/
structure GdE (K : PySem.W.Frag) (c : Cl) : Prop where
  gk : GdK K c
  bv : BvC K c.k_BadValue
  eu : ErC K c.k_Unknown ["told", "parameter"]
  ec : ErC K c.k_Cut ["told", "needed", "left"]
  en : ErC K c.k_NotHeld ["told", "place", "found"]
  eb : ErC K c.k_Broken ["told", "place", "found", "due"]
def vU (v : V) : Bool := vH v && !decide (v = .int 0)
def badWr (n : Nat) (v1 v2 v3 : V) : Option Str := if vR 0 ((n : Int) - 1) v1 = false then some "place" else if vR 0 65535 v2 = false then some "word" else if vU v3 = false then some "holder" else none
theorem vH_i {v : V} (h : vH v = true) : ∃ i, v = .int i ∧ 0 ≤ i ∧ i ≤ 28 := by
  unfold vH at h
  cases v <;> first | (simp [vR] at h; exact ⟨_, rfl, by omega, by omega⟩) | (simp [vR] at h)
def sp_write (K : PySem.W.Frag) (c : Cl) : Sp := fun vs H Q E => ∃ (A : GA) (S : GS) (v1 v2 v3 : V) (n1 n2 n3 : String), vs = [.ref A.g, v1, v2, v3] ∧ Gd c H A S ∧ GdE K c ∧ Ty0 H v1 n1 ∧ Ty0 H v2 n2 ∧ Ty0 H v3 n3 ∧ S.ds.length < 1000 ∧
  (∀ t, badWr S.ws.length v1 v2 v3 = some t → ∀ d H', BadAt H' d (.str t) → Same H H' → E (.ref c.k_BadValue) (some d) H') ∧
  (badWr S.ws.length v1 v2 v3 = none → ∀ p w h, v1 = .int p → v2 = .int w → v3 = .int h → (S.hs.getD p.toNat 0 ≠ h → ∀ d H', nhA H' d p (S.hs.getD p.toNat 0) → Same H H' → E (.ref c.k_NotHeld) (some d) H') ∧ (S.hs.getD p.toNat 0 = h → DeedOk c A S [(p, w, h)] H (fun H' => Q .non H') E))
theorem note_one {ws hs : List Int} {p w h : Int} : note ws hs p [] = logOf [(p, w, h)] ws hs := by simp [note, logOf]
theorem chg_one {n : Nat} {p w h : Int} (p0 : 0 ≤ p) (p1 : p < n) : Chg n [(p, w, h)] := ⟨by simp, fun e m => by rw [List.mem_singleton.mp m]; exact ⟨p0, p1⟩⟩
/-- begin, one change, commit -/
theorem one_deed {K : PySem.W.Frag} {c : Cl} {A : GA} {S : GS} {p w h : Int} {H : Hp} {Q : Hp → Prop} {E : XK} (G : Gd c H A S) (R : GdE K c) (dl : S.ds.length < 1000) (p0 : 0 ≤ p) (p1 : p < S.ws.length) (D : DeedOk c A S [(p, w, h)] H Q E) :
    sp_begin K c [.ref A.g] H (fun _ H1 => ∀ F : Prop, ((∀ A' S', Gd c H1 A' S' → A'.g = A.g → A'.w = A.w → A'.h = A.h → S'.ws = S.ws → S'.hs = S.hs → sp_change_cell K c [.ref A.g, .int p, .int w, .int h] H1 (fun _ H2 => sp_commit K c [.ref A.g] H2 (fun _ H' => Q H') E ∧ ∃ A'' S'', Gd c H2 A'' S'' ∧ A''.g = A.g) E0 → F) → F)) E0 := by
  refine ⟨A, S, rfl, G, R.gk, dl, fun d H1 G1 hd O1 F hF => hF _ _ G1 rfl rfl rfl rfl rfl ?_⟩
  refine ⟨inA A d, inS S [], A.dd, d, S.ds, [], p, w, h, rfl, G1, R.gk, rfl, rfl, p0, p1, by simp, fun H2 G2 O2 => ⟨?_, _, _, G2, rfl⟩⟩
  have G2 : Gd c H2 (inA A d) (inS S [(p, w, h)]) := by
    have e : ({ inS S [] with ws := (inS S []).ws.set p.toNat w, hs := (inS S []).hs.set p.toNat h, ds := S.ds ++ [note (inS S []).ws (inS S []).hs p []] } : GS) = inS S [(p, w, h)] := by
      show ({ S with ws := S.ws.set p.toNat w, hs := S.hs.set p.toNat h, ds := S.ds ++ [note S.ws S.hs p []] } : GS) = _
      rw [note_one (w := w) (h := h)]
      rfl
    rw [← e]
    exact G2
  refine commit_deed G (chg_one p0 p1) G2 (fun b u n e => ?_) hd R.gk R.eu R.ec D
  have n1 : b ∉ [A.o] := fun z => n (by simp at z; simp [z])
  have e1 := O1 b u n1 e
  refine O2 b u (fun z => ?_) e1
  have z : b ∈ [A.w, A.h, d] := z
  simp only [List.mem_cons, List.not_mem_nil, or_false] at z
  rcases z with z | z | z
  · exact n (by simp [z])
  · exact n (by simp [z])
  · rw [z, hd] at e
    cases e
def N_c_Ground_write : List Str := ["self", "place", "word", "holder"]
def t_c_Ground_write (K : PySem.W.Frag) (c : Cl) (E : XK) : TS := (tSeq (tDrop (tMeth c.k_Ground "check_place" (sp_check_place K c) [] E (tVar 0) (tCons (tVar 1) tNil)))
  (tSeq (tIfS (tNot (tB (tCall (sp_whole_between K) [] E0 (tCons (tVar 2) (tCons (tC (.int 0)) (tCons (tC (.int 65535)) tNil)))))) (tRz (tMkO c.k_BadValue (sp_init_BadValue K c.k_BadValue) [] (tCons (tC (.str "word")) tNil)) (fun cls d _ H => E cls d H)) tNext)
  (tSeq (tIfS (tOr (tNot (tB (tCall (sp_is_holder K) [] E0 (tCons (tVar 3) tNil)))) (tTest (tOp rEq (tVar 3) (tC (.int 0))))) (tRz (tMkO c.k_BadValue (sp_init_BadValue K c.k_BadValue) [] (tCons (tC (.str "holder")) tNil)) (fun cls d _ H => E cls d H)) tNext)
  (tSeq (tDrop (tMeth c.k_Ground "check_guard" (sp_check_guard K c) [] E (tVar 0) (tCons (tVar 1) (tCons (tVar 3) tNil))))
  (tSeq (tDrop (tMeth c.k_Ground "begin" (sp_begin K c) [] E0 (tVar 0) tNil))
  (tSeq (tDrop (tMeth c.k_Ground "change_cell" (sp_change_cell K c) [] E0 (tVar 0) (tCons (tVar 1) (tCons (tVar 2) (tCons (tVar 3) tNil)))))
  (tDrop (tMeth c.k_Ground "commit" (sp_commit K c) [] E (tVar 0) tNil))))))))
theorem pure_write {K : PySem.W.Frag} {c : Cl} {vs : List V} {H : Hp} {Q : VK} {E : XK} (h : sp_write K c vs H Q E) : t_c_Ground_write K c E { nx := fun _ H' => Q .non H', rt := Q } (start N_c_Ground_write vs) H := by
  obtain ⟨A, S, v1, v2, v3, n1, n2, n3, rfl, G, R, t1, t2, t3, dl, kE, kQ⟩ := h
  unfold t_c_Ground_write
  fold_lay
  refine i_meth G lkm_check_place ?_
  fold_lay
  refine c_check_place G R.gk t1 R.bv (fun g1 => ?_) (fun g1 => kE _ (by simp [badWr, g1]))
  fold_depth
  refine c_whole_between t2 ?_
  fold_lay
  refine i_ifb (fun g => ?_) (fun g => ?_)
  · have g : vR 0 65535 v2 = false := by simpa using g
    fold_lay
    exact c_bad R.bv (kE _ (by simp [badWr, g1, g]))
  have g2 : vR 0 65535 v2 = true := by simpa using g
  fold_lay
  refine i_cut (fun σ' H' => H' = H ∧ vU v3 = true ∧ σ' = [some (.ref A.g), some v1, some v2, some v3]) ?_ (fun nx key => ?_)
  rotate_left
  · fold_lay
    refine c_is_holder t3 ?_
    fold_lay
    refine i_ifb (fun g => ?_) (fun g => ?_)
    · have g : vH v3 = false := by simpa using g
      fold_lay
      exact c_bad R.bv (kE _ (by simp [badWr, g1, g2, vU, g]))
    · have g : vH v3 = true := by simpa using g
      obtain ⟨i, rfl, i0, i1⟩ := vH_i g
      fold_lay
      refine i_ifd (fun z => ?_) (fun z => ?_)
      · subst z
        fold_lay
        exact c_bad R.bv (kE _ (by simp [badWr, g1, g2, vU]))
      · fold_lay
        exact key _ _ ⟨rfl, by simp [vU, g, z], rfl⟩
  rintro σ' H' ⟨rfl, g3, rfl⟩
  obtain ⟨p, rfl, p0, p1⟩ := vR_i g1
  obtain ⟨w, rfl, _, _⟩ := vR_i g2
  obtain ⟨hh, rfl, _, _⟩ := vH_i (by unfold vU at g3; exact (Bool.and_eq_true_iff.mp g3).1)
  obtain ⟨kN, kD⟩ := kQ (by simp [badWr, g1, g2, g3]) p w hh rfl rfl rfl
  fold_lay
  refine i_meth G lkm_check_guard ?_
  fold_lay
  refine c_check_guard G R.gk R.en p0 (by omega) (fun q => ?_) kN
  fold_lay
  refine i_meth G lkm_begin ?_
  fold_lay
  obtain ⟨A0, S0, e0, G0, R0, dl0, k0⟩ := one_deed (p := p) (w := w) (h := hh) G R dl p0 (by omega) (kD q)
  refine ⟨A0, S0, e0, G0, R0, dl0, fun d H1 G1 hd O1 => ?_⟩
  refine k0 d H1 G1 hd O1 _ fun A' S' G' ea ew eh es es2 hc => ?_
  fold_lay
  rw [← ea] at hc ⊢
  refine i_meth G' lkm_change_cell ?_
  fold_lay
  obtain ⟨A2, S2, dd2, d2, ds2, es2', p2, w2, h2, e2, G2, R2, a1, a2, a3, a4, a5, k2⟩ := hc
  refine ⟨A2, S2, dd2, d2, ds2, es2', p2, w2, h2, e2, G2, R2, a1, a2, a3, a4, a5, fun H2 G3 O3 => ?_⟩
  obtain ⟨hcm, A3, S3, G4, e4⟩ := k2 H2 G3 O3
  fold_lay
  rw [← e4] at hcm ⊢
  exact i_meth G4 lkm_commit hcm
/-! ## Ground10 -/
/-! ### the ground: poke -/
def badPk (n : Nat) (v1 v2 : V) : Option Str := if vR 0 ((n : Int) - 1) v1 = false then some "place" else if vR 0 65535 v2 = false then some "word" else none
def sp_poke (K : PySem.W.Frag) (c : Cl) : Sp := fun vs H Q E => ∃ (A : GA) (S : GS) (v1 v2 : V) (n1 n2 : String), vs = [.ref A.g, v1, v2] ∧ Gd c H A S ∧ GdE K c ∧ Ty0 H v1 n1 ∧ Ty0 H v2 n2 ∧ S.ds.length < 1000 ∧
  (∀ t, badPk S.ws.length v1 v2 = some t → ∀ d H', BadAt H' d (.str t) → Same H H' → E (.ref c.k_BadValue) (some d) H') ∧
  (badPk S.ws.length v1 v2 = none → ∀ p w, v1 = .int p → v2 = .int w → DeedOk c A S [(p, w, S.hs.getD p.toNat 0)] H (fun H' => Q .non H') E)
def N_c_Ground_poke : List Str := ["self", "place", "word"]
def t_c_Ground_poke (K : PySem.W.Frag) (c : Cl) (E : XK) : TS := (tSeq (tDrop (tMeth c.k_Ground "check_place" (sp_check_place K c) [] E (tVar 0) (tCons (tVar 1) tNil)))
  (tSeq (tIfS (tNot (tB (tCall (sp_whole_between K) [] E0 (tCons (tVar 2) (tCons (tC (.int 0)) (tCons (tC (.int 65535)) tNil)))))) (tRz (tMkO c.k_BadValue (sp_init_BadValue K c.k_BadValue) [] (tCons (tC (.str "word")) tNil)) (fun cls d _ H => E cls d H)) tNext)
  (tSeq (tDrop (tMeth c.k_Ground "begin" (sp_begin K c) [] E0 (tVar 0) tNil))
  (tSeq (tDrop (tMeth c.k_Ground "change_cell" (sp_change_cell K c) [] E0 (tVar 0) (tCons (tVar 1) (tCons (tVar 2) (tCons (tOp (rIxL K) (tFld K (tVar 0) "cell_holders") (tVar 1)) tNil)))))
  (tDrop (tMeth c.k_Ground "commit" (sp_commit K c) [] E (tVar 0) tNil))))))
theorem pure_poke {K : PySem.W.Frag} {c : Cl} {vs : List V} {H : Hp} {Q : VK} {E : XK} (h : sp_poke K c vs H Q E) : t_c_Ground_poke K c E { nx := fun _ H' => Q .non H', rt := Q } (start N_c_Ground_poke vs) H := by
  obtain ⟨A, S, v1, v2, n1, n2, rfl, G, R, t1, t2, dl, kE, kQ⟩ := h
  unfold t_c_Ground_poke
  fold_lay
  refine i_meth G lkm_check_place ?_
  fold_lay
  refine c_check_place G R.gk t1 R.bv (fun g1 => ?_) (fun g1 => kE _ (by simp [badPk, g1]))
  fold_depth
  refine c_whole_between t2 ?_
  fold_lay
  refine i_ifb (fun g => ?_) (fun g => ?_)
  · have g : vR 0 65535 v2 = false := by simpa using g
    fold_lay
    exact c_bad R.bv (kE _ (by simp [badPk, g1, g]))
  have g2 : vR 0 65535 v2 = true := by simpa using g
  fold_lay
  obtain ⟨p, rfl, p0, p1⟩ := vR_i g1
  obtain ⟨w, rfl, _, _⟩ := vR_i g2
  have kD := kQ (by simp [badPk, g1, g2]) p w rfl rfl
  refine i_meth G lkm_begin ?_
  fold_lay
  obtain ⟨A0, S0, e0, G0, R0, dl0, k0⟩ := one_deed (p := p) (w := w) (h := S.hs.getD p.toNat 0) G R dl p0 (by omega) kD
  refine ⟨A0, S0, e0, G0, R0, dl0, fun d H1 G1 hd O1 => ?_⟩
  refine k0 d H1 G1 hd O1 _ fun A' S' G' ea ew eh es es2 hc => ?_
  fold_lay
  rw [← ea] at hc ⊢
  refine i_meth G' lkm_change_cell ?_
  fold_lay
  refine i_gfld R.gk G'.ob (by simp) lkf_cell_holders ?_
  fold_lay
  have hl := G'.hl
  rw [es2] at hl
  refine i_ixL (sqL hl) (at_ints p0 (by rw [← G.le]; omega)) ?_
  fold_lay
  obtain ⟨A2, S2, dd2, d2, ds2, es2', p2, w2, h2, e2, G2, R2, a1, a2, a3, a4, a5, k2⟩ := hc
  refine ⟨A2, S2, dd2, d2, ds2, es2', p2, w2, h2, e2, G2, R2, a1, a2, a3, a4, a5, fun H2 G3 O3 => ?_⟩
  obtain ⟨hcm, A3, S3, G4, e4⟩ := k2 H2 G3 O3
  fold_lay
  rw [← e4] at hcm ⊢
  exact i_meth G4 lkm_commit hcm
/-! ## Ground11 -/
/-! ### the ground: pass_on -/
def vZ (v : V) : Int := match v with | .int i => i | _ => 0
def badPs (n : Nat) (v1 v2 v3 v4 : V) : Option Str := if vR 0 ((n : Int) - 1) v1 = false then some "start" else if vR 1 ((n : Int) - vZ v1) v2 = false then some "size" else if vH v3 = false then some "giver" else if vH v4 = false then some "taker" else none
def nog (S : GS) (g : Int) (p : Int) : Bool := decide (S.hs.getD p.toNat 0 ≠ g)
/-- the changes of a pass -/
def pas (S : GS) (s : Int) (n : Nat) (t : Int) : List En := (List.range n).map fun i : Nat => (s + (i : Int), (if t = 0 then S.fl else S.ws.getD (s + (i : Int)).toNat 0), t)
theorem pas_more {S : GS} {s t : Int} {i : Nat} : pas S s (i + 1) t = pas S s i t ++ [(s + (i : Int), (if t = 0 then S.fl else S.ws.getD (s + (i : Int)).toNat 0), t)] := by
  unfold pas
  rw [List.range_succ, List.map_append]
  rfl
theorem pas_mem {S : GS} {s t : Int} {n : Nat} {e : En} (h : e ∈ pas S s n t) : s ≤ e.1 ∧ e.1 < s + (n : Int) := by
  obtain ⟨i, hi, rfl⟩ := List.mem_map.mp h
  have := List.mem_range.mp hi
  exact ⟨by show s ≤ s + (i : Int); omega, by show s + (i : Int) < s + (n : Int); omega⟩
theorem pas_chg {S : GS} {s t : Int} {n m : Nat} (s0 : 0 ≤ s) (s1 : s + (n : Int) ≤ m) : Chg m (pas S s n t) := by
  refine ⟨?_, fun e he => ?_⟩
  · unfold pas
    rw [List.map_map]
    refine List.pairwise_map.mpr (List.nodup_range.imp fun {a b} h z => ?_)
    have z : s + (a : Int) = s + (b : Int) := z
    exact h (by omega)
  · have := pas_mem he
    omega
theorem restW_app {l : List En} {e : En} {ws : List Int} : restW (l ++ [e]) ws = (restW l ws).set e.1.toNat e.2.1 := by
  unfold restW
  rw [List.foldl_append]
  rfl
theorem restH_app {l : List En} {e : En} {ws : List Int} : restH (l ++ [e]) ws = (restH l ws).set e.1.toNat e.2.2 := by
  unfold restH
  rw [List.foldl_append]
  rfl
theorem restW_getD {l : List En} {i : Nat} {ws : List Int} (h : ∀ e ∈ l, e.1.toNat ≠ i) : (restW l ws).getD i 0 = ws.getD i 0 := by
  rw [List.getD_eq_getElem?_getD, List.getD_eq_getElem?_getD, restW_off h]
theorem restH_getD {l : List En} {i : Nat} {ws : List Int} (h : ∀ e ∈ l, e.1.toNat ≠ i) : (restH l ws).getD i 0 = ws.getD i 0 := by
  rw [List.getD_eq_getElem?_getD, List.getD_eq_getElem?_getD, restH_off h]
theorem inS_more {S : GS} {l : List En} {p w h : Int} (p0 : 0 ≤ p) (l0 : ∀ e ∈ l, 0 ≤ e.1 ∧ e.1 ≠ p) :
    ({ inS S l with ws := (inS S l).ws.set p.toNat w, hs := (inS S l).hs.set p.toNat h, ds := S.ds ++ [note (inS S l).ws (inS S l).hs p (logOf l S.ws S.hs)] } : GS) = inS S (l ++ [(p, w, h)]) := by
  have l1 : ∀ e ∈ l, e.1.toNat ≠ p.toNat := fun e m => by
    have := l0 e m
    omega
  have e1 : note (restW l S.ws) (restH l S.hs) p (logOf l S.ws S.hs) = logOf (l ++ [(p, w, h)]) S.ws S.hs := by
    unfold note
    rw [log_keys, if_neg (fun z => by
      obtain ⟨e, m, q⟩ := List.mem_map.mp z
      exact (l0 e m).2 q), restW_getD l1, restH_getD l1]
    simp [logOf]
  show ({ S with ws := (restW l S.ws).set p.toNat w, hs := (restH l S.hs).set p.toNat h, ds := S.ds ++ [note (restW l S.ws) (restH l S.hs) p (logOf l S.ws S.hs)] } : GS) = _
  rw [e1]
  show _ = ({ S with ws := restW (l ++ [(p, w, h)]) S.ws, hs := restH (l ++ [(p, w, h)]) S.hs, ds := _ } : GS)
  rw [restW_app, restH_app]
def sp_pass_on (K : PySem.W.Frag) (c : Cl) : Sp := fun vs H Q E => ∃ (A : GA) (S : GS) (v1 v2 v3 v4 : V) (n1 n2 n3 n4 : String), vs = [.ref A.g, v1, v2, v3, v4] ∧ Gd c H A S ∧ GdE K c ∧ Ty0 H v1 n1 ∧ Ty0 H v2 n2 ∧ Ty0 H v3 n3 ∧ Ty0 H v4 n4 ∧ S.ds.length < 1000 ∧
  (∀ t, badPs S.ws.length v1 v2 v3 v4 = some t → ∀ d H', BadAt H' d (.str t) → Same H H' → E (.ref c.k_BadValue) (some d) H') ∧
  (badPs S.ws.length v1 v2 v3 v4 = none → ∀ (s : Int) (n : Nat) (g t : Int), v1 = .int s → v2 = .int n → v3 = .int g → v4 = .int t →
    (g = 0 → ∀ p, firstP (brk S) s n = some p → ∀ d H', brA H' d p (S.ws.getD p.toNat 0) S.fl → Same H H' → E (.ref c.k_Broken) (some d) H') ∧
    ((g = 0 → firstP (brk S) s n = none) → (∀ p, firstP (nog S g) s n = some p → ∀ d H', nhA H' d p (S.hs.getD p.toNat 0) → Same H H' → E (.ref c.k_NotHeld) (some d) H') ∧
      (firstP (nog S g) s n = none → DeedOk c A S (pas S s n t) H (fun H' => Q .non H') E)))
def N_c_Ground_pass_on : List Str := ["self", "start", "size", "giver", "taker", "top", "place", "word"]
def t_c_Ground_pass_on (K : PySem.W.Frag) (c : Cl) (E : XK) : TS := (tSeq (tAsg (tCB (rLen K) (tCons (tFld K (tVar 0) "cell_words") tNil)) (gName 5))
  (tSeq (tIfS (tNot (tB (tCall (sp_whole_between K) [] E0 (tCons (tVar 1) (tCons (tC (.int 0)) (tCons (tOp oSub (tVar 5) (tC (.int 1))) tNil)))))) (tRz (tMkO c.k_BadValue (sp_init_BadValue K c.k_BadValue) [] (tCons (tC (.str "start")) tNil)) (fun cls d _ H => E cls d H)) tNext)
  (tSeq (tIfS (tNot (tB (tCall (sp_whole_between K) [] E0 (tCons (tVar 2) (tCons (tC (.int 1)) (tCons (tOp oSub (tVar 5) (tVar 1)) tNil)))))) (tRz (tMkO c.k_BadValue (sp_init_BadValue K c.k_BadValue) [] (tCons (tC (.str "size")) tNil)) (fun cls d _ H => E cls d H)) tNext)
  (tSeq (tIfS (tNot (tB (tCall (sp_is_holder K) [] E0 (tCons (tVar 3) tNil)))) (tRz (tMkO c.k_BadValue (sp_init_BadValue K c.k_BadValue) [] (tCons (tC (.str "giver")) tNil)) (fun cls d _ H => E cls d H)) tNext)
  (tSeq (tIfS (tNot (tB (tCall (sp_is_holder K) [] E0 (tCons (tVar 4) tNil)))) (tRz (tMkO c.k_BadValue (sp_init_BadValue K c.k_BadValue) [] (tCons (tC (.str "taker")) tNil)) (fun cls d _ H => E cls d H)) tNext)
  (tSeq (tIfS (tTest (tOp rEq (tVar 3) (tC (.int 0)))) (tDrop (tMeth c.k_Ground "check_fill" (sp_check_fill K c) [] E (tVar 0) (tCons (tVar 1) (tCons (tVar 2) tNil)))) tNext)
  (tSeq (tFor (iRng2 (tCons (tVar 1) (tCons (tOp oAdd (tVar 1) (tVar 2)) tNil))) (gName 6) (tDrop (tMeth c.k_Ground "check_guard" (sp_check_guard K c) [] E (tVar 0) (tCons (tVar 6) (tCons (tVar 3) tNil)))))
  (tSeq (tDrop (tMeth c.k_Ground "begin" (sp_begin K c) [] E0 (tVar 0) tNil))
  (tSeq (tFor (iRng2 (tCons (tVar 1) (tCons (tOp oAdd (tVar 1) (tVar 2)) tNil))) (gName 6) (tSeq (tAsg (tIf (tTest (tOp rEq (tVar 4) (tC (.int 0)))) (tFld K (tVar 0) "fill") (tOp (rIxL K) (tFld K (tVar 0) "cell_words") (tVar 6))) (gName 7))
  (tDrop (tMeth c.k_Ground "change_cell" (sp_change_cell K c) [] E0 (tVar 0) (tCons (tVar 6) (tCons (tVar 7) (tCons (tVar 4) tNil)))))))
  (tDrop (tMeth c.k_Ground "commit" (sp_commit K c) [] E (tVar 0) tNil)))))))))))
theorem pure_pass_on {K : PySem.W.Frag} {c : Cl} {vs : List V} {H : Hp} {Q : VK} {E : XK} (h : sp_pass_on K c vs H Q E) : t_c_Ground_pass_on K c E { nx := fun _ H' => Q .non H', rt := Q } (start N_c_Ground_pass_on vs) H := by
  obtain ⟨A, S, v1, v2, v3, v4, n1, n2, n3, n4, rfl, G, R, t1, t2, t3, t4, dl, kE, kQ⟩ := h
  have wl := G.wl
  have hl := G.hl
  have sz := G.sz
  unfold t_c_Ground_pass_on
  fold_lay
  refine i_gfld R.gk G.ob (by simp) lkf_cell_words ?_
  fold_lay
  rw [List.length_map]
  fold_depth
  refine c_whole_between t1 ?_
  fold_lay
  refine i_ifb (fun g => ?_) (fun g => ?_)
  · have g : vR 0 ((S.ws.length : Int) - 1) v1 = false := by simpa using g
    fold_lay
    exact c_bad R.bv (kE _ (by simp [badPs, g]))
  have g1 : vR 0 ((S.ws.length : Int) - 1) v1 = true := by simpa using g
  clear g
  obtain ⟨s, rfl, s0, s1⟩ := vR_i g1
  fold_lay
  fold_depth
  refine c_whole_between t2 ?_
  fold_lay
  refine i_ifb (fun g => ?_) (fun g => ?_)
  · have g : vR 1 ((S.ws.length : Int) - s) v2 = false := by simpa using g
    fold_lay
    exact c_bad R.bv (kE _ (by simp [badPs, g1, vZ, g]))
  have g2 : vR 1 ((S.ws.length : Int) - s) v2 = true := by simpa using g
  clear g
  obtain ⟨n, rfl, m0, m1⟩ := vR_i g2
  obtain ⟨n, rfl⟩ := Int.eq_ofNat_of_zero_le (show 0 ≤ n by omega)
  fold_lay
  fold_depth
  refine c_is_holder t3 ?_
  fold_lay
  refine i_ifb (fun g => ?_) (fun g => ?_)
  · have g : vH v3 = false := by simpa using g
    fold_lay
    exact c_bad R.bv (kE _ (by simp [badPs, g1, vZ, g2, g]))
  have g3 : vH v3 = true := by simpa using g
  clear g
  obtain ⟨gv, rfl, _, _⟩ := vH_i g3
  fold_lay
  fold_depth
  refine c_is_holder t4 ?_
  fold_lay
  refine i_ifb (fun g => ?_) (fun g => ?_)
  · have g : vH v4 = false := by simpa using g
    fold_lay
    exact c_bad R.bv (kE _ (by simp [badPs, g1, vZ, g2, g3, g]))
  have g4 : vH v4 = true := by simpa using g
  clear g
  obtain ⟨tk, rfl, _, _⟩ := vH_i g4
  obtain ⟨kB, kR⟩ := kQ (by simp [badPs, g1, vZ, g2, g3, g4]) s n gv tk rfl rfl rfl rfl
  fold_lay
  refine i_cut (fun σ' H' => H' = H ∧ (gv = 0 → firstP (brk S) s n = none) ∧ σ' = [some (.ref A.g), some (.int s), some (.int n), some (.int gv), some (.int tk), some (.int S.ws.length), none, none]) ?_ (fun nx key => ?_)
  rotate_left
  · fold_lay
    refine i_ifd (fun z => ?_) (fun z => ?_)
    · fold_lay
      refine i_meth G lkm_check_fill ?_
      fold_lay
      refine ⟨A, S, s, n, rfl, G, R.gk, R.eb, s0, by omega, fun q => ?_, kB z⟩
      fold_lay
      exact key _ _ ⟨rfl, fun _ => q, rfl⟩
    · fold_lay
      exact key _ _ ⟨rfl, fun q => absurd q z, rfl⟩
  rintro σ' H' ⟨rfl, g5, rfl⟩
  obtain ⟨kN, kD⟩ := kR g5
  fold_lay
  fold_depth
  refine f_rng2 (by omega) (by omega) (by omega) (by omega) ?_
  rw [show (s + (n : Int) - s).toNat = n by omega]
  refine l_rng (fun i σ1 H1 => H1 = H' ∧ (∀ j : Nat, j < i → nog S gv (s + (j : Int)) = false) ∧ ∃ y1, σ1 = [some (.ref A.g), some (.int s), some (.int n), some (.int gv), some (.int tk), some (.int S.ws.length), y1, none]) ⟨rfl, fun j hj => by omega, _, rfl⟩ ?_ ?_
  · rintro i σ1 H1 hi ⟨rfl, hlow, y1, rfl⟩
    fold_lay
    refine i_meth G lkm_check_guard ?_
    fold_lay
    refine c_check_guard G R.gk R.en (by omega) (by omega) (fun q => ?_) (fun q => kN _ (firstP_some hi (by simp [nog, q]; exact q) hlow))
    fold_lay
    refine ⟨rfl, fun j hj => ?_, _, rfl⟩
    rcases Nat.lt_or_ge j i with z | z
    · exact hlow j z
    · obtain rfl : j = i := by omega
      simp [nog]
      exact q
  rintro σ1 H1 ⟨rfl, hall, y1, rfl⟩
  have D := kD (firstP_none hall)
  fold_lay
  refine i_meth G lkm_begin ?_
  fold_lay
  refine ⟨A, S, rfl, G, R.gk, dl, fun d H2 G2 hd O2 => ?_⟩
  fold_lay
  fold_depth
  refine f_rng2 (by omega) (by omega) (by omega) (by omega) ?_
  rw [show (s + (n : Int) - s).toNat = n by omega]
  refine l_rng (fun i σ3 H3 => Gd c H3 (inA A d) (inS S (pas S s i tk)) ∧ Out (fpA A) H1 H3 ∧ ∃ y1 y2, σ3 = [some (.ref A.g), some (.int s), some (.int n), some (.int gv), some (.int tk), some (.int S.ws.length), y1, y2]) ⟨G2, O2.wide (by simp), _, _, rfl⟩ ?_ ?_
  · rintro i σ3 H3 hi ⟨G3, O3, y1, y2, rfl⟩
    have p0 : 0 ≤ s + (i : Int) := by omega
    have p1 : s + (i : Int) < S.ws.length := by omega
    have l0 : ∀ e ∈ pas S s i tk, 0 ≤ e.1 ∧ e.1 ≠ s + (i : Int) := fun e m => by
      have := pas_mem m
      omega
    have l1 : ∀ e ∈ pas S s i tk, e.1.toNat ≠ (s + (i : Int)).toNat := fun e m => by
      have := l0 e m
      omega
    kbj_are
    refine i_cut (fun σ4 H4 => H4 = H3 ∧ σ4 = [some (.ref A.g), some (.int s), some (.int n), some (.int gv), some (.int tk), some (.int S.ws.length), some (.int (s + (i : Int))), some (.int (if tk = 0 then S.fl else S.ws.getD (s + (i : Int)).toNat 0))]) ?_ (fun nx key => ?_)
    rotate_left
    · fold_lay
      refine i_ifd (fun z => ?_) (fun z => ?_)
      · fold_lay
        refine i_gfld R.gk G3.ob (by simp) lkf_fill ?_
        fold_lay
        exact key _ _ ⟨rfl, by rw [if_pos z]; rfl⟩
      · fold_lay
        refine i_gfld R.gk G3.ob (by simp) lkf_cell_words ?_
        fold_lay
        refine i_ixL (sqL G3.wl) (at_ints p0 (by rw [restW_len]; exact p1)) ?_
        fold_lay
        exact key _ _ ⟨rfl, by rw [if_neg z, restW_getD l1]; rfl⟩
    rintro σ4 H4 ⟨rfl, rfl⟩
    fold_lay
    refine i_meth (A := inA A d) G3 lkm_change_cell ?_
    fold_lay
    refine ⟨inA A d, inS S (pas S s i tk), A.dd, d, S.ds, logOf (pas S s i tk) S.ws S.hs, _, _, _, rfl, G3, R.gk, rfl, rfl, p0, by rw [restW_len]; exact p1, G3.shorts _ (by simp), fun H5 G5 O5 => ?_⟩
    fold_lay
    rw [inS_more p0 l0, ← pas_more] at G5
    refine ⟨G5, fun b u nb e => O5 b u (fun z => ?_) (O3 b u nb e), _, _, rfl⟩
    simp only [List.mem_cons, List.not_mem_nil, or_false] at z
    rcases z with z | z | z
    · exact nb (by simp [z])
    · exact nb (by simp [z])
    · rw [z, hd] at e
      cases e
  rintro σ3 H3 ⟨G3, O3, y1, y2, rfl⟩
  fold_lay
  refine i_meth (A := inA A d) G3 lkm_commit ?_
  exact commit_deed G (pas_chg s0 (by omega)) G3 O3 hd R.gk R.eu R.ec D
/-! ## Snap -/
/-! ### snapshots of a ground, and what its deeds remember -/
theorem merge_l {es : List En} : ∀ {o : List En} {x : En}, x ∈ o → x ∈ merge o es := by
  induction es with
  | nil => intro o x h; exact h
  | cons e r ih =>
    intro o x h
    show x ∈ merge (if e.1 ∈ o.map (·.1) then o else o ++ [e]) r
    refine ih ?_
    split
    · exact h
    · exact List.mem_append_left _ h
theorem merge_sub {es : List En} : ∀ {o : List En} {x : En}, x ∈ merge o es → x ∈ o ∨ x ∈ es := by
  induction es with
  | nil => intro o x h; exact .inl h
  | cons e r ih =>
    intro o x h
    have h : x ∈ merge (if e.1 ∈ o.map (·.1) then o else o ++ [e]) r := h
    rcases ih h with h | h
    · split at h
      · exact .inl h
      · rcases List.mem_append.mp h with h | h
        · exact .inl h
        · rw [List.mem_singleton.mp h]
          exact .inr List.mem_cons_self
    · exact .inr (List.mem_cons_of_mem _ h)
theorem merge_r {es : List En} : ∀ {o : List En} {x : En}, (es.map (·.1)).Nodup → x ∈ es → x.1 ∉ o.map (·.1) → x ∈ merge o es := by
  induction es with
  | nil => intro o x _ h; cases h
  | cons e r ih =>
    intro o x nd h hn
    rw [List.map_cons, List.nodup_cons] at nd
    show x ∈ merge (if e.1 ∈ o.map (·.1) then o else o ++ [e]) r
    rcases List.mem_cons.mp h with h | h
    · subst h
      rw [if_neg hn]
      exact merge_l (List.mem_append_right _ (List.mem_singleton.mpr rfl))
    · refine ih nd.2 h ?_
      have ne : x.1 ≠ e.1 := fun z => nd.1 (List.mem_map.mpr ⟨x, h, z⟩)
      split
      · exact hn
      · rw [List.map_append, List.mem_append, not_or]
        exact ⟨hn, fun z => ne (List.mem_singleton.mp z)⟩
theorem Chg.merge {n : Nat} {o es : List En} (h1 : Chg n o) (h2 : Chg n es) : Chg n (merge o es) := by
  obtain ⟨a, b⟩ := merge_ok h1.nd h1.rg h2.rg
  exact ⟨a, b⟩
theorem Chg.natN {n : Nat} {l : List En} (h : Chg n l) : (l.map fun e => e.1.toNat).Nodup := keys_nat h.nd h.rg
theorem key_eq {n : Nat} {o es : List En} (h1 : Chg n o) (h2 : Chg n es) {e : En} (he : e ∈ es) (hn : ∀ x ∈ o, x.1.toNat ≠ e.1.toNat) : e.1 ∉ o.map (·.1) := fun z => by
  obtain ⟨x, hx, q⟩ := List.mem_map.mp z
  exact hn x hx (by rw [q])
theorem restW_merge {o es : List En} {ws : List Int} (h1 : Chg ws.length o) (h2 : Chg ws.length es) : restW (merge o es) ws = restW o (restW es ws) := by
  have hm := h1.merge h2
  apply List.ext_getElem?
  intro i
  by_cases g : ∃ e ∈ o, e.1.toNat = i
  · obtain ⟨e, he, rfl⟩ := g
    have r := h1.rg e he
    rw [restW_on hm.natN (merge_l he) (by omega), restW_on h1.natN he (by rw [restW_len]; omega)]
  have g2 : ∀ e ∈ o, e.1.toNat ≠ i := fun e he z => g ⟨e, he, z⟩
  rw [restW_off g2]
  by_cases q : ∃ e ∈ es, e.1.toNat = i
  · obtain ⟨e, he, rfl⟩ := q
    have r := h2.rg e he
    rw [restW_on hm.natN (merge_r h2.nd he (key_eq h1 h2 he g2)) (by omega), restW_on h2.natN he (by omega)]
  have q2 : ∀ e ∈ es, e.1.toNat ≠ i := fun e he z => q ⟨e, he, z⟩
  rw [restW_off q2, restW_off fun e he => (merge_sub he).elim (g2 e) (q2 e)]
theorem restH_merge {o es : List En} {ws : List Int} (h1 : Chg ws.length o) (h2 : Chg ws.length es) : restH (merge o es) ws = restH o (restH es ws) := by
  have hm := h1.merge h2
  apply List.ext_getElem?
  intro i
  by_cases g : ∃ e ∈ o, e.1.toNat = i
  · obtain ⟨e, he, rfl⟩ := g
    have r := h1.rg e he
    rw [restH_on hm.natN (merge_l he) (by omega), restH_on h1.natN he (by rw [restH_len]; omega)]
  have g2 : ∀ e ∈ o, e.1.toNat ≠ i := fun e he z => g ⟨e, he, z⟩
  rw [restH_off g2]
  by_cases q : ∃ e ∈ es, e.1.toNat = i
  · obtain ⟨e, he, rfl⟩ := q
    have r := h2.rg e he
    rw [restH_on hm.natN (merge_r h2.nd he (key_eq h1 h2 he g2)) (by omega), restH_on h2.natN he (by omega)]
  have q2 : ∀ e ∈ es, e.1.toNat ≠ i := fun e he z => q ⟨e, he, z⟩
  rw [restH_off q2, restH_off fun e he => (merge_sub he).elim (g2 e) (q2 e)]
theorem Chg.log {n : Nat} {l : List En} {ws hs : List Int} (h : Chg n l) : Chg n (logOf l ws hs) := ⟨by rw [log_keys]; exact h.nd, fun e he => by
  obtain ⟨x, hx, rfl⟩ := List.mem_map.mp he
  exact h.rg x hx⟩
/-- sn: what stood at the begin of each open deed; ds: what each one remembers -/
inductive Snap : List Int → List Int → List (List En) → List (List Int × List Int) → Prop where
  | nil {ws hs : List Int} : Snap ws hs [] []
  | snoc {ws hs : List Int} {ds : List (List En)} {sn : List (List Int × List Int)} {es : List En} (r : Snap (restW es ws) (restH es hs) ds sn) : Snap ws hs (ds ++ [es]) (sn ++ [(restW es ws, restH es hs)])
theorem Snap.begin {ws hs : List Int} {ds : List (List En)} {sn : List (List Int × List Int)} (h : Snap ws hs ds sn) : Snap ws hs (ds ++ [[]]) (sn ++ [(ws, hs)]) := Snap.snoc (es := []) h
theorem Snap.none {ws hs : List Int} {ds : List (List En)} {sn : List (List Int × List Int)} (h : Snap ws hs ds sn) (e : sn = []) : ds = [] := by
  cases h with
  | nil => rfl
  | snoc r => simp at e
theorem Snap.length {ws hs : List Int} {ds : List (List En)} {sn : List (List Int × List Int)} (h : Snap ws hs ds sn) : ds.length = sn.length := by
  induction h with
  | nil => rfl
  | snoc r ih => rw [List.length_append, List.length_append, ih]; rfl
theorem Snap.top {ws hs : List Int} {ds : List (List En)} {sn : List (List Int × List Int)} {x : List Int × List Int} (h : Snap ws hs ds (sn ++ [x])) : ∃ ds0 es, ds = ds0 ++ [es] ∧ x = (restW es ws, restH es hs) ∧ Snap (restW es ws) (restH es hs) ds0 sn := by
  generalize e : sn ++ [x] = sn' at h
  cases h with
  | nil => simp at e
  | @snoc _ _ ds0 sn0 es r =>
    obtain ⟨e1, e2⟩ := List.append_inj' e rfl
    have e2 : x = (restW es ws, restH es hs) := by simpa using e2
    subst e1
    exact ⟨ds0, es, rfl, e2, r⟩
theorem Snap.last {ws hs : List Int} {ds : List (List En)} {sn : List (List Int × List Int)} {es : List En} (h : Snap ws hs (ds ++ [es]) sn) : ∃ sn0, sn = sn0 ++ [(restW es ws, restH es hs)] ∧ Snap (restW es ws) (restH es hs) ds sn0 := by
  generalize e : ds ++ [es] = ds' at h
  cases h with
  | nil => simp at e
  | @snoc _ _ ds0 sn0 es0 r =>
    obtain ⟨e1, e2⟩ := List.append_inj' e rfl
    obtain rfl : es = es0 := by simpa using e2
    subst e1
    exact ⟨sn0, rfl, r⟩
theorem Snap.len {ws hs : List Int} {ds : List (List En)} {sn : List (List Int × List Int)} (h : Snap ws hs ds sn) : ∀ x ∈ sn, x.1.length = ws.length ∧ x.2.length = hs.length := by
  induction h with
  | nil => intro x hx; cases hx
  | @snoc ws hs ds sn es r ih =>
    intro x hx
    rcases List.mem_append.mp hx with hx | hx
    · have := ih x hx
      rw [restW_len, restH_len] at this
      exact this
    · rw [List.mem_singleton.mp hx]
      exact ⟨restW_len, restH_len⟩
/-- an inner deed is kept -/
theorem Snap.joined {ws hs : List Int} {ds : List (List En)} {sn : List (List Int × List Int)} {x : List Int × List Int} {es1 es : List En} (h : Snap ws hs (ds ++ [es1] ++ [es]) (sn ++ [x])) (le : ws.length = hs.length) (h1 : Chg ws.length es1) (h2 : Chg ws.length es) : Snap ws hs (ds ++ [merge es1 es]) sn := by
  obtain ⟨ds0, es0, e0, -, r⟩ := h.top
  obtain ⟨e1, e2⟩ := List.append_inj' e0 rfl
  obtain rfl : es = es0 := by simpa using e2
  subst e1
  obtain ⟨sn0, rfl, r2⟩ := r.last
  have a := restW_merge h1 h2
  have b := restH_merge (ws := hs) (by rw [← le]; exact h1) (by rw [← le]; exact h2)
  rw [← a, ← b] at r2 ⊢
  exact .snoc r2
/-- a change within the top deed -/
theorem Snap.deed {ws hs : List Int} {ds : List (List En)} {sn : List (List Int × List Int)} {es l : List En} (h : Snap ws hs (ds ++ [es]) sn) (le : ws.length = hs.length) (h1 : Chg ws.length es) (h2 : Chg ws.length l) : Snap (restW l ws) (restH l hs) (ds ++ [merge es (logOf l ws hs)]) sn := by
  obtain ⟨sn0, rfl, r⟩ := h.last
  have a : restW (merge es (logOf l ws hs)) (restW l ws) = restW es ws := by
    rw [restW_merge (by rw [restW_len]; exact h1) (by rw [restW_len]; exact h2.log), restW_back h2]
  have b : restH (merge es (logOf l ws hs)) (restH l hs) = restH es hs := by
    rw [restH_merge (by rw [restH_len, ← le]; exact h1) (by rw [restH_len, ← le]; exact h2.log), restH_back (by rw [← le]; exact h2)]
  rw [← a, ← b] at r ⊢
  exact .snoc r
/-! ### what differs -/
def dif (ws hs w0 h0 : List Int) (k : Nat) : Bool := decide (ws.getD k 0 ≠ w0.getD k 0 ∨ hs.getD k 0 ≠ h0.getD k 0)
def diffL (ws hs w0 h0 : List Int) : List Nat := (List.range ws.length).filter (dif ws hs w0 h0)
def diffN (ws hs w0 h0 : List Int) : Nat := (diffL ws hs w0 h0).length
theorem restW_onD {l : List En} {e : En} {ws : List Int} (h : Chg ws.length l) (he : e ∈ l) : (restW l ws).getD e.1.toNat 0 = e.2.1 := by
  have r := h.rg e he
  rw [List.getD_eq_getElem?_getD, restW_on h.natN he (by omega)]
  rfl
theorem restH_onD {l : List En} {e : En} {ws : List Int} (h : Chg ws.length l) (he : e ∈ l) : (restH l ws).getD e.1.toNat 0 = e.2.2 := by
  have r := h.rg e he
  rw [List.getD_eq_getElem?_getD, restH_on h.natN he (by omega)]
  rfl
theorem cost_diff {ws hs : List Int} {es : List En} (h : Chg ws.length es) (le : ws.length = hs.length) : costOf ws hs es = diffN ws hs (restW es ws) (restH es hs) := by
  have h' : Chg hs.length es := by rw [← le]; exact h
  unfold costOf diffN diffL
  rw [← List.length_map (f := fun e : En => e.1.toNat) (as := es.filter (differs ws hs))]
  apply List.Perm.length_eq
  refine (List.perm_ext_iff_of_nodup ?_ ?_).mpr fun k => ⟨fun m => ?_, fun m => ?_⟩
  · exact h.natN.sublist (List.filter_sublist.map _)
  · exact List.nodup_range.sublist List.filter_sublist
  · obtain ⟨e, he, rfl⟩ := List.mem_map.mp m
    obtain ⟨h1, h2⟩ := List.mem_filter.mp he
    have r := h.rg e h1
    refine List.mem_filter.mpr ⟨List.mem_range.mpr (by omega), ?_⟩
    unfold dif
    rw [restW_onD h h1, restH_onD h' h1]
    exact h2
  · obtain ⟨h1, h2⟩ := List.mem_filter.mp m
    by_cases g : ∃ e ∈ es, e.1.toNat = k
    · obtain ⟨e, he, rfl⟩ := g
      refine List.mem_map.mpr ⟨e, List.mem_filter.mpr ⟨he, ?_⟩, rfl⟩
      unfold dif at h2
      rw [restW_onD h he, restH_onD h' he] at h2
      exact h2
    · have g2 : ∀ e ∈ es, e.1.toNat ≠ k := fun e he z => g ⟨e, he, z⟩
      unfold dif at h2
      rw [restW_getD g2, restH_getD g2] at h2
      simp at h2
theorem diffN_le {ws hs w0 h0 : List Int} : diffN ws hs w0 h0 ≤ ws.length := by
  have := List.length_filter_le (dif ws hs w0 h0) (List.range ws.length)
  rw [List.length_range] at this
  exact this
/-- what a deed of the changes l costs -/
theorem costL_diff {S : GS} {l : List En} (h : Chg S.ws.length l) (le : S.ws.length = S.hs.length) : costL S l = diffN (restW l S.ws) (restH l S.hs) S.ws S.hs := by
  unfold costL
  rw [cost_diff (by rw [restW_len]; exact h.log) (by rw [restW_len, restH_len]; exact le), restW_back h, restH_back (by rw [← le]; exact h)]
/-! ## Told -/
/-! ### refusals, asked under try -/
theorem i_isX {K : PySem.W.Frag} {H : Hp} {Q : VK} {a D dd C : Addr} {fs : List (Str × V)} {b : Bool} (ha : H a = some (exi a (.ref D) (some dd))) (hd : H dd = some (.xd fs)) (hD : ExcC K D) (e : PySem.W.kitOne K (.ref D) (.ref C) = some b) (q : Q (.bl b) H) : rIsX K [.ref a, .ref C] H Q :=
  ⟨a, D, dd, fs, .ref C, .ref C, b, rfl, .own C, ha, hd, hD, e, q⟩
theorem i_isXt {K : PySem.W.Frag} {H : Hp} {Q : VK} {a D dd : Addr} {t : String} {fs : List (Str × V)} {b : Bool} (ha : H a = some (exi a (.ref D) (some dd))) (hd : H dd = some (.xd fs)) (hD : ExcC K D) (e : PySem.W.kitOne K (.ref D) (.type t) = some b) (q : Q (.bl b) H) : rIsX K [.ref a, .ty t] H Q :=
  ⟨a, D, dd, fs, .ty t, .type t, b, rfl, .ty t, ha, hd, hD, e, q⟩
theorem i_xt {K : PySem.W.Frag} {σ : St} {H : Hp} {Q : VK} {f : Str} {te : TE} (h : te σ H fun x H1 => ∃ (a C dd : Addr) (fs : List (Str × V)) (v : V), x = .ref a ∧ H1 a = some (exi a (.ref C) (some dd)) ∧ XfC K C ∧ PySem.W.findIn K (.ref C) f = some none ∧ H1 dd = some (.xd fs) ∧ fs.lookup f = some v ∧ Q v H1) : tXt K f te σ H Q := h
instance s_xt {K : PySem.W.Frag} {σ : St} {H : Hp} {Q : VK} {f : Str} {te : TE} : Stp (tXt K f te σ H Q) (te σ H fun x H1 => ∃ (a C dd : Addr) (fs : List (Str × V)) (v : V), x = .ref a ∧ H1 a = some (exi a (.ref C) (some dd)) ∧ XfC K C ∧ PySem.W.findIn K (.ref C) f = some none ∧ H1 dd = some (.xd fs) ∧ fs.lookup f = some v ∧ Q v H1) := ⟨i_xt⟩
theorem i_cat {H : Hp} {Q : VK} {l b : Addr} {xs zs : List V} (h1 : H l = some (.lst xs)) (h2 : H b = some (.lst zs)) (hz : xs.length + zs.length ≤ 100000) (q : ∀ p, H p = none → Q (.ref p) (upd H p (.lst (xs ++ zs)))) : rCat (.ref l) (.ref b) H Q := ⟨l, b, xs, zs, rfl, rfl, h1, h2, sz hz, q⟩
theorem lk_told {s : V} {t : Addr} : List.lookup ("told" : Str) [("told", V.ref t), ("parameter", s)] = some (V.ref t) := by
  have e : (("told" : Str) == ("told" : Str)) = true := beq_self_eq_true _
  simp only [List.lookup, e]
theorem lk_param {s : V} {t : Addr} : List.lookup ("parameter" : Str) [("told", V.ref t), ("parameter", s)] = some s := by
  have e : (("parameter" : Str) == ("told" : Str)) = false := by decide
  have e2 : (("parameter" : Str) == ("parameter" : Str)) = true := beq_self_eq_true _
  simp only [List.lookup, e, e2]
theorem i_callS {sp : Sp} {E : St → XK} {t : TA} {σ : St} {H : Hp} {Q : VK} (h : t σ H fun vs H1 => sp vs H1 Q (E σ)) : tCallS sp E t σ H Q := h
instance s_callS {sp : Sp} {E : St → XK} {t : TA} {σ : St} {H : Hp} {Q : VK} : Stp (tCallS sp E t σ H Q) (t σ H fun vs H1 => sp vs H1 Q (E σ)) := ⟨i_callS⟩
theorem i_try {K : PySem.W.Frag} {c : Value} {i : Nat} {tb : WX → TS} {ts : TS} {Wout : WX} {D : Ends} {σ : St} {H : Hp} (h : tb (wAsT K c i ts Wout D) D σ H) : tTryT K c i tb ts Wout D σ H := h
instance s_try {K : PySem.W.Frag} {c : Value} {i : Nat} {tb : WX → TS} {ts : TS} {Wout : WX} {D : Ends} {σ : St} {H : Hp} : Stp (tTryT K c i tb ts Wout D σ H) (tb (wAsT K c i ts Wout D) D σ H) := ⟨i_try⟩
def titles : List Str := ["BadValue", "Broken", "Unknown", "NotHeld", "Fault", "NoRoom", "Cut", "BadLine"]
theorem Ats_bls {H : Hp} : ∀ l : List Bool, Ats H (l.map V.bl) (l.map Dt.bl)
  | [] => .nil
  | b :: r => .cons (.bl b) (Ats_bls r)
theorem getS {l : List Str} {i : Nat} {y : V} (hi : (l.map V.str)[i]? = some y) : ∃ z, l[i]? = some z ∧ y = V.str z := by
  rw [List.getElem?_map, Option.map_eq_some_iff] at hi
  exact hi.elim fun z h => ⟨z, h.1, h.2.symm⟩
/-- which of the ten classes an exception of class D is of -/
structure ExK (K : PySem.W.Frag) (c : Cl) (D : Addr) (k3 k4 k5 k6 k7 k8 k9 k10 : Bool) : Prop where
  ex : ExcC K D
  xf : XfC K D
  i1 : PySem.W.kitOne K (.ref D) (.ref c.k_StoreError) = some true
  i2 : PySem.W.kitOne K (.ref D) (.type "ValueError") = some true
  i3 : PySem.W.kitOne K (.ref D) (.ref c.k_BadValue) = some k3
  i4 : PySem.W.kitOne K (.ref D) (.ref c.k_Broken) = some k4
  i5 : PySem.W.kitOne K (.ref D) (.ref c.k_Unknown) = some k5
  i6 : PySem.W.kitOne K (.ref D) (.ref c.k_NotHeld) = some k6
  i7 : PySem.W.kitOne K (.ref D) (.ref c.k_Fault) = some k7
  i8 : PySem.W.kitOne K (.ref D) (.ref c.k_NoRoom) = some k8
  i9 : PySem.W.kitOne K (.ref D) (.ref c.k_Cut) = some k9
  i10 : PySem.W.kitOne K (.ref D) (.ref c.k_BadLine) = some k10
def sp_kinds (K : PySem.W.Frag) (c : Cl) : Sp := fun vs H Q _ => ∃ (e d D : Addr) (fs : List (Str × V)) (k3 k4 k5 k6 k7 k8 k9 k10 : Bool), vs = [.ref e] ∧ H e = some (exi e (.ref D) (some d)) ∧ H d = some (.xd fs) ∧ ExK K c D k3 k4 k5 k6 k7 k8 k9 k10 ∧
  ∀ p, H p = none → Q (.ref p) (upd H p (.lst ([true, true, k3, k4, k5, k6, k7, k8, k9, k10].map V.bl)))
def N_l_kinds : List Str := ["_law_error"]
def t_l_kinds (K : PySem.W.Frag) (c : Cl) : TS := (tRet (tLst (tCons (tCB (rIsX K) (tCons (tVar 0) (tCons (tC (.ref c.k_StoreError)) tNil))) (tCons (tCB (rIsX K) (tCons (tVar 0) (tCons (tC (.ty "ValueError")) tNil))) (tCons (tCB (rIsX K) (tCons (tVar 0) (tCons (tC (.ref c.k_BadValue)) tNil))) (tCons (tCB (rIsX K) (tCons (tVar 0) (tCons (tC (.ref c.k_Broken)) tNil))) (tCons (tCB (rIsX K) (tCons (tVar 0) (tCons (tC (.ref c.k_Unknown)) tNil))) (tCons (tCB (rIsX K) (tCons (tVar 0) (tCons (tC (.ref c.k_NotHeld)) tNil))) (tCons (tCB (rIsX K) (tCons (tVar 0) (tCons (tC (.ref c.k_Fault)) tNil))) (tCons (tCB (rIsX K) (tCons (tVar 0) (tCons (tC (.ref c.k_NoRoom)) tNil))) (tCons (tCB (rIsX K) (tCons (tVar 0) (tCons (tC (.ref c.k_Cut)) tNil))) (tCons (tCB (rIsX K) (tCons (tVar 0) (tCons (tC (.ref c.k_BadLine)) tNil))) tNil))))))))))))
theorem pure_kinds {K : PySem.W.Frag} {c : Cl} {vs : List V} {H : Hp} {Q : VK} {E : XK} (h : sp_kinds K c vs H Q E) : t_l_kinds K c { nx := fun _ H' => Q .non H', rt := Q } (start N_l_kinds vs) H := by
  obtain ⟨e, d, D, fs, k3, k4, k5, k6, k7, k8, k9, k10, rfl, he, hd, R, k⟩ := h
  unfold t_l_kinds
  fold_lay
  refine i_isX he hd R.ex R.i1 ?_
  fold_lay
  refine i_isXt he hd R.ex R.i2 ?_
  fold_lay
  refine i_isX he hd R.ex R.i3 ?_
  fold_lay
  refine i_isX he hd R.ex R.i4 ?_
  fold_lay
  refine i_isX he hd R.ex R.i5 ?_
  fold_lay
  refine i_isX he hd R.ex R.i6 ?_
  fold_lay
  refine i_isX he hd R.ex R.i7 ?_
  fold_lay
  refine i_isX he hd R.ex R.i8 ?_
  fold_lay
  refine i_isX he hd R.ex R.i9 ?_
  fold_lay
  refine i_isX he hd R.ex R.i10 ?_
  fold_lay
  rename_i p hp
  exact k p hp
/-- BadValue, all that is asked of it -/
structure BvK (K : PySem.W.Frag) (c : Cl) : Prop where
  bv : BvC K c.k_BadValue
  kd : ExK K c c.k_BadValue true false false false false false false false
  ht : PySem.W.exmOne K (.ref c.k_BadValue) (.ref c.k_BadValue) = some true
def yes (t : Str) : List Bool := titles.map fun s : Str => decide (s = t)
def refD2 (t : Str) (fd : Dt) : Dt := .lst [.str "refused", .tup [.str t, fd], fd, .lst (([true, true] ++ yes t).map Dt.bl)]
theorem yes_bad : yes "BadValue" = [true, false, false, false, false, false, false, false] := by decide +kernel
def sp_refused : Sp := fun vs H Q _ => ∃ (t : Str) (v : V) (fd : Dt), vs = [.str t, v] ∧ At H v fd ∧ ∀ w H', At H' w (refD2 t fd) → Same H H' → Q w H'
theorem c_refused {t : Str} {v : V} {fd : Dt} {H : Hp} {Q : VK} {E : XK} (h : At H v fd) (k : ∀ w H', At H' w (refD2 t fd) → Same H H' → Q w H') : sp_refused [.str t, v] H Q E := ⟨t, v, fd, rfl, h, k⟩
def N_l_refused : List Str := ["_law_title", "_law_fields", "_law_titles", "_law_one"]
def t_l_refused (K : PySem.W.Frag) : TS := (tSeq (tAsg (tLst (tCons (tC (.str "BadValue")) (tCons (tC (.str "Broken")) (tCons (tC (.str "Unknown")) (tCons (tC (.str "NotHeld")) (tCons (tC (.str "Fault")) (tCons (tC (.str "NoRoom")) (tCons (tC (.str "Cut")) (tCons (tC (.str "BadLine")) tNil))))))))) (gName 2))
  (tRet (tLst (tCons (tC (.str "refused")) (tCons (tTup (tCons (tVar 0) (tCons (tVar 1) tNil))) (tCons (tVar 1) (tCons (tOp rCat (tLst (tCons (tC (.bl true)) (tCons (tC (.bl true)) tNil))) (tLc (iList K (tVar 2)) (gName 3) tYes (tOp rEq (tVar 3) (tVar 0)) [3])) tNil)))))))
theorem pure_refused {K : PySem.W.Frag} {vs : List V} {H : Hp} {Q : VK} {E : XK} (h : sp_refused vs H Q E) : t_l_refused K { nx := fun _ H' => Q .non H', rt := Q } (start N_l_refused vs) H := by
  obtain ⟨t, v, fd, rfl, hv, k⟩ := h
  unfold t_l_refused
  fold_lay
  rename_i p hp q hq r hr
  have s1 : Same H (upd H p (.lst [.str "BadValue", .str "Broken", .str "Unknown", .str "NotHeld", .str "Fault", .str "NoRoom", .str "Cut", .str "BadLine"])) := same_new hp
  have s2 : Same H (upd (upd H p (.lst [.str "BadValue", .str "Broken", .str "Unknown", .str "NotHeld", .str "Fault", .str "NoRoom", .str "Cut", .str "BadLine"])) q (.tup [.str t, v])) := s1.trans (same_new hq)
  have s3 : Same H (upd (upd (upd H p (.lst [.str "BadValue", .str "Broken", .str "Unknown", .str "NotHeld", .str "Fault", .str "NoRoom", .str "Cut", .str "BadLine"])) q (.tup [.str t, v])) r (.lst [.bl true, .bl true])) := s2.trans (same_new hr)
  have hp3 : upd (upd (upd H p (.lst [.str "BadValue", .str "Broken", .str "Unknown", .str "NotHeld", .str "Fault", .str "NoRoom", .str "Cut", .str "BadLine"])) q (.tup [.str t, v])) r (.lst [.bl true, .bl true]) p = some (.lst [.str "BadValue", .str "Broken", .str "Unknown", .str "NotHeld", .str "Fault", .str "NoRoom", .str "Cut", .str "BadLine"]) := upd_keep hr (upd_keep hq upd_same)
  have hq3 : upd (upd (upd H p (.lst [.str "BadValue", .str "Broken", .str "Unknown", .str "NotHeld", .str "Fault", .str "NoRoom", .str "Cut", .str "BadLine"])) q (.tup [.str t, v])) r (.lst [.bl true, .bl true]) q = some (.tup [.str t, v]) := upd_keep hr upd_same
  have hr3 : upd (upd (upd H p (.lst [.str "BadValue", .str "Broken", .str "Unknown", .str "NotHeld", .str "Fault", .str "NoRoom", .str "Cut", .str "BadLine"])) q (.tup [.str t, v])) r (.lst [.bl true, .bl true]) r = some (.lst [.bl true, .bl true]) := upd_same
  generalize upd (upd (upd H p (.lst [.str "BadValue", .str "Broken", .str "Unknown", .str "NotHeld", .str "Fault", .str "NoRoom", .str "Cut", .str "BadLine"])) q (.tup [.str t, v])) r (.lst [.bl true, .bl true]) = H3 at s3 hp3 hq3 hr3
  have hp3 : H3 p = some (.lst (titles.map V.str)) := hp3
  refine c_lst (xs := titles.map V.str) (sqL hp3) (m_lst (xs := titles.map V.str) (fun D i H' => Same H3 H' ∧ H3 D = none ∧ H' D = some (.lst (((titles.take i).map (fun s : Str => decide (s = t))).map V.bl))) ?_ ?_ ?_ ?_)
  · exact fun D hD => ⟨same_new hD, hD, upd_same⟩
  · exact fun D i H' _ h => sqL (h.1 _ _ hp3)
  · rintro D i x H' hx ⟨a1, a2, a3⟩
    obtain ⟨z, hz, rfl⟩ := getS hx
    fold_lay
    refine ⟨rfl, ?_⟩
    fold_lay
    refine ⟨_, a3, szl (by have : titles.length = 8 := rfl; simp; omega), ?_, a2, ?_⟩
    · exact fun b o e => upd_off (ne_of_none e a2) (a1 b o e)
    · rw [upd_same, take_more hz, List.map_append, List.map_append]
      rfl
  · rintro D H' ⟨a1, a2, a3⟩
    rw [List.length_map, List.take_length] at a3
    refine i_cat (a1 _ _ hr3) a3 (by have : titles.length = 8 := rfl; simp; omega) fun l hl => ?_
    fold_lay
    rename_i m hm
    have s5 := (a1.trans (same_new (o := .lst ([.bl true, .bl true] ++ (titles.map (fun s : Str => decide (s = t))).map V.bl)) hl)).trans (same_new (o := .lst [.str "refused", .ref q, v, .ref l]) hm)
    refine k _ _ (.lst upd_same (.cons (.str _) (.cons (.tup (s5 _ _ hq3) (.cons (.str _) (.cons (hv.mono (s3.trans s5)) .nil))) (.cons (hv.mono (s3.trans s5)) (.cons (.lst (upd_keep hm upd_same) ?_) .nil))))) (s3.trans s5)
    have := Ats_bls (H := upd (upd H' l (.lst ([.bl true, .bl true] ++ (titles.map (fun s : Str => decide (s = t))).map V.bl))) m (.lst [.str "refused", .ref q, v, .ref l])) ([true, true] ++ yes t)
    rw [List.map_append] at this
    exact this
/-! ## Seq -/
/-! ### for over what may be a list or a tuple -/
def iSeq (K : PySem.W.Frag) (tl : TE) : TI := fun σ H R => tl σ H fun x H1 => ∃ a, x = .ref a ∧ (((∃ xs, SqL K H1 a xs) ∧ R (Itl K a) H1) ∨ ((∃ xs, SqT K H1 a xs) ∧ R (Itt K a) H1))
/-- a fresh walk at the heap's end -/
theorem fresh_fp {X : Cx} {pins : List (Addr × Obj)} {σ : St} {H : Hp} {g : Shared} (J : Inv X pins σ H g) : ∀ b ∈ [g.heap.objs.size], FpOk X pins H b := fun b hb => by
  rw [List.mem_singleton.mp hb]
  exact J.fpOk (Nat.le_refl _) (J.hok.fresh (Nat.le_refl _))
theorem pi_seq {X : Cx} {tg l : Expr} {tl : TE} (hl : PE X l tl) : PI X tg l (iSeq X.K tl) := by
  constructor
  intro pins g σ H R J h
  refine thn (hl.run pins g σ H _ J h) fun u g1 z => ?_
  obtain ⟨y, G, J1, ry, a, ey, q⟩ := z
  subst ey
  obtain rfl : u = .ref a := ry
  rcases q with ⟨⟨xs, hx⟩, q⟩ | ⟨⟨xs, hx⟩, q⟩
  · obtain ⟨its, _, at1, _⟩ := J1.list hx
    refine wpAny_pyIter_list at1.isList ⟨_, _, _, _, G, rfl, ?_, turn_list a _, ⟨_, Heap.get?_push_size _ rfl, rfl, rfl⟩, fun b hb => ?_, q⟩
    · exact J1.kept (t' := g1.toks) fun b o e => Heap.get?_push_of_some _ e
    · exact fresh_fp J1 b hb
  · obtain ⟨its, _, at1, _⟩ := J1.tuple hx
    have at2 : g1.heap.IsTuple a its.toArray := at1
    refine wpAny_pyIter_tuple at2 ⟨_, _, _, _, G, rfl, ?_, turn_tuple a _, ⟨_, Heap.get?_push_size _ rfl, rfl, rfl⟩, fun b hb => ?_, q⟩
    · exact J1.kept (t' := g1.toks) fun b o e => Heap.get?_push_of_some _ e
    · exact fresh_fp J1 b hb
instance s_forS {K : PySem.W.Frag} {σ : St} {H : Hp} {D : Ends} {g : TG} {tb : TS} {tl : TE} : Stp (tFor (iSeq K tl) g tb D σ H) (tl σ H fun x H1 => ∃ a, x = .ref a ∧ (((∃ xs, SqL K H1 a xs) ∧ ForW (Itl K a) g tb D σ H1) ∨ ((∃ xs, SqT K H1 a xs) ∧ ForW (Itt K a) g tb D σ H1))) := ⟨fun h => h⟩
/-! ## Data2 -/
/-! ### rows of ints -/
theorem at_isI {H : Hp} {v : V} {d : Dt} (h : At H v d) : vI v = d.isI := by
  cases h <;> rfl
def isInts (l : Bool) (n : Int) : Dt → Bool
  | .lst ds => l && ((decide (n < 0) || decide ((ds.length : Int) = n)) && ds.all Dt.isI)
  | .tup ds => !l && ((decide (n < 0) || decide ((ds.length : Int) = n)) && ds.all Dt.isI)
  | _ => false
def sp_is_ints (K : PySem.W.Frag) : Sp := fun vs H Q _ => ∃ (v : V) (l : Bool) (n : Int) (d : Dt), vs = [v, .bl l, .int n] ∧ At H v d ∧ Q (.bl (isInts l n d)) H
theorem c_is_ints {K : PySem.W.Frag} {v : V} {l : Bool} {n : Int} {d : Dt} {H : Hp} {Q : VK} {E : XK} (h : At H v d) (q : Q (.bl (isInts l n d)) H) : sp_is_ints K [v, .bl l, .int n] H Q E := ⟨v, l, n, d, rfl, h, q⟩
def N_l_is_ints : List Str := ["_law_value", "_law_listed", "_law_many", "_law_one"]
def t_l_is_ints (K : PySem.W.Frag) : TS := (tSeq (tIfS (tOr (tAnd (tB (tVar 1)) (tNot (tB (tCB (rIsi K) (tCons (tVar 0) (tCons (tC (.ty "list")) tNil)))))) (tAnd (tNot (tB (tVar 1))) (tNot (tB (tCB (rIsi K) (tCons (tVar 0) (tCons (tC (.ty "tuple")) tNil))))))) (tRet (tC (.bl false))) tNext)
  (tSeq (tIfS (tAnd (tTest (tOp oGe (tVar 2) (tC (.int 0)))) (tTest (tOp rNe (tCB (rLen K) (tCons (tVar 0) tNil)) (tVar 2)))) (tRet (tC (.bl false))) tNext)
  (tSeq (tFor (iSeq K (tVar 0)) (gName 3) (tIfS (tNot (tB (tCall (sp_is_int K) [] E0 (tCons (tVar 3) tNil)))) (tRet (tC (.bl false))) tNext))
  (tRet (tC (.bl true))))))
theorem ints_row {K : PySem.W.Frag} {H : Hp} {Q : VK} {xs : List V} {ds : List Dt} {J : It} {nx bk ct : St → Hp → Prop} {σ0 : List (Option V)} {x0 : Option V} (hJ : ∀ (Pv : Nat → St → Hp → Prop), Pv 0 (σ0 ++ [x0]) H → (∀ i σ' H', Pv i σ' H' → H' = H) → (∀ i x σ' H', xs[i]? = some x → Pv i σ' H' → gName 3 x σ' H' fun σ2 H2 => tIfS (tNot (tB (tCall (sp_is_int K) [] E0 (tCons (tVar 3) tNil)))) (tRet (tC (.bl false))) tNext ⟨Pv (i + 1), Q, nx, Pv (i + 1)⟩ σ2 H2) → (∀ σ' H', Pv xs.length σ' H' → nx σ' H') → ForW J (gName 3) (tIfS (tNot (tB (tCall (sp_is_int K) [] E0 (tCons (tVar 3) tNil)))) (tRet (tC (.bl false))) tNext) ⟨nx, Q, bk, ct⟩ (σ0 ++ [x0]) H)
    (h0 : σ0.length = 3) (h : Ats H xs ds) (k1 : ds.all Dt.isI = true → ∀ σ', nx σ' H) (k2 : ds.all Dt.isI = false → Q (.bl false) H) : ForW J (gName 3) (tIfS (tNot (tB (tCall (sp_is_int K) [] E0 (tCons (tVar 3) tNil)))) (tRet (tC (.bl false))) tNext) ⟨nx, Q, bk, ct⟩ (σ0 ++ [x0]) H := by
  match σ0, h0 with
  | [a1, a2, a3], _ =>
    refine hJ (fun i σ' H' => H' = H ∧ (ds.take i).all Dt.isI = true ∧ ∃ y, σ' = [a1, a2, a3] ++ [y]) ⟨rfl, rfl, x0, rfl⟩ (fun i σ' H' h => h.1) ?_ ?_
    · rintro i x σ' H' hx ⟨rfl, ht, y, rfl⟩
      have hi := (List.getElem?_eq_some_iff.mp hx).1
      have hl := h.length
      obtain ⟨d, hd⟩ : ∃ d, ds[i]? = some d := ⟨_, List.getElem?_eq_getElem (by omega)⟩
      obtain ⟨va, ea, ha⟩ := h.get hd
      rw [hx] at ea
      obtain rfl : x = va := Option.some.inj ea
      fold_lay
      refine c_is_int ha.ty ?_
      rw [at_isI ha]
      fold_lay
      refine i_ifb (fun z => ?_) (fun z => ?_)
      · fold_lay
        refine k2 ?_
        rw [← Bool.not_eq_true]
        intro w
        have := List.all_eq_true.mp w d (List.mem_of_getElem? hd)
        rw [this] at z
        cases z
      · fold_lay
        refine ⟨rfl, ?_, _, rfl⟩
        rw [take_more hd, List.all_append, ht]
        simpa using z
    · rintro σ' H' ⟨rfl, ht, y, rfl⟩
      rw [h.length, List.take_length] at ht
      exact k1 ht _
theorem pure_is_ints {K : PySem.W.Frag} {vs : List V} {H : Hp} {Q : VK} {E : XK} (h : sp_is_ints K vs H Q E) : t_l_is_ints K { nx := fun _ H' => Q .non H', rt := Q } (start N_l_is_ints vs) H := by
  obtain ⟨v, l, n, d, rfl, h1, k⟩ := h
  unfold t_l_is_ints
  have t1 := h1.ty
  cases h1 with
  | non => simp only [Dt.ty] at t1; cases l <;> kbj_rows <;> exact k
  | bl b => simp only [Dt.ty] at t1; cases l <;> kbj_rows <;> exact k
  | int i => simp only [Dt.ty] at t1; cases l <;> kbj_rows <;> exact k
  | str x => simp only [Dt.ty] at t1; cases l <;> kbj_rows <;> exact k
  | dic ea ha => simp only [Dt.ty] at t1; cases l <;> kbj_rows <;> exact k
  | @lst a xs ds ea ha =>
    simp only [Dt.ty] at t1
    have hl := ha.length
    cases l
    · kbj_rows; exact k
    fold_depth
    refine i_cut (fun σ' H' => H' = H ∧ (decide (n < 0) || decide ((ds.length : Int) = n)) = true ∧ σ' = [some (.ref a), some (.bl true), some (.int n), none]) ?_ (fun nx key => ?_)
    · rintro σ' H' ⟨rfl, hc, rfl⟩
      fold_depth
      refine ⟨a, rfl, .inl ⟨⟨_, sqL ea⟩, ?_⟩⟩
      refine ints_row (σ0 := [some (.ref a), some (.bl true), some (.int n)]) (fun Pv p0 pe ps pd => l_lst (xs := xs) Pv p0 (fun i σ' H' _ h => sqL (by rw [pe i σ' H' h]; exact ea)) ps pd) rfl ha (fun w σ' => ?_) (fun w => ?_)
      · fold_lay
        simpa [isInts, hc, w] using k
      · simpa [isInts, hc, w] using k
    · fold_lay
      refine i_ifd (fun h1 => ?_) (fun h1 => ?_)
      · fold_lay
        refine i_ifn (fun h2 => ?_) (fun h2 => ?_)
        · fold_lay
          have : (decide (n < 0) || decide ((ds.length : Int) = n)) = false := by simp; omega
          simpa [isInts, this] using k
        · fold_lay
          exact key _ _ ⟨rfl, by simp; omega, rfl⟩
      · fold_lay
        exact key _ _ ⟨rfl, by simp; omega, rfl⟩
  | @tup a xs ds ea ha =>
    simp only [Dt.ty] at t1
    have hl := ha.length
    cases l
    rotate_left
    · kbj_rows; exact k
    fold_depth
    refine i_cut (fun σ' H' => H' = H ∧ (decide (n < 0) || decide ((ds.length : Int) = n)) = true ∧ σ' = [some (.ref a), some (.bl false), some (.int n), none]) ?_ (fun nx key => ?_)
    · rintro σ' H' ⟨rfl, hc, rfl⟩
      fold_depth
      refine ⟨a, rfl, .inr ⟨⟨_, sqT ea⟩, ?_⟩⟩
      refine ints_row (σ0 := [some (.ref a), some (.bl false), some (.int n)]) (fun Pv p0 pe ps pd => l_tup (xs := xs) Pv p0 (fun i σ' H' _ h => sqT (by rw [pe i σ' H' h]; exact ea)) ps pd) rfl ha (fun w σ' => ?_) (fun w => ?_)
      · fold_lay
        simpa [isInts, hc, w] using k
      · simpa [isInts, hc, w] using k
    · fold_lay
      refine i_ifd (fun h1 => ?_) (fun h1 => ?_)
      · fold_lay
        refine i_ifn (fun h2 => ?_) (fun h2 => ?_)
        · fold_lay
          have : (decide (n < 0) || decide ((ds.length : Int) = n)) = false := by simp; omega
          simpa [isInts, this] using k
        · fold_lay
          exact key _ _ ⟨rfl, by simp; omega, rfl⟩
      · fold_lay
        exact key _ _ ⟨rfl, by simp; omega, rfl⟩
/-! ## Told3 -/
/-! ### refusals told -/
structure BvU (K : PySem.W.Frag) (c : Cl) : Prop where
  bv : BvC K c.k_BadValue
  ex : ExcC K c.k_BadValue
  xf : XfC K c.k_BadValue
  i1 : PySem.W.kitOne K (.ref c.k_BadValue) (.ref c.k_StoreError) = some true
  i2 : PySem.W.kitOne K (.ref c.k_BadValue) (.type "ValueError") = some true
  i3 : PySem.W.kitOne K (.ref c.k_BadValue) (.ref c.k_Unknown) = some false
  ht : PySem.W.exmOne K (.ref c.k_BadValue) (.ref c.k_BadValue) = some true
def dueD (t : Str) : Dt := .tup [.str "BadValue", .str t, .tup [.str "BadValue", .tup [.str t]], .tup [.bl true, .bl true, .bl false]]
/-- the except suite of the refusals -/
def tTold (K : PySem.W.Frag) (c : Cl) (i j : Nat) : TS := tSeq (tAsg (tTup (tCons (tCB (rIsX K) (tCons (tVar i) (tCons (tC (.ref c.k_StoreError)) tNil))) (tCons (tCB (rIsX K) (tCons (tVar i) (tCons (tC (.ty "ValueError")) tNil))) (tCons (tCB (rIsX K) (tCons (tVar i) (tCons (tC (.ref c.k_Unknown)) tNil))) tNil)))) (gName j))
  (tRet (tTup (tCons (tC (.str "BadValue")) (tCons (tXt K "parameter" (tVar i)) (tCons (tXt K "told" (tVar i)) (tCons (tVar j) tNil))))))
theorem told25 {K : PySem.W.Frag} {c : Cl} {a0 a1 : Option V} {H : Hp} {t : Str} {d : Addr} {nx bk ct : St → Hp → Prop} {rt : VK} {e : Addr} (R : BvU K c) (he : H e = none) (hB : BadAt H d (.str t)) (k : ∀ v H', At H' v (dueD t) → Same H H' → rt v H') :
    tTold K c 2 3 ⟨nx, rt, bk, ct⟩ [a0, a1, some (.ref e), none] (upd H e (exi e (.ref c.k_BadValue) (some d))) := by
  obtain ⟨u1, u2, g1, g2, g3⟩ := hB
  have he1 : upd H e (exi e (.ref c.k_BadValue) (some d)) e = some (exi e (.ref c.k_BadValue) (some d)) := upd_same
  have hd1 := upd_keep (o := exi e (.ref c.k_BadValue) (some d)) he g1
  unfold tTold
  fold_lay
  refine i_isX he1 hd1 R.ex R.i1 ?_
  fold_lay
  refine i_isXt he1 hd1 R.ex R.i2 ?_
  fold_lay
  refine i_isX he1 hd1 R.ex R.i3 ?_
  fold_lay
  rename_i p hp
  refine ⟨e, c.k_BadValue, d, _, .str t, rfl, upd_keep hp he1, R.xf, R.bv.np, upd_keep hp hd1, lk_param, ?_⟩
  fold_lay
  refine ⟨e, c.k_BadValue, d, _, .ref u2, rfl, upd_keep hp he1, R.xf, R.bv.nt, upd_keep hp hd1, lk_told, ?_⟩
  fold_lay
  rename_i q hq
  have s1 := ((same_new (o := exi e (.ref c.k_BadValue) (some d)) he).trans (same_new (o := .tup [.bl true, .bl true, .bl false]) hp)).trans (same_new (o := .tup [.str "BadValue", .str t, .ref u2, .ref p]) hq)
  exact k _ _ (.tup upd_same (.cons (.str _) (.cons (.str _) (.cons (.tup (s1 _ _ g2) (.cons (.str _) (.cons (.tup (s1 _ _ g3) (.cons (.str _) .nil)) .nil))) (.cons (.tup (upd_keep hq upd_same) (.cons (.bl _) (.cons (.bl _) (.cons (.bl _) .nil)))) .nil))))) s1
/-! ## Told4 -/
/-! ### the except suite that tells a refusal as a row -/
def tRefu (K : PySem.W.Frag) (c : Cl) (i : Nat) : TS := tRet (tLst (tCons (tC (.str "refused")) (tCons (tXt K "told" (tVar i)) (tCons (tTup (tCons (tXt K "parameter" (tVar i)) tNil)) (tCons (tCall (sp_kinds K c) [] E0 (tCons (tVar i) tNil)) tNil)))))
theorem refu {K : PySem.W.Frag} {c : Cl} {i : Nat} {σ : St} {H : Hp} {t : Str} {d e : Addr} {nx bk ct : St → Hp → Prop} {rt : VK} (R : BvK K c) (hσ : σ[i]? = some (some (.ref e))) (he : H e = none) (hB : BadAt H d (.str t)) (k : ∀ v H', At H' v (refD2 "BadValue" (.tup [.str t])) → Same H H' → rt v H') :
    tRefu K c i ⟨nx, rt, bk, ct⟩ σ (upd H e (exi e (.ref c.k_BadValue) (some d))) := by
  obtain ⟨u1, u2, g1, g2, g3⟩ := hB
  unfold tRefu
  fold_lay
  refine i_var hσ ?_
  refine ⟨e, c.k_BadValue, d, _, .ref u2, rfl, upd_same, R.kd.xf, R.bv.nt, upd_keep he g1, lk_told, ?_⟩
  fold_lay
  refine i_var hσ ?_
  refine ⟨e, c.k_BadValue, d, _, .str t, rfl, upd_same, R.kd.xf, R.bv.np, upd_keep he g1, lk_param, ?_⟩
  fold_lay
  rename_i p hp
  refine i_var hσ ?_
  fold_lay
  refine ⟨e, d, c.k_BadValue, _, true, false, false, false, false, false, false, false, rfl, upd_keep hp upd_same, upd_keep hp (upd_keep he g1), R.kd, fun q hq => ?_⟩
  fold_lay
  rename_i r hr
  refine k _ _ (.lst upd_same (.cons (.str _) (.cons (.tup (by kct_strs) (.cons (.str _) (.cons (.tup (by kct_strs) (.cons (.str _) .nil)) .nil))) (.cons (.tup (by kct_strs) (.cons (.str _) .nil)) (.cons (.lst (by kct_strs) ?_) .nil))))) (by mem_news)
  rw [yes_bad]
  exact Ats_bls _
/-! ## K12a -/
/-! ### k12: what is drawn for a deed -/
def hold24 : List Int := [1, 2, 3, 4, 5, 6, 7, 8, 11, 12, 13, 14, 15, 16, 17, 18, 21, 22, 23, 24, 25, 26, 27, 28]
def sp_holders : Sp := fun vs H Q _ => vs = [] ∧ ∀ l H', H l = none → H' l = some (.lst (hold24.map V.int)) → Same H H' → Q (.ref l) H'
theorem c_holders {H : Hp} {Q : VK} {E : XK} (h : ∀ l H', H l = none → H' l = some (.lst (hold24.map V.int)) → Same H H' → Q (.ref l) H') : sp_holders [] H Q E := ⟨rfl, h⟩
theorem i_lstRg {a b : Int} {σ : St} {H : Hp} {Q : VK} (h : RgOk a b) (k : ∀ q, H q = none → Q (.ref q) (upd H q (.lst (rgV a b)))) : tLstRg (tRg2 (tC (.int a)) (tC (.int b))) σ H Q := ⟨a, b, rfl, rfl, h, k⟩
def N_l_holders : List Str := []
def t_l_holders (K : PySem.W.Frag) : TS := (tRet (tOp rCat (tOp rCat (tLstRg (tRg2 (tC (.int 1)) (tC (.int 9)))) (tLstRg (tRg2 (tC (.int 11)) (tC (.int 19))))) (tLstRg (tRg2 (tC (.int 21)) (tC (.int 29))))))
theorem pure_holders {K : PySem.W.Frag} {vs : List V} {H : Hp} {Q : VK} {E : XK} (h : sp_holders vs H Q E) : t_l_holders K { nx := fun _ H' => Q .non H', rt := Q } (start N_l_holders vs) H := by
  obtain ⟨rfl, k⟩ := h
  unfold t_l_holders
  fold_lay
  refine i_lstRg (by unfold RgOk; decide) fun q1 h1 => ?_
  refine i_lstRg (by unfold RgOk; decide) fun q2 h2 => ?_
  refine i_cat (upd_keep h2 upd_same) upd_same (by simp [rgV]) fun q3 h3 => ?_
  refine i_lstRg (by unfold RgOk; decide) fun q4 h4 => ?_
  refine i_cat (upd_keep h4 upd_same) upd_same (by simp [rgV]) fun q5 h5 => ?_
  fold_lay
  refine k _ _ ?_ ?_ ?_
  · nest_room
  · rw [upd_same]
    rfl
  · exact ((((same_new h1).trans (same_new h2)).trans (same_new h3)).trans (same_new h4)).trans (same_new h5)
def sp_holder (K : PySem.W.Frag) : Sp := fun vs H Q _ => ∃ d s, vs = [.ref d] ∧ Dr d s H ∧ ∀ v H', (v = 0 ∨ v ∈ hold24) → Dr d s H' → Same (hid s H) (hid s H') → Q (.int v) H'
theorem c_holder {K : PySem.W.Frag} {d s : Addr} {H : Hp} {Q : VK} {E : XK} (hD : Dr d s H) (h : ∀ v H', (v = 0 ∨ v ∈ hold24) → Dr d s H' → Same (hid s H) (hid s H') → Q (.int v) H') : sp_holder K [.ref d] H Q E := ⟨d, s, rfl, hD, h⟩
def N_l_holder : List Str := ["_law_draws_here"]
def t_l_holder (K : PySem.W.Frag) : TS := (tSeq (tIfS (tTest (tOp rEq (tCall sp_take [] E0 (tCons (tVar 0) (tCons (tC (.int 4)) tNil))) (tC (.int 0)))) (tRet (tC (.int 0))) tNext)
  (tRet (tCall (sp_among K) [] E0 (tCons (tVar 0) (tCons (tCall sp_holders [] E0 tNil) tNil)))))
theorem pure_holder {K : PySem.W.Frag} {vs : List V} {H : Hp} {Q : VK} {E : XK} (h : sp_holder K vs H Q E) : t_l_holder K { nx := fun _ H' => Q .non H', rt := Q } (start N_l_holder vs) H := by
  obtain ⟨d, s, rfl, hD, k⟩ := h
  unfold t_l_holder
  fold_depth
  refine c_take hD (by omega) fun v H1 v0 v1 hD1 s1 => ?_
  fold_lay
  refine i_ifd (fun z => ?_) (fun z => ?_)
  · fold_lay
    exact k _ _ (.inl rfl) hD1 s1
  · fold_lay
    refine c_holders fun l H2 e1 e2 s2 => ?_
    fold_lay
    refine c_among (hD1.same s2) e2 (hD1.ne e1) (by simp [hold24]) (by simp [hold24]) fun w H3 hw hD3 s3 => ?_
    obtain ⟨i, hi, rfl⟩ := List.mem_map.mp hw
    exact k _ _ (.inr hi) hD3 (by mem_news)
/-- a word -/
abbrev isWd (w : Int) : Prop := 0 ≤ w ∧ w ≤ 65535
def sp_word (K : PySem.W.Frag) : Sp := fun vs H Q _ => ∃ d s b, vs = [.ref d, .int b] ∧ Dr d s H ∧ isWd b ∧ ∀ v H', isWd v → Dr d s H' → Same (hid s H) (hid s H') → Q (.int v) H'
theorem c_word {K : PySem.W.Frag} {d s : Addr} {b : Int} {H : Hp} {Q : VK} {E : XK} (hD : Dr d s H) (hb : isWd b) (h : ∀ v H', isWd v → Dr d s H' → Same (hid s H) (hid s H') → Q (.int v) H') : sp_word K [.ref d, .int b] H Q E := ⟨d, s, b, rfl, hD, hb, h⟩
def N_l_word : List Str := ["_law_draws_here", "_law_blank_here", "_law_kind"]
def t_l_word (K : PySem.W.Frag) : TS := (tSeq (tAsg (tCall sp_take [] E0 (tCons (tVar 0) (tCons (tC (.int 10)) tNil))) (gName 2))
  (tSeq (tIfS (tTest (tOp oLt (tVar 2) (tC (.int 7)))) (tRet (tOp (rIxL K) (tLst (tCons (tVar 1) (tCons (tC (.int 0)) (tCons (tC (.int 65535)) (tCons (tC (.int 60001)) (tCons (tC (.int 60002)) (tCons (tC (.int 4711)) (tCons (tOp oMod (tCB rInt1 (tCons (tOp oAdd (tVar 1) (tC (.int 1))) tNil)) (tC (.int 65536))) tNil)))))))) (tVar 2))) tNext)
  (tSeq (tIfS (tTest (tOp rEq (tVar 2) (tC (.int 7)))) (tRet (tCall sp_take [] E0 (tCons (tVar 0) (tCons (tC (.int 12)) tNil)))) tNext)
  (tRet (tCall sp_take [] E0 (tCons (tVar 0) (tCons (tC (.int 65536)) tNil)))))))
theorem pure_word {K : PySem.W.Frag} {vs : List V} {H : Hp} {Q : VK} {E : XK} (h : sp_word K vs H Q E) : t_l_word K { nx := fun _ H' => Q .non H', rt := Q } (start N_l_word vs) H := by
  obtain ⟨d, s, b, rfl, hD, ⟨b0, b1⟩, k⟩ := h
  unfold t_l_word
  fold_lay
  refine c_take hD (by omega) fun v H1 v0 v1 hD1 s1 => ?_
  fold_lay
  fold_depth
  refine i_ifd (fun z => ?_) (fun z => ?_)
  · have e : v = 0 ∨ v = 1 ∨ v = 2 ∨ v = 3 ∨ v = 4 ∨ v = 5 ∨ v = 6 := by omega
    rcases e with rfl | rfl | rfl | rfl | rfl | rfl | rfl <;> fold_lay
    all_goals exact k _ _ ⟨by omega, by omega⟩ (by leaf_len) (by mem_news)
  · fold_lay
    fold_depth
    refine i_ifd (fun z => ?_) (fun z => ?_)
    · fold_lay
      refine c_take hD1 (by omega) fun w H2 w0 w1 hD2 s2 => ?_
      exact k _ _ ⟨w0, by omega⟩ hD2 (by mem_news)
    · fold_lay
      refine c_take hD1 (by omega) fun w H2 w0 w1 hD2 s2 => ?_
      exact k _ _ ⟨w0, by omega⟩ hD2 (by mem_news)
def sp_blank (K : PySem.W.Frag) : Sp := fun vs H Q _ => ∃ d s, vs = [.ref d] ∧ Dr d s H ∧ ∀ v H', isWd v → Dr d s H' → Same (hid s H) (hid s H') → Q (.int v) H'
theorem c_blank {K : PySem.W.Frag} {d s : Addr} {H : Hp} {Q : VK} {E : XK} (hD : Dr d s H) (h : ∀ v H', isWd v → Dr d s H' → Same (hid s H) (hid s H') → Q (.int v) H') : sp_blank K [.ref d] H Q E := ⟨d, s, rfl, hD, h⟩
def N_l_blank : List Str := ["_law_draws_here", "_law_kind"]
def t_l_blank (K : PySem.W.Frag) : TS := (tSeq (tAsg (tCall sp_take [] E0 (tCons (tVar 0) (tCons (tC (.int 10)) tNil))) (gName 1))
  (tSeq (tIfS (tTest (tOp oLt (tVar 1) (tC (.int 7)))) (tRet (tOp (rIxL K) (tLst (tCons (tC (.int 0)) (tCons (tC (.int 0)) (tCons (tC (.int 65535)) (tCons (tC (.int 1)) (tCons (tC (.int 60001)) (tCons (tC (.int 60002)) (tCons (tC (.int 4711)) tNil)))))))) (tVar 1))) tNext)
  (tSeq (tIfS (tTest (tOp rEq (tVar 1) (tC (.int 7)))) (tRet (tCall sp_take [] E0 (tCons (tVar 0) (tCons (tC (.int 40)) tNil)))) tNext)
  (tRet (tCall sp_take [] E0 (tCons (tVar 0) (tCons (tC (.int 65536)) tNil)))))))
theorem pure_blank {K : PySem.W.Frag} {vs : List V} {H : Hp} {Q : VK} {E : XK} (h : sp_blank K vs H Q E) : t_l_blank K { nx := fun _ H' => Q .non H', rt := Q } (start N_l_blank vs) H := by
  obtain ⟨d, s, rfl, hD, k⟩ := h
  unfold t_l_blank
  fold_lay
  refine c_take hD (by omega) fun v H1 v0 v1 hD1 s1 => ?_
  fold_lay
  fold_depth
  refine i_ifd (fun z => ?_) (fun z => ?_)
  · have e : v = 0 ∨ v = 1 ∨ v = 2 ∨ v = 3 ∨ v = 4 ∨ v = 5 ∨ v = 6 := by omega
    rcases e with rfl | rfl | rfl | rfl | rfl | rfl | rfl <;> fold_lay
    all_goals exact k _ _ ⟨by omega, by omega⟩ (by leaf_len) (by mem_news)
  · fold_lay
    fold_depth
    refine i_ifd (fun z => ?_) (fun z => ?_)
    · fold_lay
      refine c_take hD1 (by omega) fun w H2 w0 w1 hD2 s2 => ?_
      exact k _ _ ⟨w0, by omega⟩ hD2 (by mem_news)
    · fold_lay
      refine c_take hD1 (by omega) fun w H2 w0 w1 hD2 s2 => ?_
      exact k _ _ ⟨w0, by omega⟩ hD2 (by mem_news)
/-! ## K12b -/
/-! ### k12: a deed is drawn -/
inductive Deed where
  | wr (p w h : Int)
  | pk (p w : Int)
  | ps (s : Int) (n : Nat) (g t : Int)
def Deed.vs : Deed → List V
  | .wr p w h => [.str "write", .int p, .int w, .int h]
  | .pk p w => [.str "poke", .int p, .int w]
  | .ps s n g t => [.str "pass_on", .int s, .int n, .int g, .int t]
/-- a holder, a word -/
abbrev isHd (h : Int) : Prop := vH (.int h) = true
def Deed.Ok (n : Nat) : Deed → Prop
  | .wr p w h => 0 ≤ p ∧ p < n ∧ isWd w ∧ isHd h ∧ h ≠ 0
  | .pk p w => 0 ≤ p ∧ p < n ∧ isWd w
  | .ps s m g t => 0 ≤ s ∧ 1 ≤ m ∧ s + (m : Int) ≤ n ∧ isHd g ∧ isHd t
theorem hold24_hd : ∀ h ∈ hold24, isHd h ∧ h ≠ 0 := by decide
theorem hd0 {v : Int} (h : v = 0 ∨ v ∈ hold24) : isHd v := by
  rcases h with rfl | h
  · decide
  · exact (hold24_hd v h).1
def sp_ground_deed (K : PySem.W.Frag) : Sp := fun vs H Q _ => ∃ (d s w h : Addr) (ws hs : List Int) (b : Int), vs = [.ref d, .ref w, .ref h, .int b] ∧ Dr d s H ∧ H w = some (.lst (ws.map V.int)) ∧ H h = some (.lst (hs.map V.int)) ∧ w ≠ s ∧ h ≠ s ∧ ws.length = hs.length ∧ 0 < ws.length ∧ ws.length ≤ 20000 ∧ isWd b ∧ (∀ i ∈ hs, isHd i) ∧
  ∀ a D H', H' a = some (.tup (Deed.vs D)) → H a = none → D.Ok ws.length → Dr d s H' → Same (hid s H) (hid s H') → Q (.ref a) H'
def N_l_ground_deed : List Str := ["_law_draws_here", "_law_words", "_law_holders_here", "_law_blank_here", "_law_at", "_law_holder_here", "_law_kind", "_law_size"]
def t_l_ground_deed (K : PySem.W.Frag) : TS := (tSeq (tAsg (tCall sp_between [] E0 (tCons (tVar 0) (tCons (tC (.int 0)) (tCons (tOp oSub (tCB (rLen K) (tCons (tVar 1) tNil)) (tC (.int 1))) tNil)))) (gName 4))
  (tSeq (tAsg (tOp (rIxL K) (tVar 2) (tVar 4)) (gName 5))
  (tSeq (tAsg (tCall sp_take [] E0 (tCons (tVar 0) (tCons (tC (.int 10)) tNil))) (gName 6))
  (tSeq (tIfS (tTest (tOp oLt (tVar 6) (tC (.int 3)))) (tSeq (tIfS (tOr (tTest (tOp rEq (tVar 5) (tC (.int 0)))) (tTest (tOp rEq (tCall sp_take [] E0 (tCons (tVar 0) (tCons (tC (.int 4)) tNil))) (tC (.int 0))))) (tAsg (tCall (sp_among K) [] E0 (tCons (tVar 0) (tCons (tCall sp_holders [] E0 tNil) tNil))) (gName 5)) tNext)
  (tRet (tTup (tCons (tC (.str "write")) (tCons (tVar 4) (tCons (tCall (sp_word K) [] E0 (tCons (tVar 0) (tCons (tVar 3) tNil))) (tCons (tVar 5) tNil))))))) tNext)
  (tSeq (tIfS (tTest (tOp rEq (tVar 6) (tC (.int 3)))) (tRet (tTup (tCons (tC (.str "poke")) (tCons (tVar 4) (tCons (tCall (sp_word K) [] E0 (tCons (tVar 0) (tCons (tVar 3) tNil))) tNil))))) tNext)
  (tSeq (tIfS (tTest (tOp rEq (tVar 6) (tC (.int 4)))) (tAsg (tCall (sp_holder K) [] E0 (tCons (tVar 0) tNil)) (gName 5)) tNext)
  (tSeq (tAsg (tCall sp_between [] E0 (tCons (tVar 0) (tCons (tC (.int 1)) (tCons (tCB rMin2 (tCons (tC (.int 12)) (tCons (tOp oSub (tCB (rLen K) (tCons (tVar 1) tNil)) (tVar 4)) tNil))) tNil)))) (gName 7))
  (tSeq (tIfS (tTest (tOp oGt (tVar 6) (tC (.int 5)))) (tSeq (tAsg (tC (.int 1)) (gName 7))
  (tWhile (tAnd (tTest (tOp oLt (tVar 7) (tC (.int 12)))) (tAnd (tTest (tOp oLt (tOp oAdd (tVar 4) (tVar 7)) (tCB (rLen K) (tCons (tVar 1) tNil)))) (tAnd (tTest (tOp rEq (tOp (rIxL K) (tVar 2) (tOp oAdd (tVar 4) (tVar 7))) (tVar 5))) (tTest (tOp oGt (tCall sp_take [] E0 (tCons (tVar 0) (tCons (tC (.int 4)) tNil))) (tC (.int 0))))))) (tAsg (tOp oAdd (tVar 7) (tC (.int 1))) (gName 7)))) tNext)
  (tRet (tTup (tCons (tC (.str "pass_on")) (tCons (tVar 4) (tCons (tVar 7) (tCons (tVar 5) (tCons (tCall (sp_among K) [] E0 (tCons (tVar 0) (tCons (tLst (tCons (tC (.int 0)) (tCons (tC (.int 0)) (tCons (tVar 5) (tCons (tC (.int 1)) (tCons (tC (.int 2)) (tCons (tCall (sp_holder K) [] E0 (tCons (tVar 0) tNil)) tNil))))))) tNil))) tNil)))))))))))))))
theorem getD_hd {hs : List Int} {i : Nat} (h : ∀ i ∈ hs, isHd i) (hi : i < hs.length) : isHd (hs.getD i 0) := by
  rw [List.getD_eq_getElem?_getD, List.getElem?_eq_getElem hi]
  exact h _ (List.getElem_mem hi)
theorem pure_ground_deed {K : PySem.W.Frag} {vs : List V} {H : Hp} {Q : VK} {E : XK} (h : sp_ground_deed K vs H Q E) : t_l_ground_deed K { nx := fun _ H' => Q .non H', rt := Q } (start N_l_ground_deed vs) H := by
  obtain ⟨d, s, w, h, ws, hs, b, rfl, hD, hw, hh, nw1, nh1, le, z0, z1, hb, hk, k⟩ := h
  unfold t_l_ground_deed
  fold_lay
  rw [List.length_map]
  refine c_between hD (by omega) fun p H1 p0 p1 hD1 s1 => ?_
  have hw1 : H1 w = some (.lst (ws.map V.int)) := by kct_strs
  have hh1 : H1 h = some (.lst (hs.map V.int)) := by kct_strs
  have p2 : p < ws.length := by omega
  have p3 : p < hs.length := by omega
  fold_lay
  refine i_ixL (sqL hh1) (at_ints p0 p3) ?_
  have hd0' := getD_hd (i := p.toNat) hk (by omega)
  generalize hs.getD p.toNat 0 = g0 at hd0'
  fold_lay
  refine c_take hD1 (by omega) fun kd H2 k0 k1 hD2 s2 => ?_
  have hw2 : H2 w = some (.lst (ws.map V.int)) := by kct_strs
  have hh2 : H2 h = some (.lst (hs.map V.int)) := by kct_strs
  have t2 : Same (hid s H) (hid s H2) := by mem_news
  clear hw1 hh1
  fold_lay
  fold_depth
  refine i_ifd (fun z => ?_) (fun z => ?_)
  · have any : ∀ {nx : St → Hp → Prop}, (∀ (σ' : St) (H' : Hp), (Dr d s H' ∧ Same (hid s H) (hid s H') ∧ ∃ g, isHd g ∧ g ≠ 0 ∧ σ' = [some (.ref d), some (.ref w), some (.ref h), some (.int b), some (.int p), some (.int g), some (.int kd), none]) → nx σ' H') → ∀ (g0 : Int) (H3 : Hp), Dr d s H3 → Same (hid s H) (hid s H3) →
        sp_holders [] H3 (fun x H1 => tNil [some (.ref d), some (.ref w), some (.ref h), some (.int b), some (.int p), some (.int g0), some (.int kd), none] H1 fun xs H2 => sp_among K (V.ref d :: x :: xs ++ []) H2 (fun x H1 => gName 5 x [some (.ref d), some (.ref w), some (.ref h), some (.int b), some (.int p), some (.int g0), some (.int kd), none] H1 nx) E0) E0 := by
      intro nx key g0 H3 hD3 s3
      refine c_holders fun l H4 e1 e2 s4 => ?_
      fold_lay
      refine c_among (hD3.same s4) e2 (hD3.ne e1) (by simp [hold24]) (by simp [hold24]) fun y H5 hy hD5 s5 => ?_
      obtain ⟨i, hi, rfl⟩ := List.mem_map.mp hy
      fold_lay
      exact key _ _ ⟨hD5, by mem_news, i, (hold24_hd i hi).1, (hold24_hd i hi).2, rfl⟩
    fold_lay
    refine i_cut (fun σ' H' => Dr d s H' ∧ Same (hid s H) (hid s H') ∧ ∃ g, isHd g ∧ g ≠ 0 ∧ σ' = [some (.ref d), some (.ref w), some (.ref h), some (.int b), some (.int p), some (.int g), some (.int kd), none]) ?_ (fun nx key => ?_)
    rotate_left
    · fold_lay
      refine i_ifd (fun z => ?_) (fun z => ?_)
      · fold_lay
        exact any key _ _ hD2 t2
      · fold_lay
        refine c_take hD2 (by omega) fun v H3 v0 v1 hD3 s3 => ?_
        fold_lay
        refine i_ifd (fun z2 => ?_) (fun z2 => ?_)
        · fold_lay
          exact any key _ _ hD3 (by mem_news)
        · fold_lay
          exact key _ _ ⟨hD3, by mem_news, g0, hd0', z, rfl⟩
    rintro σ' H3 ⟨hD3, s3, g, hg, hg0, rfl⟩
    fold_lay
    refine c_word hD3 hb fun v H4 hv hD4 s4 => ?_
    fold_lay
    exact k _ (.wr p v g) _ upd_same (by nest_room) ⟨p0, p2, hv, hg, hg0⟩ (by leaf_len) (by mem_news)
  fold_lay
  fold_depth
  refine i_ifd (fun z3 => ?_) (fun z3 => ?_)
  · fold_lay
    refine c_word hD2 hb fun v H4 hv hD4 s4 => ?_
    fold_lay
    exact k _ (.pk p v) _ upd_same (by nest_room) ⟨p0, p2, hv⟩ (by leaf_len) (by mem_news)
  fold_lay
  refine i_cut (fun σ' H' => Dr d s H' ∧ Same (hid s H) (hid s H') ∧ ∃ g, isHd g ∧ σ' = [some (.ref d), some (.ref w), some (.ref h), some (.int b), some (.int p), some (.int g), some (.int kd), none]) ?_ (fun nx key => ?_)
  rotate_left
  · fold_lay
    refine i_ifd (fun z4 => ?_) (fun z4 => ?_)
    · fold_lay
      refine c_holder hD2 fun v H3 hv hD3 s3 => ?_
      fold_lay
      exact key _ _ ⟨hD3, by mem_news, v, hd0 hv, rfl⟩
    · fold_lay
      exact key _ _ ⟨hD2, t2, g0, hd0', rfl⟩
  rintro σ' H3 ⟨hD3, s3, g, hg, rfl⟩
  have hw3 : H3 w = some (.lst (ws.map V.int)) := by kct_strs
  clear hw2 hh2 hD2 s2 t2 hD1 s1
  fold_lay
  rw [List.length_map]
  refine c_between hD3 (by split <;> omega) fun m H4 m0 m1 hD4 s4 => ?_
  have m2 : m ≤ (ws.length : Int) - p := by
    split at m1 <;> omega
  clear m1
  fold_lay
  refine i_cut (fun σ' H' => Dr d s H' ∧ Same (hid s H) (hid s H') ∧ ∃ m : Nat, 1 ≤ m ∧ p + (m : Int) ≤ ws.length ∧ σ' = [some (.ref d), some (.ref w), some (.ref h), some (.int b), some (.int p), some (.int g), some (.int kd), some (.int m)]) ?_ (fun nx key => ?_)
  rotate_left
  · fold_lay
    refine i_ifd (fun z5 => ?_) (fun z5 => ?_)
    · fold_lay
      refine l_while (m := 12) (fun j σ' H' => Dr d s H' ∧ Same (hid s H) (hid s H') ∧ ∃ m : Nat, j + m = 13 ∧ 1 ≤ m ∧ p + (m : Int) ≤ ws.length ∧ σ' = [some (.ref d), some (.ref w), some (.ref h), some (.int b), some (.int p), some (.int g), some (.int kd), some (.int m)]) ⟨hD4, by mem_news, 1, rfl, by omega, by omega, rfl⟩ ?_
      rintro j σ' H5 ⟨hD5, s5, m, jm, q0, q1, rfl⟩
      have hw5 : H5 w = some (.lst (ws.map V.int)) := by kct_strs
      have hh5 : H5 h = some (.lst (hs.map V.int)) := by kct_strs
      fold_lay
      refine i_ifd (fun c1 => ?_) (fun c1 => ?_)
      · fold_lay
        rw [List.length_map]
        refine i_ifd (fun c2 => ?_) (fun c2 => ?_)
        · fold_lay
          refine i_ixL (sqL hh5) (at_ints (by omega) (by omega)) ?_
          fold_lay
          refine i_ifd (fun c3 => ?_) (fun c3 => ?_)
          · fold_lay
            refine c_take hD5 (by omega) fun v H6 v0 v1 hD6 s6 => ?_
            fold_lay
            refine i_ifd (fun c4 => ?_) (fun c4 => ?_)
            · refine i_turn ?_
              fold_lay
              exact ⟨j - 1, by omega, hD6, by mem_news, m + 1, by omega, by omega, by omega, rfl⟩
            · fold_lay
              exact key _ _ ⟨hD6, by mem_news, m, q0, q1, rfl⟩
          · fold_lay
            exact key _ _ ⟨hD5, s5, m, q0, q1, rfl⟩
        · fold_lay
          exact key _ _ ⟨hD5, s5, m, q0, q1, rfl⟩
      · fold_lay
        exact key _ _ ⟨hD5, s5, m, q0, q1, rfl⟩
    · fold_lay
      exact key _ _ ⟨hD4, by mem_news, m.toNat, by omega, by omega, by rw [Int.toNat_of_nonneg (by omega)]; rfl⟩
  rintro σ' H5 ⟨hD5, s5, m, q0, q1, rfl⟩
  clear hw3 s4 hD4 hD3 s3
  fold_lay
  refine c_holder hD5 fun v H6 hv hD6 s6 => ?_
  fold_lay
  refine c_among (by leaf_len) upd_same (by nest_fact) (by simp) (by simp) fun y H7 hy hD7 s7 => ?_
  have hy : ∃ t, y = .int t ∧ isHd t := by
    simp only [List.mem_cons, List.not_mem_nil, or_false] at hy
    rcases hy with rfl | rfl | rfl | rfl | rfl | rfl
    · exact ⟨_, rfl, by decide⟩
    · exact ⟨_, rfl, by decide⟩
    · exact ⟨_, rfl, hg⟩
    · exact ⟨_, rfl, by decide⟩
    · exact ⟨_, rfl, by decide⟩
    · exact ⟨_, rfl, hd0 hv⟩
  obtain ⟨t, rfl, ht⟩ := hy
  fold_lay
  exact k _ (.ps p m g t) _ upd_same (by nest_room) ⟨p0, q0, q1, hg, ht⟩ (by leaf_len) (by mem_news)
/-! ## K12c -/
/-! ### k12: what is due of a deed -/
def Deed.due (S : GS) : Deed → Option (Str × List Int)
  | .wr p _ h => if S.hs.getD p.toNat 0 ≠ h then some ("NotHeld", [p, S.hs.getD p.toNat 0]) else none
  | .pk _ _ => none
  | .ps s n g _ => match (if g = 0 then firstP (brk S) s n else none) with
    | some p => some ("Broken", [p, S.ws.getD p.toNat 0, S.fl])
    | none => (firstP (nog S g) s n).map fun p => ("NotHeld", [p, S.hs.getD p.toNat 0])
def sp_deed_due (K : PySem.W.Frag) : Sp := fun vs H Q _ => ∃ (w h a : Addr) (S : GS) (D : Deed), vs = [.ref w, .ref h, .int S.fl, .ref a] ∧ H w = some (.lst (S.ws.map V.int)) ∧ H h = some (.lst (S.hs.map V.int)) ∧ H a = some (.tup D.vs) ∧ D.Ok S.ws.length ∧ S.ws.length = S.hs.length ∧ S.ws.length ≤ 20000 ∧
  (D.due S = none → Q .non H) ∧ (∀ t l, D.due S = some (t, l) → ∀ b c H', H' b = some (.tup [.str t, .ref c]) → H' c = some (.tup (l.map V.int)) → Same H H' → Q (.ref b) H')
def N_l_deed_due : List Str := ["_law_words", "_law_holders_here", "_law_blank_here", "_law_deed", "_law_at", "_law_one"]
def t_l_deed_due (K : PySem.W.Frag) : TS := (tSeq (tAsg (tOp (rIxT K) (tVar 3) (tC (.int 1))) (gName 4))
  (tSeq (tIfS (tAnd (tTest (tOp rEq (tOp (rIxT K) (tVar 3) (tC (.int 0))) (tC (.str "write")))) (tTest (tOp rNe (tOp (rIxL K) (tVar 1) (tVar 4)) (tOp (rIxT K) (tVar 3) (tC (.int 3)))))) (tRet (tTup (tCons (tC (.str "NotHeld")) (tCons (tTup (tCons (tVar 4) (tCons (tOp (rIxL K) (tVar 1) (tVar 4)) tNil))) tNil)))) tNext)
  (tSeq (tIfS (tTest (tOp rNe (tOp (rIxT K) (tVar 3) (tC (.int 0))) (tC (.str "pass_on")))) (tRet (tC .non)) tNext)
  (tSeq (tIfS (tTest (tOp rEq (tOp (rIxT K) (tVar 3) (tC (.int 3))) (tC (.int 0)))) (tFor (iRng2 (tCons (tVar 4) (tCons (tOp oAdd (tVar 4) (tOp (rIxT K) (tVar 3) (tC (.int 2)))) tNil))) (gName 5) (tIfS (tAnd (tTest (tOp rEq (tOp (rIxL K) (tVar 1) (tVar 5)) (tC (.int 0)))) (tTest (tOp rNe (tOp (rIxL K) (tVar 0) (tVar 5)) (tVar 2)))) (tRet (tTup (tCons (tC (.str "Broken")) (tCons (tTup (tCons (tVar 5) (tCons (tOp (rIxL K) (tVar 0) (tVar 5)) (tCons (tVar 2) tNil)))) tNil)))) tNext)) tNext)
  (tSeq (tFor (iRng2 (tCons (tVar 4) (tCons (tOp oAdd (tVar 4) (tOp (rIxT K) (tVar 3) (tC (.int 2)))) tNil))) (gName 5) (tIfS (tTest (tOp rNe (tOp (rIxL K) (tVar 1) (tVar 5)) (tOp (rIxT K) (tVar 3) (tC (.int 3))))) (tRet (tTup (tCons (tC (.str "NotHeld")) (tCons (tTup (tCons (tVar 5) (tCons (tOp (rIxL K) (tVar 1) (tVar 5)) tNil))) tNil)))) tNext))
  (tRet (tC .non)))))))
theorem pure_deed_due {K : PySem.W.Frag} {vs : List V} {H : Hp} {Q : VK} {E : XK} (h : sp_deed_due K vs H Q E) : t_l_deed_due K { nx := fun _ H' => Q .non H', rt := Q } (start N_l_deed_due vs) H := by
  obtain ⟨w, h, a, S, D, rfl, hw, hh, ha, ok, le, z1, k1, k2⟩ := h
  unfold t_l_deed_due
  cases D with
  | wr p wd hd =>
    obtain ⟨p0, p1, -, -, -⟩ := ok
    have ha : H a = some (.tup [.str "write", .int p, .int wd, .int hd]) := ha
    have p3 : p < S.hs.length := by omega
    fold_lay
    fold_depth
    refine i_yes rfl ?_
    fold_lay
    refine i_ixL (sqL hh) (at_ints p0 p3) ?_
    fold_lay
    refine i_ifn (fun z => ?_) (fun z => ?_)
    · fold_lay
      refine i_ixL (sqL hh) (at_ints p0 p3) ?_
      fold_lay
      exact k2 "NotHeld" [p, S.hs.getD p.toNat 0] (if_pos z) _ _ _ upd_same (by kct_strs) (by mem_news)
    · fold_lay
      fold_depth
      refine i_ifn (fun _ => ?_) (fun z => absurd z (by decide))
      fold_lay
      exact k1 (if_neg (fun q => q z))
  | pk p wd =>
    obtain ⟨p0, p1, -⟩ := ok
    have ha : H a = some (.tup [.str "poke", .int p, .int wd]) := ha
    fold_lay
    fold_depth
    refine i_no (by decide) ?_
    fold_lay
    fold_depth
    refine i_ifn (fun _ => ?_) (fun z => absurd z (by decide))
    fold_lay
    exact k1 rfl
  | ps s n g t =>
    obtain ⟨p0, p1, p2, -, -⟩ := ok
    have ha : H a = some (.tup [.str "pass_on", .int s, .int n, .int g, .int t]) := ha
    fold_lay
    fold_depth
    refine i_no (by decide) ?_
    fold_lay
    fold_depth
    refine i_ifn (fun z => absurd rfl z) (fun _ => ?_)
    fold_lay
    refine i_cut (fun σ' H' => H' = H ∧ (g = 0 → firstP (brk S) s n = none) ∧ ∃ y, σ' = [some (.ref w), some (.ref h), some (.int S.fl), some (.ref a), some (.int s), y]) ?_ (fun nx key => ?_)
    rotate_left
    · fold_lay
      refine i_ifd (fun z => ?_) (fun z => ?_)
      · fold_lay
        refine f_rng2 (by omega) (by omega) (by omega) (by omega) ?_
        rw [show (s + (n : Int) - s).toNat = n by omega]
        refine l_rng (fun i σ' H' => H' = H ∧ (∀ j : Nat, j < i → brk S (s + (j : Int)) = false) ∧ ∃ y, σ' = [some (.ref w), some (.ref h), some (.int S.fl), some (.ref a), some (.int s), y]) ⟨rfl, fun j hj => by omega, _, rfl⟩ ?_ ?_
        · rintro i σ' H' hi ⟨rfl, hlow, y, rfl⟩
          have q0 : 0 ≤ s + (i : Int) := by omega
          have q1 : s + (i : Int) < S.ws.length := by omega
          have q2 : s + (i : Int) < S.hs.length := by omega
          have next : brk S (s + (i : Int)) = false → ∀ j : Nat, j < i + 1 → brk S (s + (j : Int)) = false := fun hb j hj => by
            rcases Nat.lt_or_ge j i with q | q
            · exact hlow j q
            · have : j = i := by omega
              subst this
              exact hb
          fold_lay
          refine i_ixL (sqL hh) (at_ints q0 q2) ?_
          fold_lay
          refine i_ifd (fun c1 => ?_) (fun c1 => ?_)
          · fold_lay
            refine i_ixL (sqL hw) (at_ints q0 q1) ?_
            fold_lay
            refine i_ifn (fun c2 => ?_) (fun c2 => ?_)
            · fold_lay
              refine i_ixL (sqL hw) (at_ints q0 q1) ?_
              fold_lay
              have e := firstP_some (f := brk S) hi (decide_eq_true ⟨c1, c2⟩) hlow
              exact k2 "Broken" [s + (i : Int), S.ws.getD (s + (i : Int)).toNat 0, S.fl] (by simp only [Deed.due]; rw [if_pos z, e]) _ _ _ upd_same (by kct_strs) (by mem_news)
            · fold_lay
              exact ⟨rfl, next (decide_eq_false fun q => q.2 c2), _, rfl⟩
          · fold_lay
            exact ⟨rfl, next (decide_eq_false fun q => c1 q.1), _, rfl⟩
        · rintro σ' H' ⟨rfl, hall, y, rfl⟩
          exact key _ _ ⟨rfl, fun _ => firstP_none hall, _, rfl⟩
      · fold_lay
        exact key _ _ ⟨rfl, fun q => absurd q z, _, rfl⟩
    rintro σ' H' ⟨rfl, gb, y, rfl⟩
    have eb : (if g = 0 then firstP (brk S) s n else none) = none := by
      split
      · exact gb (by assumption)
      · rfl
    fold_lay
    fold_depth
    refine f_rng2 (by omega) (by omega) (by omega) (by omega) ?_
    rw [show (s + (n : Int) - s).toNat = n by omega]
    refine l_rng (fun i σ1 H1 => H1 = H' ∧ (∀ j : Nat, j < i → nog S g (s + (j : Int)) = false) ∧ ∃ y, σ1 = [some (.ref w), some (.ref h), some (.int S.fl), some (.ref a), some (.int s), y]) ⟨rfl, fun j hj => by omega, _, rfl⟩ ?_ ?_
    · rintro i σ1 H1 hi ⟨rfl, hlow, y, rfl⟩
      have q0 : 0 ≤ s + (i : Int) := by omega
      have q2 : s + (i : Int) < S.hs.length := by omega
      fold_lay
      refine i_ixL (sqL hh) (at_ints q0 q2) ?_
      fold_lay
      refine i_ifn (fun c2 => ?_) (fun c2 => ?_)
      · fold_lay
        refine i_ixL (sqL hh) (at_ints q0 q2) ?_
        fold_lay
        have e := firstP_some (f := nog S g) hi (decide_eq_true c2) hlow
        exact k2 "NotHeld" [s + (i : Int), S.hs.getD (s + (i : Int)).toNat 0] (by simp only [Deed.due]; rw [eb, e]; rfl) _ _ _ upd_same (by kct_strs) (by mem_news)
      · fold_lay
        refine ⟨rfl, fun j hj => ?_, _, rfl⟩
        rcases Nat.lt_or_ge j i with q | q
        · exact hlow j q
        · have : j = i := by omega
          subst this
          exact decide_eq_false fun q => q c2
    rintro σ1 H1 ⟨rfl, hall, y, rfl⟩
    fold_lay
    exact k1 (by simp only [Deed.due]; rw [eb, firstP_none hall]; rfl)
/-! ## K12d -/
/-! ### k12: a deed is made in the law's lists -/
/-- the changes of a deed -/
def Deed.chg (S : GS) : Deed → List En
  | .wr p w h => [(p, w, h)]
  | .pk p w => [(p, w, S.hs.getD p.toNat 0)]
  | .ps s n _ t => pas S s n t
theorem set_getD {l : List Int} {i : Nat} : l.set i (l.getD i 0) = l := by
  apply List.ext_getElem?
  intro j
  by_cases g : i = j
  · subst g
    by_cases q : i < l.length
    · rw [List.getElem?_set_self q, List.getD_eq_getElem?_getD, List.getElem?_eq_getElem q]
      rfl
    · rw [List.getElem?_eq_none (by rw [List.length_set]; omega), List.getElem?_eq_none (by omega)]
  · rw [List.getElem?_set_ne g]
def sp_deed_made (K : PySem.W.Frag) : Sp := fun vs H Q _ => ∃ (w h a : Addr) (S : GS) (D : Deed), vs = [.ref w, .ref h, .int S.fl, .ref a] ∧ H w = some (.lst (S.ws.map V.int)) ∧ H h = some (.lst (S.hs.map V.int)) ∧ H a = some (.tup D.vs) ∧ w ≠ h ∧ D.Ok S.ws.length ∧ S.ws.length = S.hs.length ∧ S.ws.length ≤ 20000 ∧ D.due S = none ∧
  ∀ H', H' w = some (.lst ((restW (D.chg S) S.ws).map V.int)) → H' h = some (.lst ((restH (D.chg S) S.hs).map V.int)) → Out [w, h] H H' → Q .non H'
def N_l_deed_made : List Str := ["_law_words", "_law_holders_here", "_law_blank_here", "_law_deed", "_law_at", "_law_one"]
def t_l_deed_made (K : PySem.W.Frag) : TS := (tSeq (tAsg (tOp (rIxT K) (tVar 3) (tC (.int 1))) (gName 4))
  (tIfS (tTest (tOp rNe (tOp (rIxT K) (tVar 3) (tC (.int 0))) (tC (.str "pass_on")))) (tAsg (tOp (rIxT K) (tVar 3) (tC (.int 2))) (gSub (tVar 0) (tVar 4) rSetL)) (tFor (iRng2 (tCons (tVar 4) (tCons (tOp oAdd (tVar 4) (tOp (rIxT K) (tVar 3) (tC (.int 2)))) tNil))) (gName 5) (tSeq (tAsg (tOp (rIxT K) (tVar 3) (tC (.int 4))) (gSub (tVar 1) (tVar 5) rSetL))
  (tIfS (tTest (tOp rEq (tOp (rIxT K) (tVar 3) (tC (.int 4))) (tC (.int 0)))) (tAsg (tVar 2) (gSub (tVar 0) (tVar 5) rSetL)) tNext)))))
theorem pure_deed_made {K : PySem.W.Frag} {vs : List V} {H : Hp} {Q : VK} {E : XK} (h : sp_deed_made K vs H Q E) : t_l_deed_made K { nx := fun _ H' => Q .non H', rt := Q } (start N_l_deed_made vs) H := by
  obtain ⟨w, h, a, S, D, rfl, hw, hh, ha, nwh, ok, le, z1, due, k⟩ := h
  unfold t_l_deed_made
  cases D with
  | wr p wd hd =>
    obtain ⟨p0, p1, -, -, -⟩ := ok
    have ha : H a = some (.tup [.str "write", .int p, .int wd, .int hd]) := ha
    fold_lay
    refine i_ifn (fun _ => ?_) (fun z => absurd z (by decide))
    fold_lay
    refine i_setL hw (ix_ints (l := S.ws) p0 p1) ?_
    rw [← List.map_set]
    have e : S.hs.getD p.toNat 0 = hd := by
      have due : (if S.hs.getD p.toNat 0 ≠ hd then some (("NotHeld" : Str), [p, S.hs.getD p.toNat 0]) else none) = none := due
      by_cases q : S.hs.getD p.toNat 0 = hd
      · exact q
      · rw [if_pos q] at due
        cases due
    refine k _ upd_same ?_ (out_upd (by simp))
    show _ = some (HO.lst ((S.hs.set p.toNat hd).map V.int))
    rw [← e, set_getD]
    exact upd_off (Ne.symm nwh) hh
  | pk p wd =>
    obtain ⟨p0, p1, -⟩ := ok
    have ha : H a = some (.tup [.str "poke", .int p, .int wd]) := ha
    fold_lay
    refine i_ifn (fun _ => ?_) (fun z => absurd z (by decide))
    fold_lay
    refine i_setL hw (ix_ints (l := S.ws) p0 p1) ?_
    rw [← List.map_set]
    refine k _ upd_same ?_ (out_upd (by simp))
    show _ = some (HO.lst ((S.hs.set p.toNat (S.hs.getD p.toNat 0)).map V.int))
    rw [set_getD]
    exact upd_off (Ne.symm nwh) hh
  | ps s n g t =>
    obtain ⟨p0, p1, p2, -, -⟩ := ok
    have ha : H a = some (.tup [.str "pass_on", .int s, .int n, .int g, .int t]) := ha
    have naw : a ∉ [w, h] := fun z => by
      simp only [List.mem_cons, List.not_mem_nil, or_false] at z
      rcases z with z | z
      · rw [z, hw] at ha
        cases ha
      · rw [z, hh] at ha
        cases ha
    fold_lay
    refine i_ifn (fun z => absurd rfl z) (fun _ => ?_)
    fold_lay
    refine f_rng2 (by omega) (by omega) (by omega) (by omega) ?_
    rw [show (s + (n : Int) - s).toNat = n by omega]
    refine l_rng (fun i σ1 H1 => H1 w = some (.lst ((restW (pas S s i t) S.ws).map V.int)) ∧ H1 h = some (.lst ((restH (pas S s i t) S.hs).map V.int)) ∧ Out [w, h] H H1 ∧ ∃ y, σ1 = [some (.ref w), some (.ref h), some (.int S.fl), some (.ref a), some (.int s), y]) ⟨hw, hh, Out.refl _ _, _, rfl⟩ ?_ ?_
    · rintro i σ1 H1 hi ⟨hw1, hh1, O1, y, rfl⟩
      have q0 : 0 ≤ s + (i : Int) := by omega
      have ha1 := O1 a _ naw ha
      have l1 : ∀ e ∈ pas S s i t, e.1.toNat ≠ (s + (i : Int)).toNat := fun e m => by
        have := pas_mem m
        omega
      fold_lay
      refine i_setL hh1 (ix_ints q0 (by rw [restH_len]; omega)) ?_
      rw [set_ints]
      have e2 : restH (pas S s (i + 1) t) S.hs = (restH (pas S s i t) S.hs).set (s + (i : Int)).toNat t := by rw [pas_more, restH_app]
      have e1 : restW (pas S s (i + 1) t) S.ws = (restW (pas S s i t) S.ws).set (s + (i : Int)).toNat (if t = 0 then S.fl else S.ws.getD (s + (i : Int)).toNat 0) := by rw [pas_more, restW_app]
      rw [← e2]
      have ha2 : upd H1 h (.lst ((restH (pas S s (i + 1) t) S.hs).map V.int)) a = some (.tup [.str "pass_on", .int s, .int n, .int g, .int t]) := upd_off (fun z => naw (by simp [z])) ha1
      have hw2 : upd H1 h (.lst ((restH (pas S s (i + 1) t) S.hs).map V.int)) w = _ := upd_off nwh hw1
      have hh2 : upd H1 h (.lst ((restH (pas S s (i + 1) t) S.hs).map V.int)) h = _ := upd_same
      have O2 : Out [w, h] H (upd H1 h (.lst ((restH (pas S s (i + 1) t) S.hs).map V.int))) := O1.trans (out_upd (by simp))
      generalize upd H1 h (.lst ((restH (pas S s (i + 1) t) S.hs).map V.int)) = H2 at *
      fold_lay
      refine i_ifd (fun z => ?_) (fun z => ?_)
      · fold_lay
        refine i_setL hw2 (ix_ints q0 (by rw [restW_len]; omega)) ?_
        rw [set_ints]
        rw [if_pos z] at e1
        rw [← e1]
        exact ⟨upd_same, upd_off (Ne.symm nwh) hh2, O2.trans (out_upd (by simp)), _, rfl⟩
      · fold_lay
        rw [if_neg z, ← restW_getD (ws := S.ws) l1, set_getD] at e1
        exact ⟨by rw [e1]; exact hw2, hh2, O2, _, rfl⟩
    · rintro σ1 H1 ⟨hw1, hh1, O1, y, rfl⟩
      exact k _ hw1 hh1 O1
/-! ## World -/
/-! ### what stays where others write -/
/-- all at F stays, and all tuples -/
structure KeepOn (F : List Addr) (H H' : Hp) : Prop where
  on : ∀ a ∈ F, ∀ o, H a = some o → H' a = some o
  tup : ∀ a xs, H a = some (.tup xs) → H' a = some (.tup xs)
theorem KeepOn.sub {F G : List Addr} {H H' : Hp} (h : KeepOn F H H') (s : ∀ a ∈ G, a ∈ F) : KeepOn G H H' := ⟨fun a m => h.on a (s a m), h.tup⟩
theorem KeepOn.same {F : List Addr} {H H' : Hp} (h : Same H H') : KeepOn F H H' := ⟨fun a _ o => h a o, fun a xs => h a _⟩
theorem KeepOn.trans {F : List Addr} {H H1 H2 : Hp} (h : KeepOn F H H1) (k : KeepOn F H1 H2) : KeepOn F H H2 := ⟨fun a m o e => k.on a m o (h.on a m o e), fun a xs e => k.tup a xs (h.tup a xs e)⟩
/-- F holds no tuples -/
def NoT (F : List Addr) (H : Hp) : Prop := ∀ a ∈ F, ∀ xs, H a ≠ some (.tup xs)
theorem NoT.sub {F G : List Addr} {H : Hp} (h : NoT F H) (s : ∀ a ∈ G, a ∈ F) : NoT G H := fun a m => h a (s a m)
theorem KeepOn.out {F G : List Addr} {H H' : Hp} (h : Out F H H') (t : NoT F H) (d : ∀ a ∈ G, a ∉ F) : KeepOn G H H' :=
  ⟨fun a m o e => h a o (d a m) e, fun a xs e => h a _ (fun m => t a m xs e) e⟩
theorem KeepOn.hid {G : List Addr} {s : Addr} {H H' : Hp} (h : Same (hid s H) (hid s H')) (t : ∀ xs, H s ≠ some (.tup xs)) (n : s ∉ G) : KeepOn G H H' :=
  ⟨fun a m o e => hget h (fun z => n (z ▸ m)) e, fun a xs e => hget h (fun z => t xs (z ▸ e)) e⟩
theorem Dr.nt {d s : Addr} {H : Hp} (h : Dr d s H) : ∀ xs, H s ≠ some (.tup xs) := by
  obtain ⟨c, cs, p, b, n, t, e, h1, h2, h3, _⟩ := h
  intro xs z
  rw [h3] at z
  cases z
theorem Ent.keep {F : List Addr} {H H' : Hp} {kvs : List (Key × V)} {es : List En} (h : Ent H kvs es) (k : KeepOn F H H') : Ent H' kvs es := by
  induction h with
  | nil => exact .nil
  | cons ht _ ih => exact .cons (k.tup _ _ ht) ih
theorem Dds.keep {F : List Addr} {H H' : Hp} {dd : List Addr} {ds : List (List En)} (h : Dds H dd ds) (k : KeepOn F H H') (s : ∀ a ∈ dd, a ∈ F) : Dds H' dd ds := by
  induction h with
  | nil => exact .nil
  | cons hd he _ ih => exact .cons (k.on _ (s _ List.mem_cons_self) _ hd) (he.keep k) (ih fun a m => s a (List.mem_cons_of_mem _ m))
theorem Gd.keep {c : Cl} {F : List Addr} {H H' : Hp} {A : GA} {S : GS} (h : Gd c H A S) (k : KeepOn F H H') (s : ∀ a ∈ fpA A, a ∈ F) : Gd c H' A S :=
  ⟨k.on _ (s _ (by simp)) _ h.ob, k.on _ (s _ (by simp)) _ h.wl, k.on _ (s _ (by simp)) _ h.hl, k.on _ (s _ (by simp)) _ h.ol, h.dl.keep k fun a m => s a (by simp [m]), h.n1, h.n2, h.n3, h.nd, h.le, h.sz, h.dn, h.ok⟩
theorem Gd.live {c : Cl} {H : Hp} {A : GA} {S : GS} (h : Gd c H A S) : ∀ a ∈ fpA A, ∃ o, H a = some o ∧ ∀ xs, o ≠ .tup xs := by
  intro a m
  simp only [fpA, List.mem_cons] at m
  rcases m with rfl | rfl | rfl | rfl | m
  · exact ⟨_, h.ob, fun xs z => by cases z⟩
  · exact ⟨_, h.wl, fun xs z => by cases z⟩
  · exact ⟨_, h.hl, fun xs z => by cases z⟩
  · exact ⟨_, h.ol, fun xs z => by cases z⟩
  · obtain ⟨kvs, e⟩ := h.dl.at_ a m
    exact ⟨_, e, fun xs z => by cases z⟩
theorem Gd.noT {c : Cl} {H : Hp} {A : GA} {S : GS} (h : Gd c H A S) : NoT (fpA A) H := fun a m xs z => by
  obtain ⟨o, e, n⟩ := h.live a m
  rw [e] at z
  exact n xs (Option.some.inj z)
/-- the draws lie off F -/
def Off (d s : Addr) (F : List Addr) (H : Hp) : Prop := s ∉ F ∧ d ∉ F ∧ ∀ c y, H d = some (.lst [.ref c, y]) → c ∉ F
theorem Dr.live {d s : Addr} {H : Hp} (h : Dr d s H) : (∃ o, H d = some o) ∧ (∃ o, H s = some o) ∧ ∀ c y, H d = some (.lst [.ref c, y]) → ∃ o, H c = some o := by
  obtain ⟨c, cs, p, b, n, t, e, h1, h2, h3, _⟩ := h
  refine ⟨⟨_, h1⟩, ⟨_, h3⟩, fun c' y z => ?_⟩
  rw [h1] at z
  injection z with z
  injection z with z
  injection z with z1 z2
  injection z1 with z1
  subst z1
  exact ⟨_, h2⟩
theorem Dr.out {d s : Addr} {F : List Addr} {H H' : Hp} (h : Dr d s H) (f : Off d s F H) (k : Out F H H') : Dr d s H' := by
  obtain ⟨c, cs, p, b, n, t, e, h1, h2, h3, h4⟩ := h
  exact ⟨c, cs, p, b, n, t, e, k _ _ f.2.1 h1, k _ _ (f.2.2 _ _ h1) h2, k _ _ f.1 h3, h4⟩
/-- F' : F and new ones -/
def Grow (F F' : List Addr) (H : Hp) : Prop := ∀ a ∈ F', a ∈ F ∨ H a = none
theorem Grow.refl {F : List Addr} {H : Hp} : Grow F F H := fun a m => .inl m
theorem Off.grow {d s : Addr} {F F' : List Addr} {H H' : Hp} (h : Dr d s H) (f : Off d s F H) (g : Grow F F' H) (e : ∀ o, H d = some o → H' d = some o) : Off d s F' H' := by
  obtain ⟨⟨o1, e1⟩, ⟨o2, e2⟩, l3⟩ := h.live
  refine ⟨fun m => ?_, fun m => ?_, fun c y q m => ?_⟩
  · rcases g s m with z | z
    · exact f.1 z
    · rw [e2] at z; cases z
  · rcases g d m with z | z
    · exact f.2.1 z
    · rw [e1] at z; cases z
  · have q0 : H d = some (.lst [.ref c, y]) := by
      rw [e _ e1] at q
      rw [e1]
      exact q
    obtain ⟨o3, e3⟩ := l3 c y q0
    rcases g c m with z | z
    · exact f.2.2 c y q0 z
    · rw [e3] at z; cases z
theorem Off.out {d s : Addr} {F F' : List Addr} {H H' : Hp} (h : Dr d s H) (f : Off d s F H) (g : Grow F F' H) (k : Out F H H') : Off d s F' H' := f.grow h g fun o e => k d o f.2.1 e
theorem Off.hid {d s : Addr} {F : List Addr} {H H' : Hp} (h : Dr d s H) (f : Off d s F H) (k : Same (hid s H) (hid s H')) : Off d s F H' := by
  obtain ⟨c, cs, p, b, n, t, e, h1, h2, h3, h4, h5⟩ := h
  refine ⟨f.1, f.2.1, fun c' y q => f.2.2 c' y ?_⟩
  rw [hget k h4 h1] at q
  rw [h1]
  exact q
theorem Off.same {d s : Addr} {F : List Addr} {H H' : Hp} (h : Dr d s H) (f : Off d s F H) (k : Same H H') : Off d s F H' := f.grow h Grow.refl fun o e => k d o e
/-! ### a ground beside the law's own lists -/
structure WA where
  x : Addr
  w : Addr
  h : Addr
  k : Addr
  m : Addr
  A : GA
  ks : List (Addr × Addr × Addr)
def fpK (ks : List (Addr × Addr × Addr)) : List Addr := ks.flatMap fun e => [e.1, e.2.1, e.2.2]
abbrev fpL (W : WA) : List Addr := W.x :: W.w :: W.h :: W.k :: W.m :: fpK W.ks
abbrev fpW (W : WA) : List Addr := fpL W ++ fpA W.A
/-- the snapshots' lists -/
inductive Sks (H : Hp) : List (Addr × Addr × Addr) → List (List Int × List Int) → Prop where
  | nil : Sks H [] []
  | cons {e : Addr × Addr × Addr} {x : List Int × List Int} {ks : List (Addr × Addr × Addr)} {sn : List (List Int × List Int)} (h1 : H e.1 = some (.lst [.ref e.2.1, .ref e.2.2])) (h2 : H e.2.1 = some (.lst (x.1.map V.int))) (h3 : H e.2.2 = some (.lst (x.2.map V.int))) (r : Sks H ks sn) : Sks H (e :: ks) (x :: sn)
theorem Sks.keep {F : List Addr} {H H' : Hp} {ks : List (Addr × Addr × Addr)} {sn : List (List Int × List Int)} (h : Sks H ks sn) (k : KeepOn F H H') (s : ∀ a ∈ fpK ks, a ∈ F) : Sks H' ks sn := by
  induction h with
  | nil => exact .nil
  | @cons e x ks sn h1 h2 h3 r ih =>
    refine .cons (k.on _ (s _ ?_) _ h1) (k.on _ (s _ ?_) _ h2) (k.on _ (s _ ?_) _ h3) (ih fun a m => s a ?_)
    · simp [fpK]
    · simp [fpK]
    · simp [fpK]
    · unfold fpK at m ⊢
      rw [List.flatMap_cons]
      exact List.mem_append_right _ m
theorem Sks.live {H : Hp} {ks : List (Addr × Addr × Addr)} {sn : List (List Int × List Int)} (h : Sks H ks sn) : ∀ a ∈ fpK ks, ∃ xs, H a = some (.lst xs) := by
  induction h with
  | nil => intro a m; cases m
  | @cons e x ks sn h1 h2 h3 r ih =>
    intro a m
    unfold fpK at m
    rw [List.flatMap_cons] at m
    rcases List.mem_append.mp m with m | m
    · simp only [List.mem_cons, List.not_mem_nil, or_false] at m
      rcases m with rfl | rfl | rfl
      · exact ⟨_, h1⟩
      · exact ⟨_, h2⟩
      · exact ⟨_, h3⟩
    · exact ih a m
theorem Sks.length {H : Hp} {ks : List (Addr × Addr × Addr)} {sn : List (List Int × List Int)} (h : Sks H ks sn) : ks.length = sn.length := by
  induction h with
  | nil => rfl
  | cons _ _ _ _ ih => simp [ih]
theorem Sks.snoc {H : Hp} {ks : List (Addr × Addr × Addr)} {sn : List (List Int × List Int)} {e : Addr × Addr × Addr} {x : List Int × List Int} (h : Sks H ks sn) (h1 : H e.1 = some (.lst [.ref e.2.1, .ref e.2.2])) (h2 : H e.2.1 = some (.lst (x.1.map V.int))) (h3 : H e.2.2 = some (.lst (x.2.map V.int))) : Sks H (ks ++ [e]) (sn ++ [x]) := by
  induction h with
  | nil => exact .cons h1 h2 h3 .nil
  | cons a b c _ ih => exact .cons a b c ih
theorem Sks.last {H : Hp} {sn : List (List Int × List Int)} {x : List Int × List Int} : ∀ {ks : List (Addr × Addr × Addr)}, Sks H ks (sn ++ [x]) → ∃ ks0 e, ks = ks0 ++ [e] ∧ Sks H ks0 sn ∧ H e.1 = some (.lst [.ref e.2.1, .ref e.2.2]) ∧ H e.2.1 = some (.lst (x.1.map V.int)) ∧ H e.2.2 = some (.lst (x.2.map V.int)) := by
  induction sn with
  | nil =>
    intro ks h
    cases h with
    | cons h1 h2 h3 r =>
      cases r
      exact ⟨[], _, rfl, .nil, h1, h2, h3⟩
  | cons y r ih =>
    intro ks h
    cases h with
    | cons h1 h2 h3 q =>
      obtain ⟨ks0, e, rfl, a, b, d, f⟩ := ih q
      exact ⟨_ :: ks0, e, rfl, .cons h1 h2 h3 a, b, d, f⟩
/-- the law's lists of a world: T tells words, holders, budget and what was spent -/
structure Lw (H : Hp) (W : WA) (T : GS) (sn : List (List Int × List Int)) : Prop where
  hx : H W.x = some (.lst [.ref W.A.g, .ref W.w, .ref W.h, .int T.fl, .int T.wd, .ref W.k, .ref W.m])
  hw : H W.w = some (.lst (T.ws.map V.int))
  hh : H W.h = some (.lst (T.hs.map V.int))
  hk : H W.k = some (.lst (W.ks.map fun e => V.ref e.1))
  hm : H W.m = some (.lst [odV T.al, .int T.ch])
  hs : Sks H W.ks sn
theorem Lw.keep {F : List Addr} {H H' : Hp} {W : WA} {T : GS} {sn : List (List Int × List Int)} (h : Lw H W T sn) (k : KeepOn F H H') (s : ∀ a ∈ fpL W, a ∈ F) : Lw H' W T sn :=
  ⟨k.on _ (s _ (by simp)) _ h.hx, k.on _ (s _ (by simp)) _ h.hw, k.on _ (s _ (by simp)) _ h.hh, k.on _ (s _ (by simp)) _ h.hk, k.on _ (s _ (by simp)) _ h.hm, h.hs.keep k fun a m => s a (by simp [m])⟩
theorem Lw.live {H : Hp} {W : WA} {T : GS} {sn : List (List Int × List Int)} (h : Lw H W T sn) : ∀ a ∈ fpL W, ∃ xs, H a = some (.lst xs) := by
  intro a m
  simp only [fpL, List.mem_cons] at m
  rcases m with rfl | rfl | rfl | rfl | rfl | m
  · exact ⟨_, h.hx⟩
  · exact ⟨_, h.hw⟩
  · exact ⟨_, h.hh⟩
  · exact ⟨_, h.hk⟩
  · exact ⟨_, h.hm⟩
  · exact h.hs.live a m
/-- a world: the ground, the law's lists, and what they tell of one another; n bounds what was done -/
structure Wd (c : Cl) (H : Hp) (W : WA) (S : GS) (sn : List (List Int × List Int)) (n : Nat) : Prop where
  L : Lw H W S sn
  G : Gd c H W.A S
  nd : (fpL W).Nodup
  dj : ∀ a ∈ fpL W, a ∉ fpA W.A
  sp : Snap S.ws S.hs S.ds sn
  hd : ∀ h ∈ S.hs, isHd h
  hn : ∀ x ∈ sn, ∀ h ∈ x.2, isHd h
  wd : isWd S.fl
  z0 : 0 < S.ws.length
  z1 : S.ws.length ≤ 192
  pay : ∀ a, S.al = some a → 1000000000 - 200 * (n : Int) ≤ a
  dn : S.ds.length ≤ n
theorem Wd.live {c : Cl} {H : Hp} {W : WA} {S : GS} {sn : List (List Int × List Int)} {n : Nat} (h : Wd c H W S sn n) : ∀ a ∈ fpW W, ∃ o, H a = some o ∧ ∀ xs, o ≠ .tup xs := fun a m => by
  rcases List.mem_append.mp m with m | m
  · obtain ⟨xs, e⟩ := h.L.live a m
    exact ⟨_, e, fun _ z => by cases z⟩
  · exact h.G.live a m
theorem Wd.noT {c : Cl} {H : Hp} {W : WA} {S : GS} {sn : List (List Int × List Int)} {n : Nat} (h : Wd c H W S sn n) : NoT (fpW W) H := fun a m xs z => by
  obtain ⟨o, e, q⟩ := h.live a m
  rw [e] at z
  exact q xs (Option.some.inj z)
theorem Wd.keep {c : Cl} {F : List Addr} {H H' : Hp} {W : WA} {S : GS} {sn : List (List Int × List Int)} {n : Nat} (h : Wd c H W S sn n) (k : KeepOn F H H') (s : ∀ a ∈ fpW W, a ∈ F) : Wd c H' W S sn n :=
  ⟨h.L.keep k fun a m => s a (List.mem_append_left _ m), h.G.keep k fun a m => s a (List.mem_append_right _ m), h.nd, h.dj, h.sp, h.hd, h.hn, h.wd, h.z0, h.z1, h.pay, h.dn⟩
theorem Wd.mono {c : Cl} {H H' : Hp} {W : WA} {S : GS} {sn : List (List Int × List Int)} {n : Nat} (h : Wd c H W S sn n) (k : Same H H') : Wd c H' W S sn n := h.keep (F := fpW W) (KeepOn.same k) fun _ m => m
theorem Wd.hid {c : Cl} {d s : Addr} {H H' : Hp} {W : WA} {S : GS} {sn : List (List Int × List Int)} {n : Nat} (h : Wd c H W S sn n) (D : Dr d s H) (f : Off d s (fpW W) H) (k : Same (hid s H) (hid s H')) : Wd c H' W S sn n := h.keep (F := fpW W) (KeepOn.hid k D.nt f.1) fun _ m => m
theorem Wd.up {c : Cl} {H : Hp} {W : WA} {S : GS} {sn : List (List Int × List Int)} {n m : Nat} (h : Wd c H W S sn n) (l : n ≤ m) : Wd c H W S sn m := ⟨h.L, h.G, h.nd, h.dj, h.sp, h.hd, h.hn, h.wd, h.z0, h.z1, fun a e => by have := h.pay a e; omega, Nat.le_trans h.dn l⟩
/-- another world stays -/
theorem Wd.other {c : Cl} {H H' : Hp} {W2 : WA} {S2 : GS} {sn2 : List (List Int × List Int)} {n2 : Nat} {F : List Addr} (h2 : Wd c H W2 S2 sn2 n2) (k : Out F H H') (t : NoT F H) (d : ∀ a ∈ fpW W2, a ∉ F) : Wd c H' W2 S2 sn2 n2 :=
  h2.keep (KeepOn.out k t d) fun _ m => m
theorem Wd.apart {c : Cl} {H : Hp} {W W' W2 : WA} {S2 : GS} {sn2 : List (List Int × List Int)} {n2 : Nat} (h2 : Wd c H W2 S2 sn2 n2) (g : Grow (fpW W) (fpW W') H) (d : ∀ a ∈ fpW W2, a ∉ fpW W) : ∀ a ∈ fpW W2, a ∉ fpW W' := fun a m z => by
  rcases g a z with q | q
  · exact d a m q
  · obtain ⟨o, e, _⟩ := h2.live a m
    rw [e] at q
    cases q
/-! ## AllK -/
/-- all that is asked of the eight classes -/
structure AllK (K : PySem.W.Frag) (c : Cl) : Prop where
  bk : BvK K c
  x2 : ErC K c.k_Broken ["told", "place", "found", "due"]
  k2 : ExK K c c.k_Broken false true false false false false false false
  x3 : ErC K c.k_Unknown ["told", "parameter"]
  k3 : ExK K c c.k_Unknown false false true false false false false false
  x4 : ErC K c.k_NotHeld ["told", "place", "found"]
  k4 : ExK K c c.k_NotHeld false false false true false false false false
  x5 : ErC K c.k_Fault ["told", "kind", "place"]
  k5 : ExK K c c.k_Fault false false false false true false false false
  x6 : ErC K c.k_NoRoom ["told", "paper"]
  k6 : ExK K c c.k_NoRoom false false false false false true false false
  x7 : ErC K c.k_Cut ["told", "needed", "left"]
  k7 : ExK K c c.k_Cut false false false false false false true false
  x8 : ErC K c.k_BadLine ["told", "line", "column"]
  k8 : ExK K c c.k_BadLine false false false false false false false true
/-! ## K12e -/
/-! ### k12: how a call of the ground ends, told as a row -/
instance s_mthS {C : Addr} {m : Str} {sp : Sp} {E : St → XK} {ta : TE} {t : TA} {σ : St} {H : Hp} {Q : VK} : Stp (tMthS C m sp E ta t σ H Q) (ta σ H fun x H1 => ∃ a dx fs, x = .ref a ∧ H1 a = some (.ins C dx fs) ∧ fs.lookup m = none ∧ t σ H1 fun vs H2 => sp (x :: vs) H2 Q (E σ)) := ⟨fun h => h⟩
instance s_try2 {K : PySem.W.Frag} {c c2 : Value} {i i2 : Nat} {tb : WX → TS} {ts ts2 : TS} {Wout : WX} {D : Ends} {σ : St} {H : Hp} : Stp (tTryT2 K c i c2 i2 tb ts ts2 Wout D σ H) (tb (wAsT K c i ts (wAsT K c2 i2 ts2 Wout D) D) D σ H) := ⟨fun h => h⟩
/-- what the law asks of the classes that it catches -/
structure XmK (K : PySem.W.Frag) (c : Cl) : Prop where
  uu : PySem.W.exmOne K (.ref c.k_Unknown) (.ref c.k_Unknown) = some true
  bb : PySem.W.exmOne K (.ref c.k_Broken) (.ref c.k_Broken) = some true
  nb : PySem.W.exmOne K (.ref c.k_NotHeld) (.ref c.k_Broken) = some false
  nn : PySem.W.exmOne K (.ref c.k_NotHeld) (.ref c.k_NotHeld) = some true
def tRefP (K : PySem.W.Frag) (c : Cl) (i : Nat) : TS := tRet (tLst (tCons (tC (.str "refused")) (tCons (tXt K "told" (tVar i)) (tCons (tTup (tCons (tXt K "place" (tVar i)) (tCons (tXt K "found" (tVar i)) tNil))) (tCons (tCall (sp_kinds K c) [] E0 (tCons (tVar i) tNil)) tNil)))))
def tRefB (K : PySem.W.Frag) (c : Cl) (i : Nat) : TS := tRet (tLst (tCons (tC (.str "refused")) (tCons (tXt K "told" (tVar i)) (tCons (tTup (tCons (tXt K "place" (tVar i)) (tCons (tXt K "found" (tVar i)) (tCons (tXt K "due" (tVar i)) tNil)))) (tCons (tCall (sp_kinds K c) [] E0 (tCons (tVar i) tNil)) tNil)))))
theorem lk0 {f : Str} {v : V} {fs : List (Str × V)} : List.lookup f ((f, v) :: fs) = some v := by rw [lookup_put, if_pos rfl]
section
variable {K : PySem.W.Frag} {c : Cl} {i : Nat} {σ : St} {H : Hp} {d e : Addr} {nx bk ct : St → Hp → Prop} {rt : VK}
theorem refu_unk {w : Str} (AK : AllK K c) (hσ : σ[i]? = some (some (.ref e))) (he : H e = none) (hB : ErAt H d "Unknown" [("parameter", .str w)] [.str w]) (k : ∀ v H', At H' v (refD2 "Unknown" (.tup [.str w])) → Same H H' → rt v H') :
    tRefu K c i ⟨nx, rt, bk, ct⟩ σ (upd H e (exi e (.ref c.k_Unknown) (some d))) := by
  obtain ⟨u1, u2, g1, g2, g3⟩ := hB
  unfold tRefu
  fold_lay
  refine i_var hσ ?_
  refine ⟨e, c.k_Unknown, d, _, .ref u2, rfl, upd_same, AK.k3.xf, AK.x3.nf "told" (by simp), upd_keep he g1, lk0, ?_⟩
  fold_lay
  refine i_var hσ ?_
  refine ⟨e, c.k_Unknown, d, _, .str w, rfl, upd_same, AK.k3.xf, AK.x3.nf "parameter" (by simp), upd_keep he g1, by rw [lookup_put, if_neg (by decide), lookup_put, if_pos rfl], ?_⟩
  fold_lay
  rename_i p hp
  refine i_var hσ ?_
  fold_lay
  refine ⟨e, d, c.k_Unknown, _, _, _, _, _, _, _, _, _, rfl, upd_keep hp upd_same, upd_keep hp (upd_keep he g1), AK.k3, fun q hq => ?_⟩
  fold_lay
  rename_i r hr
  refine k _ _ (.lst upd_same (.cons (.str _) (.cons (.tup (by kct_strs) (.cons (.str _) (.cons (.tup (by kct_strs) (.cons (.str _) .nil)) .nil))) (.cons (.tup (by kct_strs) (.cons (.str _) .nil)) (.cons (.lst (by kct_strs) ?_) .nil))))) (by mem_news)
  exact Ats_bls ([true, true] ++ yes "Unknown")
theorem refu_nh {a b : Int} (AK : AllK K c) (hσ : σ[i]? = some (some (.ref e))) (he : H e = none) (hB : nhA H d a b) (k : ∀ v H', At H' v (refD2 "NotHeld" (.tup [.int a, .int b])) → Same H H' → rt v H') :
    tRefP K c i ⟨nx, rt, bk, ct⟩ σ (upd H e (exi e (.ref c.k_NotHeld) (some d))) := by
  obtain ⟨u1, u2, g1, g2, g3⟩ := hB
  unfold tRefP
  fold_lay
  refine i_var hσ ?_
  refine ⟨e, c.k_NotHeld, d, _, .ref u2, rfl, upd_same, AK.k4.xf, AK.x4.nf "told" (by simp), upd_keep he g1, lk0, ?_⟩
  fold_lay
  refine i_var hσ ?_
  refine ⟨e, c.k_NotHeld, d, _, .int a, rfl, upd_same, AK.k4.xf, AK.x4.nf "place" (by simp), upd_keep he g1, by rw [lookup_put, if_neg (by decide), lookup_put, if_neg (by decide), lookup_put, if_pos rfl], ?_⟩
  fold_lay
  refine i_var hσ ?_
  refine ⟨e, c.k_NotHeld, d, _, .int b, rfl, upd_same, AK.k4.xf, AK.x4.nf "found" (by simp), upd_keep he g1, by rw [lookup_put, if_neg (by decide), lookup_put, if_pos rfl], ?_⟩
  fold_lay
  rename_i p hp
  refine i_var hσ ?_
  fold_lay
  refine ⟨e, d, c.k_NotHeld, _, _, _, _, _, _, _, _, _, rfl, upd_keep hp upd_same, upd_keep hp (upd_keep he g1), AK.k4, fun q hq => ?_⟩
  fold_lay
  rename_i r hr
  refine k _ _ (.lst upd_same (.cons (.str _) (.cons (.tup (by kct_strs) (.cons (.str _) (.cons (.tup (by kct_strs) (.cons (.int _) (.cons (.int _) .nil))) .nil))) (.cons (.tup (by kct_strs) (.cons (.int _) (.cons (.int _) .nil))) (.cons (.lst (by kct_strs) ?_) .nil))))) (by mem_news)
  exact Ats_bls ([true, true] ++ yes "NotHeld")
theorem refu_br {a b f : Int} (AK : AllK K c) (hσ : σ[i]? = some (some (.ref e))) (he : H e = none) (hB : brA H d a b f) (k : ∀ v H', At H' v (refD2 "Broken" (.tup [.int a, .int b, .int f])) → Same H H' → rt v H') :
    tRefB K c i ⟨nx, rt, bk, ct⟩ σ (upd H e (exi e (.ref c.k_Broken) (some d))) := by
  obtain ⟨u1, u2, g1, g2, g3⟩ := hB
  unfold tRefB
  fold_lay
  refine i_var hσ ?_
  refine ⟨e, c.k_Broken, d, _, .ref u2, rfl, upd_same, AK.k2.xf, AK.x2.nf "told" (by simp), upd_keep he g1, lk0, ?_⟩
  fold_lay
  refine i_var hσ ?_
  refine ⟨e, c.k_Broken, d, _, .int a, rfl, upd_same, AK.k2.xf, AK.x2.nf "place" (by simp), upd_keep he g1, by rw [lookup_put, if_neg (by decide), lookup_put, if_neg (by decide), lookup_put, if_neg (by decide), lookup_put, if_pos rfl], ?_⟩
  fold_lay
  refine i_var hσ ?_
  refine ⟨e, c.k_Broken, d, _, .int b, rfl, upd_same, AK.k2.xf, AK.x2.nf "found" (by simp), upd_keep he g1, by rw [lookup_put, if_neg (by decide), lookup_put, if_neg (by decide), lookup_put, if_pos rfl], ?_⟩
  fold_lay
  refine i_var hσ ?_
  refine ⟨e, c.k_Broken, d, _, .int f, rfl, upd_same, AK.k2.xf, AK.x2.nf "due" (by simp), upd_keep he g1, by rw [lookup_put, if_neg (by decide), lookup_put, if_pos rfl], ?_⟩
  fold_lay
  rename_i p hp
  refine i_var hσ ?_
  fold_lay
  refine ⟨e, d, c.k_Broken, _, _, _, _, _, _, _, _, _, rfl, upd_keep hp upd_same, upd_keep hp (upd_keep he g1), AK.k2, fun q hq => ?_⟩
  fold_lay
  rename_i r hr
  refine k _ _ (.lst upd_same (.cons (.str _) (.cons (.tup (by kct_strs) (.cons (.str _) (.cons (.tup (by kct_strs) (.cons (.int _) (.cons (.int _) (.cons (.int _) .nil)))) .nil))) (.cons (.tup (by kct_strs) (.cons (.int _) (.cons (.int _) (.cons (.int _) .nil)))) (.cons (.lst (by kct_strs) ?_) .nil))))) (by mem_news)
  exact Ats_bls ([true, true] ++ yes "Broken")
end
def doneD (d : Dt) : Dt := .lst [.str "done", d]
def sp_ended (K : PySem.W.Frag) (c : Cl) : Sp := fun vs H Q _ => ∃ (A : GA) (S : GS) (t : Str), vs = [.ref A.g, .str t] ∧ Gd c H A S ∧ GdE K c ∧ AllK K c ∧ XmK K c ∧ (t = "begin" ∨ t = "commit" ∨ t = "cancel") ∧
  (t = "begin" → S.ds.length < 1000 ∧ ∀ d v H', Gd c H' (inA A d) { S with ds := S.ds ++ [[]] } → H d = none → Out [A.o] H H' → At H' v (doneD (.int (S.ds.length + 1 : Nat))) → Q v H') ∧
  (t ≠ "begin" → S.ds = [] → ∀ v H', Same H H' → At H' v (refD2 "Unknown" (.tup [.str "deed"])) → Q v H') ∧
  (t = "cancel" → ∀ ds0 es, S.ds = ds0 ++ [es] → ∀ dd0 d v H', A.dd = dd0 ++ [d] → Gd c H' { A with dd := dd0 } { S with ws := restW es S.ws, hs := restH es S.hs, ds := ds0 } → Out [A.w, A.h, A.o] H H' → At H' v (doneD .non) → Q v H') ∧
  (t = "commit" → ∀ es, S.ds = [es] → (∀ a, S.al = some a → ((costOf S.ws S.hs es : Nat) : Int) ≤ a) ∧ ∀ v H', Gd c H' { A with dd := [] } { S with al := S.al.map (· - (costOf S.ws S.hs es : Nat)), ch := S.ch + (costOf S.ws S.hs es : Nat), ds := [] } → Out [A.g, A.o] H H' → At H' v (doneD (.int (costOf S.ws S.hs es : Nat))) → Q v H') ∧
  (t = "commit" → ∀ ds0 es1 es, S.ds = ds0 ++ [es1] ++ [es] → ∀ dd0 d1 d v H', A.dd = dd0 ++ [d1] ++ [d] → Gd c H' { A with dd := dd0 ++ [d1] } { S with ds := ds0 ++ [merge es1 es] } → Out [A.o, d1] H H' → At H' v (doneD (.int (costOf S.ws S.hs es : Nat))) → Q v H')
def N_l_ended : List Str := ["_law_ground", "_law_title", "e"]
def t_l_ended (K : PySem.W.Frag) (c : Cl) : TS := (tTryT K (.ref c.k_Unknown) 2 (fun W => (tSeq (tIfS (tTest (tOp rEq (tVar 1) (tC (.str "begin")))) (tRet (tLst (tCons (tC (.str "done")) (tCons (tMeth c.k_Ground "begin" (sp_begin K c) [] E0 (tVar 0) tNil) tNil)))) tNext)
  (tSeq (tIfS (tTest (tOp rEq (tVar 1) (tC (.str "commit")))) (tRet (tLst (tCons (tC (.str "done")) (tCons (tMthS c.k_Ground "commit" (sp_commit K c) (WE W) (tVar 0) tNil) tNil)))) tNext)
  (tRet (tLst (tCons (tC (.str "done")) (tCons (tMthS c.k_Ground "cancel" (sp_cancel K c) (WE W) (tVar 0) tNil) tNil))))))) (tRet (tLst (tCons (tC (.str "refused")) (tCons (tXt K "told" (tVar 2)) (tCons (tTup (tCons (tXt K "parameter" (tVar 2)) tNil)) (tCons (tCall (sp_kinds K c) [] E0 (tCons (tVar 2) tNil)) tNil)))))) (fun _ _ _ _ => False))
theorem at_done {H : Hp} {p : Addr} {v : V} {d : Dt} (h : At H v d) (hp : H p = none) : At (upd H p (.lst [.str "done", v])) (.ref p) (doneD d) := .lst upd_same (.cons (.str _) (.cons (h.mono (same_new hp)) .nil))
theorem pure_ended {K : PySem.W.Frag} {c : Cl} {vs : List V} {H : Hp} {Q : VK} {E : XK} (h : sp_ended K c vs H Q E) : t_l_ended K c { nx := fun _ H' => Q .non H', rt := Q } (start N_l_ended vs) H := by
  obtain ⟨A, S, t, rfl, G, R, AK, X, ht, kb, ku, kx, kc, kd⟩ := h
  have unk : t ≠ "begin" → S.ds = [] → ∀ d H', unkA H' d → Same H H' → ∃ yes, PySem.W.exmOne K (.ref c.k_Unknown) (.ref c.k_Unknown) = some yes ∧ (yes = false → False) ∧ (yes = true → ∀ a, H' a = none → tRefu K c 2 ⟨fun σ' H' => Q .non H', Q, fun σ' H' => False, fun σ' H' => False⟩ [some (.ref A.g), some (.str t), some (.ref a)] (upd H' a (exi a (.ref c.k_Unknown) (some d)))) := fun n e d H' hd s =>
    ⟨true, X.uu, fun z => (by cases z), fun _ a ha => refu_unk AK rfl ha hd fun v H2 hv s2 => ku n e v H2 (s.trans s2) hv⟩
  unfold t_l_ended
  rcases ht with rfl | rfl | rfl
  · obtain ⟨dl, kb⟩ := kb rfl
    fold_lay
    fold_depth
    refine i_yes rfl ?_
    fold_lay
    refine i_meth G lkm_begin ?_
    fold_lay
    refine ⟨A, S, rfl, G, R.gk, dl, fun d H' G' hd O => ?_⟩
    fold_lay
    rename_i p hp
    exact kb d _ _ (G'.mono (same_new hp)) hd (O.trans (Same.out (same_new hp))) (at_done (.int _) hp)
  · fold_lay
    fold_depth
    refine i_no (by decide) ?_
    fold_lay
    fold_depth
    refine i_yes rfl ?_
    fold_lay
    refine i_meth G lkm_commit ?_
    fold_lay
    refine ⟨A, S, rfl, G, R.gk, R.eu, R.ec, G.shorts, fun e d H' hd s => unk (by decide) e d H' hd s, fun es eS d ed => ⟨fun ha H' G' O' => ?_, fun a ha hle H' G' O' => ?_, fun a ha hlt => ?_⟩, fun ds0 es1 es eS dd0 d1 d ed H' G' O' => ?_⟩
    · obtain ⟨kc1, kc2⟩ := kc rfl es eS
      fold_lay
      rename_i p hp
      refine kc2 _ _ ?_ (O'.trans (Same.out (same_new hp))) (at_done (.int _) hp)
      have := G'.mono (same_new (o := .lst [.str "done", .int (costOf S.ws S.hs es : Nat)]) hp)
      rw [ha]
      rw [ha] at this
      exact this
    · obtain ⟨kc1, kc2⟩ := kc rfl es eS
      fold_lay
      rename_i p hp
      refine kc2 _ _ ?_ (O'.trans (Same.out (same_new hp))) (at_done (.int _) hp)
      have := G'.mono (same_new (o := .lst [.str "done", .int (costOf S.ws S.hs es : Nat)]) hp)
      rw [ha]
      exact this
    · have := (kc rfl es eS).1 a ha
      omega
    · fold_lay
      rename_i p hp
      exact kd rfl ds0 es1 es eS dd0 d1 d _ _ ed (G'.mono (same_new hp)) (O'.trans (Same.out (same_new hp))) (at_done (.int _) hp)
  · fold_lay
    fold_depth
    refine i_no (by decide) ?_
    fold_lay
    fold_depth
    refine i_no (by decide) ?_
    fold_lay
    refine i_meth G lkm_cancel ?_
    fold_lay
    refine ⟨A, S, rfl, G, R.gk, R.eu, fun e d H' hd s => unk (by decide) e d H' hd s, fun ds0 es eS => ⟨G.shorts es (by rw [eS]; simp), fun dd0 d H' ed G' O' => ?_⟩⟩
    fold_lay
    rename_i p hp
    exact kx rfl ds0 es eS dd0 d _ _ ed (G'.mono (same_new hp)) (O'.trans (Same.out (same_new hp))) (at_done .non hp)
/-! a deed done -/
def deedErr : Str × List Int → Dt := fun x => refD2 x.1 (.tup (x.2.map Dt.int))
def sp_done (K : PySem.W.Frag) (c : Cl) : Sp := fun vs H Q _ => ∃ (A : GA) (S : GS) (a : Addr) (D : Deed), vs = [.ref A.g, .ref a] ∧ H a = some (.tup D.vs) ∧ D.Ok S.ws.length ∧ Gd c H A S ∧ GdE K c ∧ AllK K c ∧ XmK K c ∧ S.ds.length < 1000 ∧
  (∀ x, D.due S = some x → ∀ v H', Same H H' → At H' v (deedErr x) → Q v H') ∧
  (D.due S = none → DeedOk c A S (D.chg S) H (fun H1 => ∀ v H', Same H1 H' → At (nw H1 H') v (doneD .non) → Q v H') (fun _ _ _ => False))
def N_l_done : List Str := ["_law_ground", "_law_deed", "e"]
def t_l_done (K : PySem.W.Frag) (c : Cl) : TS := (tTryT2 K (.ref c.k_Broken) 2 (.ref c.k_NotHeld) 2 (fun W => (tSeq (tIfS (tTest (tOp rEq (tOp (rIxT K) (tVar 1) (tC (.int 0))) (tC (.str "write")))) (tRet (tLst (tCons (tC (.str "done")) (tCons (tMthS c.k_Ground "write" (sp_write K c) (WE W) (tVar 0) (tCons (tOp (rIxT K) (tVar 1) (tC (.int 1))) (tCons (tOp (rIxT K) (tVar 1) (tC (.int 2))) (tCons (tOp (rIxT K) (tVar 1) (tC (.int 3))) tNil)))) tNil)))) tNext)
  (tSeq (tIfS (tTest (tOp rEq (tOp (rIxT K) (tVar 1) (tC (.int 0))) (tC (.str "poke")))) (tRet (tLst (tCons (tC (.str "done")) (tCons (tMthS c.k_Ground "poke" (sp_poke K c) (WE W) (tVar 0) (tCons (tOp (rIxT K) (tVar 1) (tC (.int 1))) (tCons (tOp (rIxT K) (tVar 1) (tC (.int 2))) tNil))) tNil)))) tNext)
  (tRet (tLst (tCons (tC (.str "done")) (tCons (tMthS c.k_Ground "pass_on" (sp_pass_on K c) (WE W) (tVar 0) (tCons (tOp (rIxT K) (tVar 1) (tC (.int 1))) (tCons (tOp (rIxT K) (tVar 1) (tC (.int 2))) (tCons (tOp (rIxT K) (tVar 1) (tC (.int 3))) (tCons (tOp (rIxT K) (tVar 1) (tC (.int 4))) tNil))))) tNil))))))) (tRet (tLst (tCons (tC (.str "refused")) (tCons (tXt K "told" (tVar 2)) (tCons (tTup (tCons (tXt K "place" (tVar 2)) (tCons (tXt K "found" (tVar 2)) (tCons (tXt K "due" (tVar 2)) tNil)))) (tCons (tCall (sp_kinds K c) [] E0 (tCons (tVar 2) tNil)) tNil)))))) (tRet (tLst (tCons (tC (.str "refused")) (tCons (tXt K "told" (tVar 2)) (tCons (tTup (tCons (tXt K "place" (tVar 2)) (tCons (tXt K "found" (tVar 2)) tNil))) (tCons (tCall (sp_kinds K c) [] E0 (tCons (tVar 2) tNil)) tNil)))))) (fun _ _ _ _ => False))
theorem DeedOk.imp {c : Cl} {A : GA} {S : GS} {l : List En} {H : Hp} {Q Q' : Hp → Prop} {E E' : XK} (h : DeedOk c A S l H Q E) (q : ∀ H', Q H' → Q' H') (e : ∀ x y H', E x y H' → E' x y H') : DeedOk c A S l H Q' E' :=
  ⟨fun a b H' g o => q _ (h.free a b H' g o), fun a x b l H' g o => q _ (h.paid a x b l H' g o), fun a x b l y H' c g o => e _ _ _ (h.cut a x b l y H' c g o), fun a b e H' g o => q _ (h.inner a b e H' g o)⟩
theorem pure_done {K : PySem.W.Frag} {c : Cl} {vs : List V} {H : Hp} {Q : VK} {E : XK} (h : sp_done K c vs H Q E) : t_l_done K c { nx := fun _ H' => Q .non H', rt := Q } (start N_l_done vs) H := by
  obtain ⟨A, S, a, D, rfl, ha, ok, G, R, AK, X, dl, kE, kQ⟩ := h
  let W0 : WX := wAsT K (.ref c.k_Broken) 2 (tRefB K c 2) (wAsT K (.ref c.k_NotHeld) 2 (tRefP K c 2) (fun _ _ _ _ => False) { nx := fun _ H' => Q .non H', rt := Q }) { nx := fun _ H' => Q .non H', rt := Q }
  have nh : ∀ p f, D.due S = some (("NotHeld" : Str), [p, f]) → ∀ d H', nhA H' d p f → Same H H' → W0 (.ref c.k_NotHeld) (some d) [some (.ref A.g), some (.ref a), none] H' := fun p f e d H' hd s =>
    ⟨false, X.nb, fun _ => ⟨true, X.nn, fun z => (by cases z), fun _ x hx => refu_nh AK rfl hx hd fun v H2 hv s2 => kE _ e v H2 (s.trans s2) hv⟩, fun z => (by cases z)⟩
  have br : ∀ p f b, D.due S = some (("Broken" : Str), [p, f, b]) → ∀ d H', brA H' d p f b → Same H H' → W0 (.ref c.k_Broken) (some d) [some (.ref A.g), some (.ref a), none] H' := fun p f b e d H' hd s =>
    ⟨true, X.bb, fun z => (by cases z), fun _ x hx => refu_br AK rfl hx hd fun v H2 hv s2 => kE _ e v H2 (s.trans s2) hv⟩
  have fin : ∀ (l : List En), DeedOk c A S l H (fun H1 => ∀ v H', Same H1 H' → At (nw H1 H') v (doneD .non) → Q v H') (fun _ _ _ => False) → ∀ (E' : XK), DeedOk c A S l H (fun H' => ∀ p, H' p = none → Q (.ref p) (upd H' p (.lst [.str "done", .non]))) E' := fun l h E' => h.imp (fun H' q p hp => q _ _ (same_new hp) (.lst (nw_to hp upd_same) (.cons (.str _) (.cons .non .nil)))) fun _ _ _ z => z.elim
  unfold t_l_done
  cases D with
  | wr p wd hd =>
    obtain ⟨p0, p1, w0, h0, h1⟩ := ok
    have ha : H a = some (.tup [.str "write", .int p, .int wd, .int hd]) := ha
    fold_lay
    fold_depth
    refine i_yes rfl ?_
    fold_lay
    refine i_meth G lkm_write ?_
    fold_lay
    have b0 : badWr S.ws.length (.int p) (.int wd) (.int hd) = none := by
      have e1 : vR 0 ((S.ws.length : Int) - 1) (.int p) = true := by simp [vR]; omega
      have e2 : vR 0 65535 (.int wd) = true := by simp [vR]; exact w0
      have e3 : vU (.int hd) = true := by simp [vU, h0, h1]
      simp [badWr, e1, e2, e3]
    refine ⟨A, S, _, _, _, "int", "int", "int", rfl, G, R, .int _, .int _, .int _, dl, fun t z => ?_, fun _ p' w' h' e1 e2 e3 => ?_⟩
    · rw [b0] at z
      cases z
    · cases e1; cases e2; cases e3
      refine ⟨fun ne d H' hd' s => ?_, fun e => ?_⟩
      · refine nh p _ ?_ d H' hd' s
        simp only [Deed.due]
        rw [if_pos ne]
      · refine (fin _ (kQ ?_) _).imp (fun H' q => ?_) fun _ _ _ z => z
        · simp only [Deed.due]
          rw [if_neg (fun q => q e)]
        · fold_lay
          rename_i r hr
          exact q r hr
  | pk p wd =>
    obtain ⟨p0, p1, w0⟩ := ok
    have ha : H a = some (.tup [.str "poke", .int p, .int wd]) := ha
    fold_lay
    fold_depth
    refine i_no (by decide) ?_
    fold_lay
    fold_depth
    refine i_yes rfl ?_
    fold_lay
    refine i_meth G lkm_poke ?_
    fold_lay
    have b0 : badPk S.ws.length (.int p) (.int wd) = none := by
      have e1 : vR 0 ((S.ws.length : Int) - 1) (.int p) = true := by simp [vR]; omega
      have e2 : vR 0 65535 (.int wd) = true := by simp [vR]; exact w0
      simp [badPk, e1, e2]
    refine ⟨A, S, _, _, "int", "int", rfl, G, R, .int _, .int _, dl, fun t z => ?_, fun _ p' w' e1 e2 => ?_⟩
    · rw [b0] at z
      cases z
    · cases e1; cases e2
      refine (fin _ (kQ rfl) _).imp (fun H' q => ?_) fun _ _ _ z => z
      fold_lay
      rename_i r hr
      exact q r hr
  | ps s n g t =>
    obtain ⟨p0, p1, p2, g0, t0⟩ := ok
    have ha : H a = some (.tup [.str "pass_on", .int s, .int n, .int g, .int t]) := ha
    fold_lay
    fold_depth
    refine i_no (by decide) ?_
    fold_lay
    fold_depth
    refine i_no (by decide) ?_
    fold_lay
    refine i_meth G lkm_pass_on ?_
    fold_lay
    have b0 : badPs S.ws.length (.int s) (.int n) (.int g) (.int t) = none := by
      have e1 : vR 0 ((S.ws.length : Int) - 1) (.int s) = true := by simp [vR]; omega
      have e2 : vR 1 ((S.ws.length : Int) - s) (.int n) = true := by simp [vR]; omega
      simp [badPs, e1, vZ, e2, g0, t0]
    refine ⟨A, S, _, _, _, _, "int", "int", "int", "int", rfl, G, R, .int _, .int _, .int _, .int _, dl, fun t z => ?_, fun _ s' n' g' t' e1 e2 e3 e4 => ?_⟩
    · rw [b0] at z
      cases z
    · cases e1; cases e3; cases e4
      obtain rfl : n = n' := by have := V.int.inj e2; omega
      refine ⟨fun gz p hp d H' hd s1 => ?_, fun gz => ⟨fun p hp d H' hd s1 => ?_, fun hn => ?_⟩⟩
      · refine br p _ _ ?_ d H' hd s1
        simp only [Deed.due]
        rw [if_pos gz, hp]
      · refine nh p _ ?_ d H' hd s1
        simp only [Deed.due]
        have : (if g = 0 then firstP (brk S) s n else none) = none := by
          split
          · exact gz (by assumption)
          · rfl
        rw [this, hp]
        rfl
      · have : (if g = 0 then firstP (brk S) s n else none) = none := by
          split
          · exact gz (by assumption)
          · rfl
        refine (fin _ (kQ ?_) _).imp (fun H' q => ?_) fun _ _ _ z => z
        · simp only [Deed.due]
          rw [this, hn]
          rfl
        · fold_lay
          rename_i r hr
          exact q r hr
/-! ## Rules2 -/
/-! Own rules, more of them: list.count of flat items. -/
def rCountF (K : PySem.W.Frag) : V → List V → Hp → VK → Prop := fun x xs H Q => ∃ (a : Addr) (ys : List V) (y : V), x = V.ref a ∧ xs = [y] ∧ SqL K H a ys ∧ flatV y = true ∧ ys.all flatV = true ∧ Q (.int (ys.countP fun z => eqV z y : Nat)) H
theorem countF {y : V} {u : Value} (ry : RelV y u) (fy : flatV y = true) : ∀ {ys : List V} {us : List Value}, Vals ys us → ys.all flatV = true → us.countP (eqU y) = ys.countP fun z => eqV z y
  | _, _, .nil, _ => rfl
  | _, _, .cons (a := z) r rs, h => by
    rw [List.all_cons, Bool.and_eq_true] at h
    rw [List.countP_cons, List.countP_cons, countF ry fy rs h.2, eqU_of r h.1]
theorem mt_countF {X : Cx} : MtR X "list.count" (rCountF X.K) := by
  intro pins s σ H x xs v us Q I rx rxs h
  obtain ⟨a, ys, y, rfl, rfl, hs, fy, fys, q⟩ := h
  cases rx
  obtain ⟨uy, rfl, ry⟩ := rxs.one
  obtain ⟨its, rv, ⟨⟨cls, dd, data, sl⟩, n, ho, hc, hdn, hd⟩, hlen⟩ := I.list hs
  simp only at hc hd
  subst hc hd
  refine call_meets PySem.F.slot_list_count ⟨_, ho, rfl⟩ PySem.F.entry_list_count (PySem.F.args_list_count_2 _ _)
    (SeqAt.list_countAt a its.toArray n dd sl uy (eqU y)) ⟨ho, fun u' hu' => mem_eqAt ry fy rv fys u' (by simpa using hu'), ?_⟩
  have ec : its.toArray.toList.countP (eqU y) = ys.countP fun z => eqV z y := countF ry fy rv fys
  refine ⟨.int (ys.countP fun z => eqV z y : Nat), H, I.tok _, ⟨s.toks, ?_⟩, q⟩
  show Value.int ((its.toArray.toList.countP (eqU y) : Nat) : Int) s.toks = Value.int ((ys.countP fun z => eqV z y : Nat) : Int) s.toks
  rw [ec]
/-! ## Rules5 -/
/-! Own rules: defs called within an except suite that know the handled exception (tracked at x1), and may call defs with loops. -/
/-! ### a call of a def that needs the handled exception pinned, where it is tracked -/
def tCallH (x1 : Addr) (sp : Sp) (t : TA) : TE := fun σ H Q => t σ H fun vs H1 => ∃ cls d, H1 x1 = some (exi x1 cls d) ∧ sp vs (hid x1 H1) (fun v H2 => Q v (upd H2 x1 (exi x1 cls d))) E0
theorem exi_ne_own {x1 a : Addr} {cls : Value} {d : Option Addr} : exi x1 cls d ≠ .own a := fun h => by unfold exi at h; cases h
theorem exi_ne_tup {x1 : Addr} {xs : List V} {cls : Value} {d : Option Addr} : exi x1 cls d ≠ .tup xs := fun h => by unfold exi at h; cases h
theorem hok_hid {P : Program} {w : World} {H : Hp} {g : Heap} {x1 : Addr} {cls : Value} {d : Option Addr} (ok : HOk P w H g) (he : H x1 = some (exi x1 cls d)) : HOk P w (hid x1 H) g := fun b o e => by
  obtain ⟨e1, n⟩ := hid_of e
  refine (ok b o e1).stay (fun _ _ _ q => q) (fun b' q => hid_to q fun z => ?_) fun b' xs q => hid_to q fun z => ?_
  · rw [z, he] at q
    exact exi_ne_own (Option.some.inj q)
  · rw [z, he] at q
    exact exi_ne_tup (Option.some.inj q)
theorem run_fnHT {X : Cx} {k : Nat} {f x1 : Addr} {fd : FuncData} {ps : List Str} {sp : Sp} {pins : List (Addr × Obj)} {σ : St} {H : Hp} {s : Shared} {Q : VK} {us : List Value} {vs : List V} {cls : Value} {d : Option Addr} (F : L2H.FnH X.prog X.w X.K X.mg X.base CX0 k f fd ps sp) (hr : L2H.RoomH k X.A) (hh : X.A.handled = some (.ref x1)) (hb : Binds X.K fd ps [])
    (I : Inv X pins σ H s) (r : Vals vs us) (he : H x1 = some (exi x1 cls d)) (h : sp vs (hid x1 H) (fun v H2 => Q v (upd H2 x1 (exi x1 cls d))) E0) : wpAny (model X.prog X.w) X.A (call (.ref f) us) (EP X pins σ Q) X.xe s := by
  have hl : us.length = ps.length := by rw [← r.length]; exact F.len _ _ _ _ h
  have b := hb s us I.kIn (by rw [List.append_nil]; exact hl)
  rw [List.append_nil] at b
  obtain ⟨ob, fv, g1, g2, g3⟩ := exi_at I.hok he
  have hx : hid x1 H x1 = none := if_pos rfl
  have nfs : x1 ∉ frs X.stack := fun z => by
    have := I.stkFree x1 z
    rw [he] at this
    cases this
  have hn : ∀ {b}, H b = none → hid x1 H b = none := fun {b} e => by
    unfold hid
    split
    · rfl
    · exact e
  have pin : L2H.PinOk X.stack (hid x1 H) s (x1, ob) := ⟨g1, hx, nfs, fun v z => by rw [g3] at z; cases z⟩
  have hot : L2H.Hot1 X.A (x1, ob) := ⟨hh, fv, g3, g2.2.2 fv g3⟩
  have e0 := I.env0
  have e1 : Env0 X.prog X.w X.K X.mg X.base X.A X.stack s (hid x1 H) := ⟨e0.frames, e0.mod, fun b o e => ⟨(e0.bs b o e).1, hn (e0.bs b o e).2⟩, e0.bsz, e0.funs, fun b m => hn (e0.frf b m), hok_hid e0.hok he, e0.bare⟩
  refine wpAny_call (codeAny_mono (F.run X.A X.stack s (hid x1 H) ⟨us, []⟩ us vs _ E0 (x1, ob) hr hot pin e1 b r h) fun res s' hq => ?_)
  rcases res with er | fl
  · exact False.elim hq
  · cases fl with
    | ret u =>
      obtain ⟨v, H', os, bare, un, hok, rv, q⟩ := (show CE X.stack X.prog X.w (hid x1 H) s _ u s' from hq)
      have f1 : H' x1 = none := un.free x1 ob g1 hx (by simp)
      have g4 := un.keep x1 ob g1 hx nfs (by simp)
      have nx : ∀ {b}, H b = none → b ≠ x1 := fun e z => by rw [z, he] at e; cases e
      have up : ∀ {b o}, H' b = some o → upd H' x1 (exi x1 cls d) b = some o := fun {b o} e => by rw [upd_ne (ne_of_none e f1)]; exact e
      refine I.after ⟨v, upd H' x1 (exi x1 cls d), os, bare, ?_, fun b o e => ?_, rv, q⟩
      · refine ⟨fun b o e n hb hx => un.keep b o e (hn n) hb hx, fun b o e n hb hx => un.slot b o e (hn n) hb hx, fun b o e n hx => ?_, un.there, fun b xs e => up (un.tups b xs (hid_to e fun z => ?_)), fun b o u e => up (un.frzs b o u (hid_to e fun z => ?_)), fun b ps' e => ?_⟩
        · rw [upd_ne (nx n)]
          exact un.free b o e (hn n) hx
        · rw [z, he] at e
          exact exi_ne_tup (Option.some.inj e)
        · rw [z, he] at e
          cases e
        · obtain ⟨m, q⟩ := un.tbls b ps' (hid_to e fun z => by
            rw [z, he] at e
            cases e)
          exact ⟨m, up q⟩
      · by_cases hbx : b = x1
        · rw [hbx, upd_same] at e
          rw [hbx, ← Option.some.inj e]
          exact exi_ok g4 g2 g3
        · rw [upd_ne hbx] at e
          exact (hok b o e).stay (fun _ _ _ q => q) (fun _ q => up q) fun _ _ q => up q
    | _ => exact False.elim hq
section
variable {X : Cx} {k : Nat} {f x1 : Addr} {fd : FuncData} {ps : List Str} {x : Str} {q pos : Pos} {e : Expr} {es : List Expr} {t : TA}
theorem pe_callHT {sp : Sp} (F : L2H.FnH X.prog X.w X.K X.mg X.base CX0 k f fd ps sp) (hr : L2H.RoomH k X.A) (hh : X.A.handled = some (.ref x1)) (hg : Gl X x) (hm : X.mg x = some (.ref f)) (hk : PySem.W.keepIn X.K (.ref f) = true) (hb : Binds X.K fd ps [])
    (ha : PA X (e :: es) t) (hdb : (x == ("__debug__" : Str)) = false := by decide) (he : starEach (e :: es) X.env = (false, eval e X.env) :: starEach es X.env := by rfl) (hpl : (backTo pos (starEach es X.env)).any (·.1) = false := by rfl) : PE X (.Call (.Name x q) (e :: es) [] pos) (tCallH x1 sp t) := by
  constructor
  intro pins s σ H Q I h
  refine wpAny_Call_Name_kw (ld_glob I hg hm (PySem.W.callWith_K (h₀ := X.base) I.ok.mod.kin hk (thn (ha.run pos pins s σ H _ I h) fun us s1 ⟨vs, H1, J, rel, cls, d, hx, pre⟩ => ⟨J.kIn, ?_⟩) he hpl) hdb)
  exact run_fnHT F hr hh hb J rel hx pre
/-- within such a def: the recursion's call, and others of its kind -/
theorem pe_callHH {sp : Sp} (F : L2H.FnH X.prog X.w X.K X.mg X.base CX0 k f fd ps sp) (hr : L2H.RoomH k X.A) (hc : L2H.HotC X) (hg : Gl X x) (hm : X.mg x = some (.ref f)) (hk : PySem.W.keepIn X.K (.ref f) = true) (hb : Binds X.K fd ps [])
    (ha : PA X (e :: es) t) (hdb : (x == ("__debug__" : Str)) = false := by decide) (he : starEach (e :: es) X.env = (false, eval e X.env) :: starEach es X.env := by rfl) (hpl : (backTo pos (starEach es X.env)).any (·.1) = false := by rfl) : PE X (.Call (.Name x q) (e :: es) [] pos) (tCall sp [] E0 t) := by
  constructor
  intro pins s σ H Q I h
  refine (L2H.pe_callH F hr hc hg hm hk hb (E := fun _ => E0) (fun σ pins H s e s' I h => h.elim) ha hdb he hpl).run pins s σ H Q I ?_
  have : (tCall sp [] E0 t) = tCallS sp (fun _ => E0) t := by
    funext σ H Q
    show (t σ H fun vs H1 => sp (vs ++ []) H1 Q E0) = (t σ H fun vs H1 => sp vs H1 Q E0)
    simp only [List.append_nil]
  rw [← this]
  exact h
end
/-! ### defs that know the handled exception -/
structure FnT (P : Program) (w : World) (K : PySem.W.Frag) (mg : Str → Option Value) (base : Heap) (k : Nat) (f : Addr) (fd : FuncData) (ps : List Str) (sp : Addr → Sp) : Prop where
  len : ∀ x1 xs G R Z, sp x1 xs G R Z → xs.length = ps.length
  run : ∀ (A : Around) (outer : List Env) (s : Shared) (H : Hp) (args : Args) (us : List Value) (vs : List V) (Q : VK) (E : XK) (x1 : Addr), L2H.RoomH k A → A.handled = some (.ref x1) → Env0 P w K mg base A outer s H → BindsTo s fd args (ps.zip us) → Vals vs us → sp x1 vs H Q E → codeAny (model P w) A (.call (.ref f) args) (CR CX0 outer P w H s Q E) s
theorem Fun_okT {P : Program} {w : World} {K : PySem.W.Frag} {mg : Str → Option Value} {base : Heap} {x qual : Str} {st : Stmt} {f : Addr} {fd : FuncData} {N ps : List Str} {k : Nat} {sp : Addr → Sp} (F : Fun K x qual st f fd) (S : FnScope N ps (defScope st)) (len : ∀ x1 vs H Q E, sp x1 vs H Q E → vs.length = ps.length)
    (bod : ∀ (cdv : Value) (A : Around) (outer : List Env) (s : Shared) (H : Hp) (vs : List V) (Q : VK) (E : XK) (x1 : Addr), A.handled = some (.ref x1) → L2H.RoomH k (A.deeper (envOfC qual (defScope st) s.heap.objs.size f cdv)) → sp x1 vs H Q E →
      ∃ t, PSs (cxU P w K mg base N qual (defScope st) f cdv A outer s H E).nox (defBody st) t ∧ t { nx := fun _ H' => Q .non H', rt := Q } (L2.start N vs) H) : FnT P w K mg base (k + 1) f fd ps sp := by
  rcases F.ex with ⟨oc, od, kV, doc, pm, an, cdv, ct, osl, rfl, lk, code⟩
  refine ⟨len, fun A outer s H args us vs Q E x1 room hh env bind rel pre => ?_⟩
  have up : ∀ b o, base.get? b = some o → s.heap.get? b = some o := fun b o e => (env.bs b o e).1
  have KX : K.In s.heap := env.mod.kin.keeps up
  have kinds : ∀ y ∈ ps.zip us, (defScope st).names.lookup y.1 = some .local ∨ ((defScope st).names.lookup y.1 = some .cell ∧ ((cellsFrom (s.heap.objs.size + 1) (defScope st).names []).lookup y.1).isSome = true) := fun y hy =>
    (S.par y.1 (List.of_mem_zip (a := y.1) (b := y.2) hy).1).imp id fun q => ⟨q, PySem.W.cellsFrom_some _ _ _ (.inl q)⟩
  refine codeAny_call_function room.depth (KX _ _ lk) rfl S.co S.gen rfl (PySem.W.codeRec_of KX code) (bind _ _ _ _ (wpAny_newFunctionEnv_cells S.kind kinds fun ev hev s1 ic => ?_))
  subst hev
  refine ⟨(env.mod.nolimit.keeps up).keeps ic.toInCall.keep, codeAny_func ?_⟩
  obtain ⟨t, ht, rd⟩ := bod cdv A outer s H vs Q E x1 hh (room.deeper _) pre
  refine wpAny_mono (ht.nox.run [] s1 (L2.start N vs) H _ (inv_startU S env (len _ _ _ _ _ pre) rel ic) rd) (fun fl s' z => ?_) fun _ _ z => z
  cases fl with
  | ret u => exact z.elim fun v ⟨_, H', J, rv, q⟩ => ⟨v, H', J.os, J.bare, J.base, J.hok, rv, q⟩
  | next => exact z.elim fun _ ⟨H', J, q⟩ => ⟨V.non, H', J.os, J.bare, J.base, J.hok, rfl, q⟩
  | _ => exact z.elim fun _ ⟨_, _, q⟩ => q.elim
theorem pe_callT {X : Cx} {k : Nat} {f x1 : Addr} {fd : FuncData} {ps : List Str} {sp : Addr → Sp} {x : Str} {q pos : Pos} {e : Expr} {es : List Expr} {t : TA} (F : FnT X.prog X.w X.K X.mg X.base k f fd ps sp) (room : L2H.RoomH k X.A) (hh : X.A.handled = some (.ref x1)) (hg : Gl X x) (hm : X.mg x = some (.ref f)) (hk : PySem.W.keepIn X.K (.ref f) = true) (hb : Binds X.K fd ps [])
    (ha : PA X (e :: es) t) (hdb : (x == ("__debug__" : Str)) = false := by decide) (he : starEach (e :: es) X.env = (false, eval e X.env) :: starEach es X.env := by rfl) (hpl : (backTo pos (starEach es X.env)).any (·.1) = false := by rfl) : PE X (.Call (.Name x q) (e :: es) [] pos) (tCall (sp x1) [] E0 t) := by
  constructor
  intro pins s σ H Q I h
  refine wpAny_Call_Name_kw (ld_glob I hg hm (PySem.W.callWith_K (h₀ := X.base) I.ok.mod.kin hk (thn (ha.run pos pins s σ H _ I h) fun us s1 ⟨vs, H1, J, rel, pre⟩ => ⟨J.kIn, ?_⟩) he hpl) hdb)
  have pre : sp x1 vs H1 Q E0 := by
    have z : sp x1 (vs ++ []) H1 Q E0 := pre
    rwa [List.append_nil] at z
  have bind : BindsTo s1 fd ⟨us, []⟩ (ps.zip us) := by
    have z := hb s1 us J.kIn (by rw [List.append_nil, ← rel.length]; exact F.len _ _ _ _ _ pre)
    rwa [List.append_nil] at z
  refine wpAny_call (codeAny_mono (F.run X.A X.stack s1 H1 ⟨us, []⟩ us vs Q E0 x1 room hh J.env0 bind rel pre) fun res s' z => ?_)
  rcases res with er | fl
  · exact False.elim z
  · cases fl with
    | ret u => exact J.after z
    | _ => exact False.elim z
/-! ### defs with loops that run while an exception is handled -/
theorem Fun_okH {P : Program} {w : World} {K : PySem.W.Frag} {mg : Str → Option Value} {base : Heap} {x qual : Str} {st : Stmt} {f : Addr} {fd : FuncData} {N ps : List Str} {k : Nat} {sp : Sp} (F : Fun K x qual st f fd) (S : FnScope N ps (defScope st)) (len : ∀ vs H Q E, sp vs H Q E → vs.length = ps.length)
    (bod : ∀ (cdv : Value) (A : Around) (outer : List Env) (s : Shared) (H : Hp) (vs : List V) (Q : VK) (E : XK) (p : Addr × Obj), L2H.Hot1 A p → L2H.RoomH k (A.deeper (envOfC qual (defScope st) s.heap.objs.size f cdv)) → sp vs H Q E →
      ∃ t, PSs (L2H.cxH CX0 P w K mg base N qual (defScope st) f cdv A outer s H E p).nox (defBody st) t ∧ t { nx := fun _ H' => Q .non H', rt := Q } (L2.start N vs) H) : L2H.FnH P w K mg base CX0 (k + 1) f fd ps sp := by
  rcases F.ex with ⟨oc, od, kV, doc, pm, an, cdv, ct, osl, rfl, lk, code⟩
  exact L2H.fn_ofH lk code S len fun A outer s H vs Q E p hot room pre => by
    obtain ⟨t, ht, rd⟩ := bod cdv A outer s H vs Q E p hot room pre
    exact ⟨t, ht.nox, rd⟩
/-- a statement that is never reached -/
theorem ps_no {X : Cx} {st : Stmt} : PS X st (fun _ _ _ => False) := ⟨fun _ _ _ _ _ _ h => h.elim⟩
def tNo : TS := fun _ _ _ => False
/-- try: .. except C as n: .., the suite knows which object is handled -/
def tTryD (K : PySem.W.Frag) (c : Value) (i : Nat) (tb : WX → TS) (ts : Addr → TS) (Wout : WX) : TS := fun D σ H => tb (wAsD K c i ts Wout D) D σ H
/-! ## K13a -/
local macro_rules | `(tactic| kbj_are) => `(tactic| (with_reducible refine q_len ?_; with_reducible refine i_lenT (sqT (by assumption)) ?_))
/-! ### k13: a refusal told, while it is handled -/
mutual
def Dt.noD : Dt → Bool
  | .lst l => Dt.noDL l
  | .tup l => Dt.noDL l
  | .dic _ => false
  | _ => true
def Dt.noDL : List Dt → Bool
  | [] => true
  | d :: r => d.noD && Dt.noDL r
end
theorem noDL_get : ∀ {ds : List Dt} {i : Nat} {d : Dt}, Dt.noDL ds = true → ds[i]? = some d → d.noD = true
  | [], i, d, _, e => by simp at e
  | x :: r, 0, d, h, e => by
    simp only [Dt.noDL, Bool.and_eq_true] at h
    cases e
    exact h.1
  | x :: r, i + 1, d, h, e => by
    simp only [Dt.noDL, Bool.and_eq_true] at h
    exact noDL_get h.2 e
def sp_sameH : Nat → Sp
  | 0 => fun _ _ _ _ => False
  | n + 1 => fun vs H Q _ => ∃ (va vb : V) (d : Dt), vs = [va, vb] ∧ At H va d ∧ At H vb d ∧ d.dep ≤ n ∧ d.okd = true ∧ d.noD = true ∧ ∀ H', Same H H' → Q (.bl true) H'
theorem c_sameH {n : Nat} {va vb : V} {d : Dt} {H : Hp} {Q : VK} {E : XK} (h1 : At H va d) (h2 : At H vb d) (h3 : d.dep ≤ n) (h4 : d.okd = true) (h5 : d.noD = true) (h : ∀ H', Same H H' → Q (.bl true) H') : sp_sameH (n + 1) [va, vb] H Q E := ⟨va, vb, d, rfl, h1, h2, h3, h4, h5, h⟩
theorem fnH_false {P : Program} {w : World} {K : PySem.W.Frag} {mg : Str → Option Value} {base : Heap} {CX : CXT} {k : Nat} {f : Addr} {fd : FuncData} {ps : List Str} : L2H.FnH P w K mg base CX k f fd ps (sp_sameH 0) := ⟨fun _ _ _ _ h => h.elim, fun _ _ _ _ _ _ _ _ _ _ _ _ _ _ _ _ h => h.elim⟩
theorem same_rowH {K : PySem.W.Frag} {n : Nat} {a b : Addr} {xs ys : List V} {ds : List Dt} {H : Hp} {Q : VK} {x y : Option V} {nx bk ct : St → Hp → Prop} (A : ∀ H', Same H H' → ∀ (i : Int) v (Q' : VK), atI xs i = some v → Q' v H' → rIx K (.ref a) (.int i) H' Q') (B : ∀ H', Same H H' → ∀ (i : Int) v (Q' : VK), atI ys i = some v → Q' v H' → rIx K (.ref b) (.int i) H' Q')
    (h1 : Ats H xs ds) (h2 : Ats H ys ds) (hl : ds.length ≤ 10000) (hd : Dt.depL ds + 1 ≤ n) (hf : Dt.okL ds = true) (hn : Dt.noDL ds = true) (k : ∀ σ' H', Same H H' → nx σ' H') :
    ForW (Itr 0 ds.length) (gName 3) (tIfS (tNot (tB (tCall (sp_sameH n) [] E0 (tCons (tOp (rIx K) (tVar 0) (tVar 3)) (tCons (tOp (rIx K) (tVar 1) (tVar 3)) tNil))))) (tRet (tC (.bl false))) tNext) ⟨nx, Q, bk, ct⟩ [some (.ref a), some (.ref b), x, y] H := by
  refine l_rng (fun i σ H' => Same H H' ∧ ∃ y, σ = [some (.ref a), some (.ref b), x, y]) ⟨Same.refl H, y, rfl⟩ ?_ ?_
  · rintro i σ H' hi ⟨s1, y, rfl⟩
    obtain ⟨d, hd'⟩ : ∃ d, ds[i]? = some d := ⟨_, List.getElem?_eq_getElem hi⟩
    obtain ⟨va, ea, ha⟩ := h1.get hd'
    obtain ⟨vb, eb, hb⟩ := h2.get hd'
    fold_lay
    refine A H' s1 _ va _ (at_of (j := i) (by omega) ea) ?_
    fold_lay
    refine B H' s1 _ vb _ (at_of (j := i) (by omega) eb) ?_
    fold_lay
    cases n with
    | zero => omega
    | succ m =>
      have hdd := depL_get hd'
      refine c_sameH (ha.mono s1) (hb.mono s1) (by omega) (okL_get hf hd') (noDL_get hn hd') fun H2 s4 => ?_
      fold_lay
      exact ⟨s1.trans s4, _, rfl⟩
  · rintro σ H' ⟨s1, _⟩
    exact k σ H' s1
def N_l_sameH : List Str := ["_law_actual", "_law_expected", "_law_key", "_law_k"]
def t_l_sameH (K : PySem.W.Frag) (n : Nat) : TS := (tSeq (tIfS (tOr (tTest (tOp oIsN (tVar 0) (tC .non))) (tTest (tOp oIsN (tVar 1) (tC .non)))) (tRet (tAndV (tOp oIsN (tVar 0) (tC .non)) (tOp oIsN (tVar 1) (tC .non)))) tNext)
  (tSeq (tIfS (tOr (tB (tCB (rIsi K) (tCons (tVar 0) (tCons (tC (.ty "bool")) tNil)))) (tB (tCB (rIsi K) (tCons (tVar 1) (tCons (tC (.ty "bool")) tNil))))) (tRet (tAndV (tCB (rIsi K) (tCons (tVar 0) (tCons (tC (.ty "bool")) tNil))) (tAndV (tCB (rIsi K) (tCons (tVar 1) (tCons (tC (.ty "bool")) tNil))) (tOp rEq (tVar 0) (tVar 1))))) tNext)
  (tSeq (tIfS (tB (tCB (rIsi K) (tCons (tVar 1) (tCons (tC (.ty "int")) tNil)))) (tRet (tAndV (tCB (rIsi K) (tCons (tVar 0) (tCons (tC (.ty "int")) tNil))) (tOp rEq (tVar 0) (tVar 1)))) tNext)
  (tSeq (tIfS (tB (tCB (rIsi K) (tCons (tVar 1) (tCons (tC (.ty "str")) tNil)))) (tRet (tAndV (tCB (rIsi K) (tCons (tVar 0) (tCons (tC (.ty "str")) tNil))) (tOp rEq (tVar 0) (tVar 1)))) tNext)
  (tSeq (tIfS (tB (tCB (rIsi K) (tCons (tVar 1) (tCons (tC (.ty "dict")) tNil)))) (tSeq (tIfS (tOr (tNot (tB (tCB (rIsi K) (tCons (tVar 0) (tCons (tC (.ty "dict")) tNil))))) (tTest (tOp rNe (tCB rLenD (tCons (tVar 0) tNil)) (tCB rLenD (tCons (tVar 1) tNil))))) (tRet (tC (.bl false))) tNext)
  (tSeq tNever
  (tRet (tC (.bl true))))) tNext)
  (tSeq (tIfS (tTest (tOp rNe (tCB (rIsi K) (tCons (tVar 1) (tCons (tC (.ty "list")) tNil))) (tCB (rIsi K) (tCons (tVar 0) (tCons (tC (.ty "list")) tNil))))) (tRet (tC (.bl false))) tNext)
  (tSeq (tIfS (tTest (tOp rNe (tCB (rIsi K) (tCons (tVar 1) (tCons (tC (.ty "tuple")) tNil))) (tCB (rIsi K) (tCons (tVar 0) (tCons (tC (.ty "tuple")) tNil))))) (tRet (tC (.bl false))) tNext)
  (tSeq (tIfS (tOr (tAnd (tNot (tB (tCB (rIsi K) (tCons (tVar 1) (tCons (tC (.ty "list")) tNil))))) (tNot (tB (tCB (rIsi K) (tCons (tVar 1) (tCons (tC (.ty "tuple")) tNil)))))) (tTest (tOp rNe (tCB (rLen K) (tCons (tVar 0) tNil)) (tCB (rLen K) (tCons (tVar 1) tNil))))) (tRet (tC (.bl false))) tNext)
  (tSeq (tFor (iRng1 (tCons (tCB (rLen K) (tCons (tVar 1) tNil)) tNil)) (gName 3) (tIfS (tNot (tB (tCall (sp_sameH n) [] E0 (tCons (tOp (rIx K) (tVar 0) (tVar 3)) (tCons (tOp (rIx K) (tVar 1) (tVar 3)) tNil))))) (tRet (tC (.bl false))) tNext))
  (tRet (tC (.bl true))))))))))))
theorem pure_sameH {K : PySem.W.Frag} {n : Nat} {vs : List V} {H : Hp} {Q : VK} {E : XK} (h : sp_sameH (n + 1) vs H Q E) : t_l_sameH K n { nx := fun _ H' => Q .non H', rt := Q } (start N_l_sameH vs) H := by
  obtain ⟨va, vb, d, rfl, h1, h2, h3, h4, h5, k⟩ := h
  unfold t_l_sameH
  cases h1 with
  | non => cases h2; kbj_rows; exact k H (Same.refl H)
  | bl b =>
    cases h2
    have t1 : Ty0 H (.bl b) "bool" := .bl b
    kbj_rows
    rw [beq_self_eq_true]
    exact k H (Same.refl H)
  | int i =>
    cases h2
    have t1 : Ty0 H (.int i) "int" := .int i
    kbj_rows
    rw [decide_eq_true rfl]
    exact k H (Same.refl H)
  | str x =>
    cases h2
    have t1 : Ty0 H (.str x) "str" := .str x
    kbj_rows
    rw [decide_eq_true rfl]
    exact k H (Same.refl H)
  | @lst a xs ds ea ha =>
    cases h2 with
    | @lst b ys _ eb hb =>
      have t1 : Ty0 H (.ref a) "list" := .lst ea
      have t2 : Ty0 H (.ref b) "list" := .lst eb
      have l1 := ha.length
      have l2 := hb.length
      simp only [Dt.okd, Bool.and_eq_true] at h4
      have f1 := of_decide_eq_true h4.1
      have h3' : Dt.depL ds + 1 ≤ n := by simpa only [Dt.dep] using h3
      kbj_rows
      refine i_ifn (fun z => absurd (by omega) z) (fun _ => ?_)
      kbj_rows
      refine f_rng1 (by omega) (by omega) ?_
      rw [show (ys.length : Int).toNat = ds.length by omega]
      refine same_rowH (fun H' s i v Q' e q => i_ixSL (sqL (s _ _ ea)) e q) (fun H' s i v Q' e q => i_ixSL (sqL (s _ _ eb)) e q) ha hb f1 h3' h4.2 h5 fun σ' H' s1 => ?_
      kbj_rows
      exact k H' s1
  | @tup a xs ds ea ha =>
    cases h2 with
    | @tup b ys _ eb hb =>
      have t1 : Ty0 H (.ref a) "tuple" := .tup ea
      have t2 : Ty0 H (.ref b) "tuple" := .tup eb
      have l1 := ha.length
      have l2 := hb.length
      simp only [Dt.okd, Bool.and_eq_true] at h4
      have f1 := of_decide_eq_true h4.1
      have h3' : Dt.depL ds + 1 ≤ n := by simpa only [Dt.dep] using h3
      kbj_rows
      refine i_ifn (fun z => absurd (by omega) z) (fun _ => ?_)
      kbj_rows
      refine f_rng1 (by omega) (by omega) ?_
      rw [show (ys.length : Int).toNat = ds.length by omega]
      refine same_rowH (fun H' s i v Q' e q => i_ixST (sqT (s _ _ ea)) e q) (fun H' s i v Q' e q => i_ixST (sqT (s _ _ eb)) e q) ha hb f1 h3' h4.2 h5 fun σ' H' s1 => ?_
      kbj_rows
      exact k H' s1
  | dic => cases h5
instance s_callH {x1 : Addr} {sp : Sp} {t : TA} {σ : St} {H : Hp} {Q : VK} : Stp (tCallH x1 sp t σ H Q) (t σ H fun vs H1 => ∃ cls d, H1 x1 = some (exi x1 cls d) ∧ sp vs (hid x1 H1) (fun v H2 => Q v (upd H2 x1 (exi x1 cls d))) E0) := ⟨fun h => h⟩
inductive Er4 (c : Cl) (H : Hp) (d : Addr) : Addr → Str → List Dt → Prop where
  | unk {w : Str} (h : ErAt H d "Unknown" [("parameter", .str w)] [.str w]) : Er4 c H d c.k_Unknown "Unknown" [.str w]
  | nh {a b : Int} (h : nhA H d a b) : Er4 c H d c.k_NotHeld "NotHeld" [.int a, .int b]
  | br {a b f : Int} (h : brA H d a b f) : Er4 c H d c.k_Broken "Broken" [.int a, .int b, .int f]
  | cut {a b : Int} (h : cutA H d a b) : Er4 c H d c.k_Cut "Cut" [.int a, .int b]
def refT (nm : Str) (ds : List Dt) : Dt := .tup [.str "refused", .str nm, .tup ds]
def sp_told (K : PySem.W.Frag) (c : Cl) (x1 : Addr) : Sp := fun vs H Q _ => ∃ (d D : Addr) (nm : Str) (ds : List Dt), vs = [.ref x1] ∧ H x1 = some (exi x1 (.ref D) (some d)) ∧ AllK K c ∧ Er4 c H d D nm ds ∧ ∀ v H', Same H H' → At H' v (refT nm ds) → Q v H'
def N_l_told : List Str := ["_law_error", "_law_kinds", "_law_fields", "_law_title"]
def t_l_told (K : PySem.W.Frag) (c : Cl) (x1 : Addr) : TS := (tSeq (tAsg (tLst (tCons (tCB (rIsX K) (tCons (tVar 0) (tCons (tC (.ref c.k_BadValue)) tNil))) (tCons (tCB (rIsX K) (tCons (tVar 0) (tCons (tC (.ref c.k_Broken)) tNil))) (tCons (tCB (rIsX K) (tCons (tVar 0) (tCons (tC (.ref c.k_Unknown)) tNil))) tNil)))) (gName 1))
  (tSeq (tAsg (tOp rCat (tVar 1) (tLst (tCons (tCB (rIsX K) (tCons (tVar 0) (tCons (tC (.ref c.k_NotHeld)) tNil))) (tCons (tCB (rIsX K) (tCons (tVar 0) (tCons (tC (.ref c.k_NoRoom)) tNil))) (tCons (tCB (rIsX K) (tCons (tVar 0) (tCons (tC (.ref c.k_Cut)) tNil))) tNil))))) (gName 1))
  (tSeq (tAsg (tOp rCat (tVar 1) (tLst (tCons (tCB (rIsX K) (tCons (tVar 0) (tCons (tC (.ref c.k_Fault)) tNil))) (tCons (tCB (rIsX K) (tCons (tVar 0) (tCons (tC (.ref c.k_BadLine)) tNil))) tNil)))) (gName 1))
  (tSeq (tIfS (tOr (tNot (tB (tCB (rIsX K) (tCons (tVar 0) (tCons (tC (.ty "ValueError")) tNil))))) (tTest (tOp rNe (tBM K "list" (rCountF K) (tVar 1) (tCons (tC (.bl true)) tNil)) (tC (.int 1))))) (tRet (tTup (tCons (tC (.str "wrong")) tNil))) tNext)
  (tSeq (tAsg (tTup tNil) (gName 2))
  (tSeq (tIfS (tOr (tB (tOp (rIxL K) (tVar 1) (tC (.int 0)))) (tB (tOp (rIxL K) (tVar 1) (tC (.int 2))))) (tAsg (tTup (tCons (tXt K "parameter" (tVar 0)) tNil)) (gName 2)) tNext)
  (tSeq (tIfS (tB (tOp (rIxL K) (tVar 1) (tC (.int 1)))) (tAsg (tTup (tCons (tXt K "place" (tVar 0)) (tCons (tXt K "found" (tVar 0)) (tCons (tXt K "due" (tVar 0)) tNil)))) (gName 2)) tNext)
  (tSeq (tIfS (tB (tOp (rIxL K) (tVar 1) (tC (.int 3)))) (tAsg (tTup (tCons (tXt K "place" (tVar 0)) (tCons (tXt K "found" (tVar 0)) tNil))) (gName 2)) tNext)
  (tSeq (tIfS (tB (tOp (rIxL K) (tVar 1) (tC (.int 4)))) (tAsg (tTup (tCons (tXt K "paper" (tVar 0)) tNil)) (gName 2)) tNext)
  (tSeq (tIfS (tB (tOp (rIxL K) (tVar 1) (tC (.int 5)))) (tAsg (tTup (tCons (tXt K "needed" (tVar 0)) (tCons (tXt K "left" (tVar 0)) tNil))) (gName 2)) tNext)
  (tSeq (tAsg (tOp (rIxL K) (tLst (tCons (tC (.str "BadValue")) (tCons (tC (.str "Broken")) (tCons (tC (.str "Unknown")) (tCons (tC (.str "NotHeld")) (tCons (tC (.str "NoRoom")) (tCons (tC (.str "Cut")) (tCons (tC (.str "Fault")) (tCons (tC (.str "BadLine")) tNil))))))))) (tBM K "list" (rIndex K) (tVar 1) (tCons (tC (.bl true)) tNil))) (gName 3))
  (tSeq (tIfS (tOr (tTest (tOp rEq (tCB (rLen K) (tCons (tVar 2) tNil)) (tC (.int 0)))) (tNot (tB (tCallH x1 (sp_sameH 6) (tCons (tXt K "told" (tVar 0)) (tCons (tTup (tCons (tVar 3) (tCons (tVar 2) tNil))) tNil)))))) (tRet (tTup (tCons (tC (.str "wrong")) tNil))) tNext)
  (tRet (tTup (tCons (tC (.str "refused")) (tCons (tVar 3) (tCons (tVar 2) tNil)))))))))))))))))
theorem ext_tup {H : Hp} {x1 p : Addr} {cls : Value} {d : Option Addr} {xs : List V} (h : H x1 = some (exi x1 cls d)) (e : H p = some (.tup xs)) : p ≠ x1 := fun z => by
  rw [z, h] at e
  exact exi_ne_tup (Option.some.inj e)
theorem same_exi {H H' : Hp} {x1 : Addr} {cls : Value} {d : Option Addr} (h : H x1 = some (exi x1 cls d)) (s : Same (hid x1 H) H') : Same H (upd H' x1 (exi x1 cls d)) := fun b o e => by
  by_cases z : b = x1
  · rw [z, h] at e
    rw [z, upd_same]
    exact e
  · rw [upd_ne z]
    exact s _ _ (hid_to e z)
theorem told_pre {K : PySem.W.Frag} {c : Cl} {x1 D d : Addr} {fs : List (Str × V)} {k3 k4 k5 k6 k7 k8 k9 k10 : Bool} {H : Hp} {Q : VK} {ts : TS} (he : H x1 = some (exi x1 (.ref D) (some d))) (hd : H d = some (.xd fs)) (R : ExK K c D k3 k4 k5 k6 k7 k8 k9 k10)
    (key : ∀ r H', Same H H' → H' r = some (.lst [.bl k3, .bl k4, .bl k5, .bl k6, .bl k8, .bl k9, .bl k7, .bl k10]) → ts { nx := fun _ H' => Q .non H', rt := Q } [some (.ref x1), some (.ref r), none, none] H') :
    (tSeq (tAsg (tLst (tCons (tCB (rIsX K) (tCons (tVar 0) (tCons (tC (.ref c.k_BadValue)) tNil))) (tCons (tCB (rIsX K) (tCons (tVar 0) (tCons (tC (.ref c.k_Broken)) tNil))) (tCons (tCB (rIsX K) (tCons (tVar 0) (tCons (tC (.ref c.k_Unknown)) tNil))) tNil)))) (gName 1))
  (tSeq (tAsg (tOp rCat (tVar 1) (tLst (tCons (tCB (rIsX K) (tCons (tVar 0) (tCons (tC (.ref c.k_NotHeld)) tNil))) (tCons (tCB (rIsX K) (tCons (tVar 0) (tCons (tC (.ref c.k_NoRoom)) tNil))) (tCons (tCB (rIsX K) (tCons (tVar 0) (tCons (tC (.ref c.k_Cut)) tNil))) tNil))))) (gName 1))
  (tSeq (tAsg (tOp rCat (tVar 1) (tLst (tCons (tCB (rIsX K) (tCons (tVar 0) (tCons (tC (.ref c.k_Fault)) tNil))) (tCons (tCB (rIsX K) (tCons (tVar 0) (tCons (tC (.ref c.k_BadLine)) tNil))) tNil)))) (gName 1))
  ts))) { nx := fun _ H' => Q .non H', rt := Q } [some (.ref x1), none, none, none] H := by
  fold_lay
  refine i_isX he hd R.ex R.i3 ?_
  fold_lay
  refine i_isX he hd R.ex R.i4 ?_
  fold_lay
  refine i_isX he hd R.ex R.i5 ?_
  fold_lay
  rename_i p hp
  have s1 := same_new (o := .lst [.bl k3, .bl k4, .bl k5]) hp
  have hp1 : upd H p (.lst [.bl k3, .bl k4, .bl k5]) p = _ := upd_same
  have he1 := s1 _ _ he
  have hd1 := s1 _ _ hd
  generalize upd H p (.lst [.bl k3, .bl k4, .bl k5]) = H1 at *
  refine i_isX he1 hd1 R.ex R.i6 ?_
  fold_lay
  refine i_isX he1 hd1 R.ex R.i8 ?_
  fold_lay
  refine i_isX he1 hd1 R.ex R.i9 ?_
  fold_lay
  rename_i q hq
  refine i_cat (l := p) (b := q) (xs := [.bl k3, .bl k4, .bl k5]) (zs := [.bl k6, .bl k8, .bl k9]) (upd_keep hq hp1) upd_same (by simp) fun r hr => ?_
  have s2 := (same_new (o := .lst [.bl k6, .bl k8, .bl k9]) hq).trans (same_new (o := .lst ([.bl k3, .bl k4, .bl k5] ++ [.bl k6, .bl k8, .bl k9])) hr)
  have hr2 : upd (upd H1 q (.lst [.bl k6, .bl k8, .bl k9])) r (.lst ([.bl k3, .bl k4, .bl k5] ++ [.bl k6, .bl k8, .bl k9])) r = _ := upd_same
  have he2 := s2 _ _ he1
  have hd2 := s2 _ _ hd1
  generalize upd (upd H1 q (.lst [.bl k6, .bl k8, .bl k9])) r (.lst ([.bl k3, .bl k4, .bl k5] ++ [.bl k6, .bl k8, .bl k9])) = H2 at *
  fold_lay
  refine i_isX he2 hd2 R.ex R.i7 ?_
  fold_lay
  refine i_isX he2 hd2 R.ex R.i10 ?_
  fold_lay
  rename_i u hu
  refine i_cat (l := r) (b := u) (xs := [.bl k3, .bl k4, .bl k5] ++ [.bl k6, .bl k8, .bl k9]) (zs := [.bl k7, .bl k10]) (upd_keep hu hr2) upd_same (by simp) fun v hv => ?_
  fold_lay
  exact key v _ (s1.trans (s2.trans ((same_new hu).trans (same_new hv)))) upd_same
theorem pure_told {K : PySem.W.Frag} {c : Cl} {x1 : Addr} {vs : List V} {H : Hp} {Q : VK} {E : XK} (h : sp_told K c x1 vs H Q E) : t_l_told K c x1 { nx := fun _ H' => Q .non H', rt := Q } (start N_l_told vs) H := by
  obtain ⟨d, D, nm, ds, rfl, he, AK, er, k⟩ := h
  unfold t_l_told
  cases er with
  | @unk w h =>
    obtain ⟨u1, u2, g1, g2, g3⟩ := h
    refine told_pre he g1 AK.k3 fun r H1 s1 hr => ?_
    have he1 := s1 _ _ he
    have g1 := s1 _ _ g1
    have g2 := s1 _ _ g2
    have g3 := s1 _ _ g3
    fold_depth
    refine i_isXt he1 g1 AK.k3.ex AK.k3.i2 ?_
    fold_lay
    refine ⟨r, _, _, rfl, rfl, sqL hr, rfl, rfl, ?_⟩
    rw [show List.countP (fun z => eqV z (.bl true)) ([.bl false, .bl false, .bl true, .bl false, .bl false, .bl false, .bl false, .bl false] : List V) = 1 from rfl]
    fold_lay
    refine i_ifn (fun z => absurd rfl z) (fun _ => ?_)
    fold_lay
    rename_i p0 hp0
    have s2 := same_new (o := .tup []) hp0
    have he2 := s2 _ _ he1
    have g1' := s2 _ _ g1
    have g2' := s2 _ _ g2
    have g3' := s2 _ _ g3
    have hr2 := s2 _ _ hr
    generalize upd H1 p0 (.tup []) = H2 at *
    clear hp0 hr he1 g1 g2 g3
    fold_depth
    refine ⟨x1, _, d, _, .str w, rfl, he2, AK.k3.xf, AK.x3.nf "parameter" (by simp), g1', by rw [lookup_put, if_neg (by decide), lookup_put, if_pos rfl], ?_⟩
    fold_lay
    rename_i pf hpf
    have s3 := same_new (o := .tup [.str w]) hpf
    have he2 := s3 _ _ he2
    have g1' := s3 _ _ g1'
    have g2' := s3 _ _ g2'
    have g3' := s3 _ _ g3'
    have hr2 := s3 _ _ hr2
    have hf : upd H2 pf (.tup [.str w]) pf = _ := upd_same
    have s123 := s1.trans (s2.trans s3)
    generalize upd H2 pf (.tup [.str w]) = H3 at *
    clear hpf s1 s2 s3
    fold_depth
    fold_depth
    fold_depth
    fold_depth
    fold_lay
    rename_i pl hpl
    have s4 := same_new (o := .lst [.str "BadValue", .str "Broken", .str "Unknown", .str "NotHeld", .str "NoRoom", .str "Cut", .str "Fault", .str "BadLine"]) hpl
    have he4 := s4 _ _ he2
    have g14 := s4 _ _ g1'
    have g24 := s4 _ _ g2'
    have g34 := s4 _ _ g3'
    have hr4 := s4 _ _ hr2
    have hf4 := s4 _ _ hf
    have hl4 : upd H3 pl (.lst [.str "BadValue", .str "Broken", .str "Unknown", .str "NotHeld", .str "NoRoom", .str "Cut", .str "Fault", .str "BadLine"]) pl = _ := upd_same
    generalize upd H3 pl (.lst [.str "BadValue", .str "Broken", .str "Unknown", .str "NotHeld", .str "NoRoom", .str "Cut", .str "Fault", .str "BadLine"]) = H4 at *
    clear hpl he2 g1' g2' g3' hr2 hf
    refine ⟨r, _, _, 2, .bl true, rfl, rfl, sqL hr4, rfl, rfl, rfl, rfl, (fun m z' hm hz => by (match m, hm, hz with | 0, _, hz => (cases hz; rfl) | 1, _, hz => (cases hz; rfl) | m + 2, hm, hz => omega)), ?_⟩
    fold_lay
    fold_depth
    refine i_ifd (fun z => absurd z (by simp)) (fun _ => ?_)
    fold_lay
    refine ⟨x1, _, d, _, .ref u2, rfl, he4, AK.k3.xf, AK.x3.nf "told" (by simp), g14, by rw [lookup_put, if_pos rfl], ?_⟩
    fold_lay
    rename_i pt hpt
    have s5 := same_new (o := .tup [.str "Unknown", .ref pf]) hpt
    have he5 := s5 _ _ he4
    refine ⟨_, _, he5, ?_⟩
    have n1 := ext_tup he5 (s5 _ _ g24)
    have n2 := ext_tup he5 (s5 _ _ g34)
    have n3 := ext_tup he5 (s5 _ _ hf4)
    have n4 := ext_tup he5 (upd_same (H := H4) (a := pt) (o := .tup [.str "Unknown", .ref pf]))
    refine c_sameH (d := .tup [.str "Unknown", .tup [.str w]]) (.tup (hid_to (s5 _ _ g24) n1) (.cons (.str _) (.cons (.tup (hid_to (s5 _ _ g34) n2) (.cons (.str _) .nil)) .nil))) (.tup (hid_to upd_same n4) (.cons (.str _) (.cons (.tup (hid_to (s5 _ _ hf4) n3) (.cons (.str _) .nil)) .nil))) (by simp [Dt.dep, Dt.depL]) (by simp [Dt.okd, Dt.okL]) (by simp [Dt.noD, Dt.noDL]) fun H6 s6 => ?_
    have s7 := same_exi he5 s6
    have hf7 := s7 _ _ (s5 _ _ hf4)
    generalize upd H6 x1 (exi x1 (.ref c.k_Unknown) (some d)) = H7 at *
    fold_lay
    rename_i pz hpz
    have s8 := same_new (o := .tup [.str "refused", .str "Unknown", .ref pf]) hpz
    exact k _ _ (s123.trans (s4.trans (s5.trans (s7.trans s8)))) (.tup upd_same (.cons (.str _) (.cons (.str _) (.cons (.tup (s8 _ _ hf7) (.cons (.str _) .nil)) .nil))))
  | @nh a b h =>
    obtain ⟨u1, u2, g1, g2, g3⟩ := h
    refine told_pre he g1 AK.k4 fun r H1 s1 hr => ?_
    have he1 := s1 _ _ he
    have g1 := s1 _ _ g1
    have g2 := s1 _ _ g2
    have g3 := s1 _ _ g3
    fold_depth
    refine i_isXt he1 g1 AK.k4.ex AK.k4.i2 ?_
    fold_lay
    refine ⟨r, _, _, rfl, rfl, sqL hr, rfl, rfl, ?_⟩
    rw [show List.countP (fun z => eqV z (.bl true)) ([.bl false, .bl false, .bl false, .bl true, .bl false, .bl false, .bl false, .bl false] : List V) = 1 from rfl]
    fold_lay
    refine i_ifn (fun z => absurd rfl z) (fun _ => ?_)
    fold_lay
    rename_i p0 hp0
    have s2 := same_new (o := .tup []) hp0
    have he2 := s2 _ _ he1
    have g1' := s2 _ _ g1
    have g2' := s2 _ _ g2
    have g3' := s2 _ _ g3
    have hr2 := s2 _ _ hr
    generalize upd H1 p0 (.tup []) = H2 at *
    clear hp0 hr he1 g1 g2 g3
    fold_depth
    fold_depth
    fold_depth
    refine ⟨x1, _, d, _, .int a, rfl, he2, AK.k4.xf, AK.x4.nf "place" (by simp), g1', by rw [lookup_put, if_neg (by decide), lookup_put, if_neg (by decide), lookup_put, if_pos rfl], ?_⟩
    fold_lay
    refine ⟨x1, _, d, _, .int b, rfl, he2, AK.k4.xf, AK.x4.nf "found" (by simp), g1', by rw [lookup_put, if_neg (by decide), lookup_put, if_pos rfl], ?_⟩
    fold_lay
    rename_i pf hpf
    have s3 := same_new (o := .tup [.int a, .int b]) hpf
    have he2 := s3 _ _ he2
    have g1' := s3 _ _ g1'
    have g2' := s3 _ _ g2'
    have g3' := s3 _ _ g3'
    have hr2 := s3 _ _ hr2
    have hf : upd H2 pf (.tup [.int a, .int b]) pf = _ := upd_same
    have s123 := s1.trans (s2.trans s3)
    generalize upd H2 pf (.tup [.int a, .int b]) = H3 at *
    clear hpf s1 s2 s3
    fold_depth
    fold_depth
    fold_lay
    rename_i pl hpl
    have s4 := same_new (o := .lst [.str "BadValue", .str "Broken", .str "Unknown", .str "NotHeld", .str "NoRoom", .str "Cut", .str "Fault", .str "BadLine"]) hpl
    have he4 := s4 _ _ he2
    have g14 := s4 _ _ g1'
    have g24 := s4 _ _ g2'
    have g34 := s4 _ _ g3'
    have hr4 := s4 _ _ hr2
    have hf4 := s4 _ _ hf
    have hl4 : upd H3 pl (.lst [.str "BadValue", .str "Broken", .str "Unknown", .str "NotHeld", .str "NoRoom", .str "Cut", .str "Fault", .str "BadLine"]) pl = _ := upd_same
    generalize upd H3 pl (.lst [.str "BadValue", .str "Broken", .str "Unknown", .str "NotHeld", .str "NoRoom", .str "Cut", .str "Fault", .str "BadLine"]) = H4 at *
    clear hpl he2 g1' g2' g3' hr2 hf
    refine ⟨r, _, _, 3, .bl true, rfl, rfl, sqL hr4, rfl, rfl, rfl, rfl, (fun m z' hm hz => by (match m, hm, hz with | 0, _, hz => (cases hz; rfl) | 1, _, hz => (cases hz; rfl) | 2, _, hz => (cases hz; rfl) | m + 3, hm, hz => omega)), ?_⟩
    fold_lay
    fold_depth
    refine i_ifd (fun z => absurd z (by simp)) (fun _ => ?_)
    fold_lay
    refine ⟨x1, _, d, _, .ref u2, rfl, he4, AK.k4.xf, AK.x4.nf "told" (by simp), g14, by rw [lookup_put, if_pos rfl], ?_⟩
    fold_lay
    rename_i pt hpt
    have s5 := same_new (o := .tup [.str "NotHeld", .ref pf]) hpt
    have he5 := s5 _ _ he4
    refine ⟨_, _, he5, ?_⟩
    have n1 := ext_tup he5 (s5 _ _ g24)
    have n2 := ext_tup he5 (s5 _ _ g34)
    have n3 := ext_tup he5 (s5 _ _ hf4)
    have n4 := ext_tup he5 (upd_same (H := H4) (a := pt) (o := .tup [.str "NotHeld", .ref pf]))
    refine c_sameH (d := .tup [.str "NotHeld", .tup [.int a, .int b]]) (.tup (hid_to (s5 _ _ g24) n1) (.cons (.str _) (.cons (.tup (hid_to (s5 _ _ g34) n2) (.cons (.int _) (.cons (.int _) .nil))) .nil))) (.tup (hid_to upd_same n4) (.cons (.str _) (.cons (.tup (hid_to (s5 _ _ hf4) n3) (.cons (.int _) (.cons (.int _) .nil))) .nil))) (by simp [Dt.dep, Dt.depL]) (by simp [Dt.okd, Dt.okL]) (by simp [Dt.noD, Dt.noDL]) fun H6 s6 => ?_
    have s7 := same_exi he5 s6
    have hf7 := s7 _ _ (s5 _ _ hf4)
    generalize upd H6 x1 (exi x1 (.ref c.k_NotHeld) (some d)) = H7 at *
    fold_lay
    rename_i pz hpz
    have s8 := same_new (o := .tup [.str "refused", .str "NotHeld", .ref pf]) hpz
    exact k _ _ (s123.trans (s4.trans (s5.trans (s7.trans s8)))) (.tup upd_same (.cons (.str _) (.cons (.str _) (.cons (.tup (s8 _ _ hf7) (.cons (.int _) (.cons (.int _) .nil))) .nil))))
  | @br a b f h =>
    obtain ⟨u1, u2, g1, g2, g3⟩ := h
    refine told_pre he g1 AK.k2 fun r H1 s1 hr => ?_
    have he1 := s1 _ _ he
    have g1 := s1 _ _ g1
    have g2 := s1 _ _ g2
    have g3 := s1 _ _ g3
    fold_depth
    refine i_isXt he1 g1 AK.k2.ex AK.k2.i2 ?_
    fold_lay
    refine ⟨r, _, _, rfl, rfl, sqL hr, rfl, rfl, ?_⟩
    rw [show List.countP (fun z => eqV z (.bl true)) ([.bl false, .bl true, .bl false, .bl false, .bl false, .bl false, .bl false, .bl false] : List V) = 1 from rfl]
    fold_lay
    refine i_ifn (fun z => absurd rfl z) (fun _ => ?_)
    fold_lay
    rename_i p0 hp0
    have s2 := same_new (o := .tup []) hp0
    have he2 := s2 _ _ he1
    have g1' := s2 _ _ g1
    have g2' := s2 _ _ g2
    have g3' := s2 _ _ g3
    have hr2 := s2 _ _ hr
    generalize upd H1 p0 (.tup []) = H2 at *
    clear hp0 hr he1 g1 g2 g3
    fold_depth
    fold_depth
    refine ⟨x1, _, d, _, .int a, rfl, he2, AK.k2.xf, AK.x2.nf "place" (by simp), g1', by rw [lookup_put, if_neg (by decide), lookup_put, if_neg (by decide), lookup_put, if_neg (by decide), lookup_put, if_pos rfl], ?_⟩
    fold_lay
    refine ⟨x1, _, d, _, .int b, rfl, he2, AK.k2.xf, AK.x2.nf "found" (by simp), g1', by rw [lookup_put, if_neg (by decide), lookup_put, if_neg (by decide), lookup_put, if_pos rfl], ?_⟩
    fold_lay
    refine ⟨x1, _, d, _, .int f, rfl, he2, AK.k2.xf, AK.x2.nf "due" (by simp), g1', by rw [lookup_put, if_neg (by decide), lookup_put, if_pos rfl], ?_⟩
    fold_lay
    rename_i pf hpf
    have s3 := same_new (o := .tup [.int a, .int b, .int f]) hpf
    have he2 := s3 _ _ he2
    have g1' := s3 _ _ g1'
    have g2' := s3 _ _ g2'
    have g3' := s3 _ _ g3'
    have hr2 := s3 _ _ hr2
    have hf : upd H2 pf (.tup [.int a, .int b, .int f]) pf = _ := upd_same
    have s123 := s1.trans (s2.trans s3)
    generalize upd H2 pf (.tup [.int a, .int b, .int f]) = H3 at *
    clear hpf s1 s2 s3
    fold_depth
    fold_depth
    fold_depth
    fold_lay
    rename_i pl hpl
    have s4 := same_new (o := .lst [.str "BadValue", .str "Broken", .str "Unknown", .str "NotHeld", .str "NoRoom", .str "Cut", .str "Fault", .str "BadLine"]) hpl
    have he4 := s4 _ _ he2
    have g14 := s4 _ _ g1'
    have g24 := s4 _ _ g2'
    have g34 := s4 _ _ g3'
    have hr4 := s4 _ _ hr2
    have hf4 := s4 _ _ hf
    have hl4 : upd H3 pl (.lst [.str "BadValue", .str "Broken", .str "Unknown", .str "NotHeld", .str "NoRoom", .str "Cut", .str "Fault", .str "BadLine"]) pl = _ := upd_same
    generalize upd H3 pl (.lst [.str "BadValue", .str "Broken", .str "Unknown", .str "NotHeld", .str "NoRoom", .str "Cut", .str "Fault", .str "BadLine"]) = H4 at *
    clear hpl he2 g1' g2' g3' hr2 hf
    refine ⟨r, _, _, 1, .bl true, rfl, rfl, sqL hr4, rfl, rfl, rfl, rfl, (fun m z' hm hz => by (match m, hm, hz with | 0, _, hz => (cases hz; rfl) | m + 1, hm, hz => omega)), ?_⟩
    fold_lay
    fold_depth
    refine i_ifd (fun z => absurd z (by simp)) (fun _ => ?_)
    fold_lay
    refine ⟨x1, _, d, _, .ref u2, rfl, he4, AK.k2.xf, AK.x2.nf "told" (by simp), g14, by rw [lookup_put, if_pos rfl], ?_⟩
    fold_lay
    rename_i pt hpt
    have s5 := same_new (o := .tup [.str "Broken", .ref pf]) hpt
    have he5 := s5 _ _ he4
    refine ⟨_, _, he5, ?_⟩
    have n1 := ext_tup he5 (s5 _ _ g24)
    have n2 := ext_tup he5 (s5 _ _ g34)
    have n3 := ext_tup he5 (s5 _ _ hf4)
    have n4 := ext_tup he5 (upd_same (H := H4) (a := pt) (o := .tup [.str "Broken", .ref pf]))
    refine c_sameH (d := .tup [.str "Broken", .tup [.int a, .int b, .int f]]) (.tup (hid_to (s5 _ _ g24) n1) (.cons (.str _) (.cons (.tup (hid_to (s5 _ _ g34) n2) (.cons (.int _) (.cons (.int _) (.cons (.int _) .nil)))) .nil))) (.tup (hid_to upd_same n4) (.cons (.str _) (.cons (.tup (hid_to (s5 _ _ hf4) n3) (.cons (.int _) (.cons (.int _) (.cons (.int _) .nil)))) .nil))) (by simp [Dt.dep, Dt.depL]) (by simp [Dt.okd, Dt.okL]) (by simp [Dt.noD, Dt.noDL]) fun H6 s6 => ?_
    have s7 := same_exi he5 s6
    have hf7 := s7 _ _ (s5 _ _ hf4)
    generalize upd H6 x1 (exi x1 (.ref c.k_Broken) (some d)) = H7 at *
    fold_lay
    rename_i pz hpz
    have s8 := same_new (o := .tup [.str "refused", .str "Broken", .ref pf]) hpz
    exact k _ _ (s123.trans (s4.trans (s5.trans (s7.trans s8)))) (.tup upd_same (.cons (.str _) (.cons (.str _) (.cons (.tup (s8 _ _ hf7) (.cons (.int _) (.cons (.int _) (.cons (.int _) .nil)))) .nil))))
  | @cut a b h =>
    obtain ⟨u1, u2, g1, g2, g3⟩ := h
    refine told_pre he g1 AK.k7 fun r H1 s1 hr => ?_
    have he1 := s1 _ _ he
    have g1 := s1 _ _ g1
    have g2 := s1 _ _ g2
    have g3 := s1 _ _ g3
    fold_depth
    refine i_isXt he1 g1 AK.k7.ex AK.k7.i2 ?_
    fold_lay
    refine ⟨r, _, _, rfl, rfl, sqL hr, rfl, rfl, ?_⟩
    rw [show List.countP (fun z => eqV z (.bl true)) ([.bl false, .bl false, .bl false, .bl false, .bl false, .bl true, .bl false, .bl false] : List V) = 1 from rfl]
    fold_lay
    refine i_ifn (fun z => absurd rfl z) (fun _ => ?_)
    fold_lay
    rename_i p0 hp0
    have s2 := same_new (o := .tup []) hp0
    have he2 := s2 _ _ he1
    have g1' := s2 _ _ g1
    have g2' := s2 _ _ g2
    have g3' := s2 _ _ g3
    have hr2 := s2 _ _ hr
    generalize upd H1 p0 (.tup []) = H2 at *
    clear hp0 hr he1 g1 g2 g3
    fold_depth
    fold_depth
    fold_depth
    fold_depth
    fold_depth
    refine ⟨x1, _, d, _, .int a, rfl, he2, AK.k7.xf, AK.x7.nf "needed" (by simp), g1', by rw [lookup_put, if_neg (by decide), lookup_put, if_neg (by decide), lookup_put, if_pos rfl], ?_⟩
    fold_lay
    refine ⟨x1, _, d, _, .int b, rfl, he2, AK.k7.xf, AK.x7.nf "left" (by simp), g1', by rw [lookup_put, if_neg (by decide), lookup_put, if_pos rfl], ?_⟩
    fold_lay
    rename_i pf hpf pl hpl
    have s3 := same_new (o := .tup [.int a, .int b]) hpf
    have he2 := s3 _ _ he2
    have g1' := s3 _ _ g1'
    have g2' := s3 _ _ g2'
    have g3' := s3 _ _ g3'
    have hr2 := s3 _ _ hr2
    have hf : upd H2 pf (.tup [.int a, .int b]) pf = _ := upd_same
    have s123 := s1.trans (s2.trans s3)
    generalize upd H2 pf (.tup [.int a, .int b]) = H3 at *
    clear hpf s1 s2 s3
    have s4 := same_new (o := .lst [.str "BadValue", .str "Broken", .str "Unknown", .str "NotHeld", .str "NoRoom", .str "Cut", .str "Fault", .str "BadLine"]) hpl
    have he4 := s4 _ _ he2
    have g14 := s4 _ _ g1'
    have g24 := s4 _ _ g2'
    have g34 := s4 _ _ g3'
    have hr4 := s4 _ _ hr2
    have hf4 := s4 _ _ hf
    have hl4 : upd H3 pl (.lst [.str "BadValue", .str "Broken", .str "Unknown", .str "NotHeld", .str "NoRoom", .str "Cut", .str "Fault", .str "BadLine"]) pl = _ := upd_same
    generalize upd H3 pl (.lst [.str "BadValue", .str "Broken", .str "Unknown", .str "NotHeld", .str "NoRoom", .str "Cut", .str "Fault", .str "BadLine"]) = H4 at *
    clear hpl he2 g1' g2' g3' hr2 hf
    refine ⟨r, _, _, 5, .bl true, rfl, rfl, sqL hr4, rfl, rfl, rfl, rfl, (fun m z' hm hz => by (match m, hm, hz with | 0, _, hz => (cases hz; rfl) | 1, _, hz => (cases hz; rfl) | 2, _, hz => (cases hz; rfl) | 3, _, hz => (cases hz; rfl) | 4, _, hz => (cases hz; rfl) | m + 5, hm, hz => omega)), ?_⟩
    fold_lay
    fold_depth
    refine i_ifd (fun z => absurd z (by simp)) (fun _ => ?_)
    fold_lay
    refine ⟨x1, _, d, _, .ref u2, rfl, he4, AK.k7.xf, AK.x7.nf "told" (by simp), g14, by rw [lookup_put, if_pos rfl], ?_⟩
    fold_lay
    rename_i pt hpt
    have s5 := same_new (o := .tup [.str "Cut", .ref pf]) hpt
    have he5 := s5 _ _ he4
    refine ⟨_, _, he5, ?_⟩
    have n1 := ext_tup he5 (s5 _ _ g24)
    have n2 := ext_tup he5 (s5 _ _ g34)
    have n3 := ext_tup he5 (s5 _ _ hf4)
    have n4 := ext_tup he5 (upd_same (H := H4) (a := pt) (o := .tup [.str "Cut", .ref pf]))
    refine c_sameH (d := .tup [.str "Cut", .tup [.int a, .int b]]) (.tup (hid_to (s5 _ _ g24) n1) (.cons (.str _) (.cons (.tup (hid_to (s5 _ _ g34) n2) (.cons (.int _) (.cons (.int _) .nil))) .nil))) (.tup (hid_to upd_same n4) (.cons (.str _) (.cons (.tup (hid_to (s5 _ _ hf4) n3) (.cons (.int _) (.cons (.int _) .nil))) .nil))) (by simp [Dt.dep, Dt.depL]) (by simp [Dt.okd, Dt.okL]) (by simp [Dt.noD, Dt.noDL]) fun H6 s6 => ?_
    have s7 := same_exi he5 s6
    have hf7 := s7 _ _ (s5 _ _ hf4)
    generalize upd H6 x1 (exi x1 (.ref c.k_Cut) (some d)) = H7 at *
    fold_lay
    rename_i pz hpz
    have s8 := same_new (o := .tup [.str "refused", .str "Cut", .ref pf]) hpz
    exact k _ _ (s123.trans (s4.trans (s5.trans (s7.trans s8)))) (.tup upd_same (.cons (.str _) (.cons (.str _) (.cons (.tup (s8 _ _ hf7) (.cons (.int _) (.cons (.int _) .nil))) .nil))))
/-! ## Frame -/
mutual
/-- data with no list of five: none of it is the draws' state -/
def Dt.ns : Dt → Bool
  | .lst l => !decide (l.length = 5) && Dt.nsL l
  | .tup l => Dt.nsL l
  | .dic l => Dt.nsK l
  | _ => true
def Dt.nsL : List Dt → Bool
  | [] => true
  | d :: r => d.ns && Dt.nsL r
def Dt.nsK : List (Str × Dt) → Bool
  | [] => true
  | (_, d) :: r => d.ns && Dt.nsK r
end
theorem Dr.sLst {d s : Addr} {H : Hp} (h : Dr d s H) {o : HO} (e : H s = some o) : ∃ xs, o = .lst xs ∧ xs.length = 5 := by
  obtain ⟨c, cs, p, b, n, t, e', h1, h2, h3, _⟩ := h
  rw [h3] at e
  exact ⟨_, (Option.some.inj e).symm, rfl⟩
mutual
theorem At.hidS {d s : Addr} {H : Hp} (D : Dr d s H) : ∀ {v : V} {dt : Dt}, At H v dt → dt.ns = true → At (hid s H) v dt
  | _, _, .non, _ => .non
  | _, _, .bl b, _ => .bl b
  | _, _, .int i, _ => .int i
  | _, _, .str x, _ => .str x
  | _, _, .lst h hs, q => by
    simp only [Dt.ns, Bool.and_eq_true, Bool.not_eq_true', decide_eq_false_iff_not] at q
    refine .lst (hid_to h fun z => ?_) (Ats.hidS D hs q.2)
    subst z
    obtain ⟨xs, e, l5⟩ := D.sLst h
    cases e
    exact q.1 (hs.length.symm.trans l5)
  | _, _, .tup h hs, q => by
    simp only [Dt.ns] at q
    refine .tup (hid_to h fun z => ?_) (Ats.hidS D hs q)
    subst z
    obtain ⟨xs, e, _⟩ := D.sLst h
    cases e
  | _, _, .dic h hs, q => by
    simp only [Dt.ns] at q
    refine .dic (hid_to h fun z => ?_) (Atk.hidS D hs q)
    subst z
    obtain ⟨xs, e, _⟩ := D.sLst h
    cases e
theorem Ats.hidS {d s : Addr} {H : Hp} (D : Dr d s H) : ∀ {v : List V} {dt : List Dt}, Ats H v dt → Dt.nsL dt = true → Ats (hid s H) v dt
  | _, _, .nil, _ => .nil
  | _, _, .cons h hs, q => by
    simp only [Dt.nsL, Bool.and_eq_true] at q
    exact .cons (At.hidS D h q.1) (Ats.hidS D hs q.2)
theorem Atk.hidS {d s : Addr} {H : Hp} (D : Dr d s H) : ∀ {v : List (Key × V)} {dt : List (Str × Dt)}, Atk H v dt → Dt.nsK dt = true → Atk (hid s H) v dt
  | _, _, .nil, _ => .nil
  | _, _, .cons h hs, q => by
    simp only [Dt.nsK, Bool.and_eq_true] at q
    exact .cons (At.hidS D h q.1) (Atk.hidS D hs q.2)
end
/-- kept across draws -/
theorem At.draw {d s : Addr} {H H' : Hp} {v : V} {dt : Dt} (D : Dr d s H) (k : Same (hid s H) (hid s H')) (h : At H v dt) (q : dt.ns = true) : At H' v dt := (h.hidS D q).mono (k.trans hid_same)
/-! ### things in the heap that go on by themselves, beside the draws and one another -/
/-- a kind of thing: what it takes for its own, what is true of it -/
structure Wrl (ω : Type) where
  fp : ω → List Addr
  P : Hp → ω → Prop
  keep : ∀ {H H' : Hp} {w : ω}, P H w → KeepOn (fp w) H H' → P H' w
  live : ∀ {H : Hp} {w : ω}, P H w → ∀ a ∈ fp w, ∃ o, H a = some o ∧ ∀ xs, o ≠ .tup xs
section
variable {ω υ : Type} {M : Wrl ω} {N : Wrl υ} {d s lw : Addr} {H0 H H' : Hp} {w0 w w' : ω} {u u' : υ} {r : List V}
theorem Wrl.noT (h : M.P H w) : NoT (M.fp w) H := fun a m xs z => by
  obtain ⟨o, e, q⟩ := M.live h a m
  rw [e] at z
  exact q xs (Option.some.inj z)
theorem Wrl.same (h : M.P H w) (k : Same H H') : M.P H' w := M.keep h (KeepOn.same k)
theorem Wrl.hidK (h : M.P H w) (D : Dr d s H) (f : Off d s (M.fp w) H) (k : Same (hid s H) (hid s H')) : M.P H' w := M.keep h (KeepOn.hid k D.nt f.1)
theorem Dr.dns {d s : Addr} {H : Hp} (h : Dr d s H) : d ≠ s := by
  obtain ⟨c, cs, p, b, n, t, e, h1, h2, h3, h4, _⟩ := h
  exact h4
theorem Off.new {F : List Addr} (D : Dr d s H) (f : ∀ a ∈ F, H a = none) (k : Same (Gv.hid s H) (Gv.hid s H')) : Off d s F H' := by
  have o : Off d s [] H := ⟨by simp, by simp, fun c y _ => by simp⟩
  exact o.grow D (fun a m => .inr (f a m)) fun o e => hget k D.dns e
/-- a step of a thing alone: nothing else is written -/
structure Mov (M : Wrl ω) (H : Hp) (w : ω) (H' : Hp) (w' : ω) : Prop where
  out : Out (M.fp w) H H'
  gr : Grow (M.fp w) (M.fp w') H
theorem Mov.same (k : Same H H') : Mov M H w H' w := ⟨Same.out k, Grow.refl⟩
/-- the thing and the draws go on -/
structure Go (M : Wrl ω) (d s : Addr) (H0 : Hp) (w0 : ω) (H : Hp) (w : ω) : Prop where
  P : M.P H w
  D : Dr d s H
  off : Off d s (M.fp w) H
  out : Out (s :: M.fp w0) H0 H
  gr : Grow (M.fp w0) (M.fp w) H0
theorem Go.start (h : M.P H w) (D : Dr d s H) (o : Off d s (M.fp w) H) : Go M d s H w H w := ⟨h, D, o, Out.refl _ _, Grow.refl⟩
theorem Go.trans (a : Go M d s H0 w0 H w) (b : Go M d s H w H' w') : Go M d s H0 w0 H' w' := by
  have key : ∀ x, x ∉ s :: M.fp w0 → ∀ o, H0 x = some o → x ∉ s :: M.fp w := fun x nx o e z => by
    rcases List.mem_cons.mp z with z | z
    · exact nx (by rw [z]; simp)
    rcases a.gr x z with q | q
    · exact nx (List.mem_cons_of_mem _ q)
    · rw [q] at e; cases e
  refine ⟨b.P, b.D, b.off, fun x o nx e => b.out x o (key x nx o e) (a.out x o nx e), fun x mx => ?_⟩
  rcases b.gr x mx with z | z
  · exact a.gr x z
  · cases q : H0 x with
    | none => exact .inr rfl
    | some o =>
      by_cases nx : x ∈ s :: M.fp w0
      · rcases List.mem_cons.mp nx with nx | nx
        · obtain ⟨_, ⟨o2, e2⟩, _⟩ := a.D.live
          rw [nx, e2] at z; cases z
        · exact .inl nx
      · rw [a.out x o nx q] at z; cases z
theorem Go.move (a : Go M d s H0 w0 H w) (h : M.P H' w') (m : Mov M H w H' w') : Go M d s H0 w0 H' w' :=
  a.trans ⟨h, a.D.out a.off m.out, a.off.out a.D m.gr m.out, m.out.wide fun _ z => List.mem_cons_of_mem _ z, m.gr⟩
theorem Go.draw (a : Go M d s H0 w0 H w) (D : Dr d s H') (k : Same (hid s H) (hid s H')) : Go M d s H0 w0 H' w :=
  a.trans ⟨Wrl.hidK a.P a.D a.off k, D, a.off.hid a.D k, fun b o nb e => hget k (fun z => nb (by rw [z]; simp)) e, Grow.refl⟩
theorem Go.same (a : Go M d s H0 w0 H w) (k : Same H H') : Go M d s H0 w0 H' w := a.move (Wrl.same a.P k) (.same k)
/-- a new list beside them is written -/
theorem Go.poke {r : Addr} {xs : List V} {o : HO} (g : Go M d s H0 w0 H w) (D0 : Dr d s H0) (o0 : Off d s (M.fp w0) H0) (hn : H0 r = none) (hr : H r = some (.lst xs)) (nf : r ∉ M.fp w) : Go M d s H0 w0 (upd H r o) w := by
  obtain ⟨⟨o1, e1⟩, ⟨o2, e2⟩, l3⟩ := D0.live
  have nd : d ≠ r := ne_of_none e1 hn
  have ns : s ≠ r := ne_of_none e2 hn
  have dd : H d = H0 d := by
    rw [e1]
    exact g.out _ _ (fun z => (List.mem_cons.mp z).elim D0.dns o0.2.1) e1
  have oo : Off d s [r] H := ⟨by simpa using ns, by simpa using nd, fun c y q => by
    obtain ⟨o3, e3⟩ := l3 c y (dd ▸ q)
    simpa using ne_of_none e3 hn⟩
  refine ⟨M.keep g.P (KeepOn.out (F := [r]) (out_upd (by simp)) (fun a m xs' z => ?_) fun a m z => nf (List.mem_singleton.mp z ▸ m)), g.D.out oo (out_upd (by simp)), g.off.grow g.D Grow.refl fun o' e => upd_off nd e, fun b u nb e => upd_off (ne_of_none e hn) (g.out b u nb e), g.gr⟩
  rw [List.mem_singleton.mp m, hr] at z
  cases z
/-- another thing stays -/
theorem Go.other (g : Go M d s H w H' w') (h : M.P H w) (D : Dr d s H) (o : Off d s (M.fp w) H) (hu : N.P H u) (ou : Off d s (N.fp u) H) (dj : ∀ a ∈ N.fp u, a ∉ M.fp w) : N.P H' u ∧ Off d s (N.fp u) H' ∧ ∀ a ∈ N.fp u, a ∉ M.fp w' := by
  have nt : NoT (s :: M.fp w) H := fun a m => (List.mem_cons.mp m).elim (fun e => by rw [e]; exact D.nt) (Wrl.noT h a)
  refine ⟨N.keep hu (KeepOn.out g.out nt fun a m z => ?_), ou.grow D Grow.refl fun o' e => g.out d o' (fun z => (List.mem_cons.mp z).elim D.dns o.2.1) e, fun a m z => ?_⟩
  · rcases List.mem_cons.mp z with rfl | z
    · exact ou.1 m
    · exact dj a m z
  · rcases g.gr a z with q | q
    · exact dj a m q
    · obtain ⟨o', e, _⟩ := N.live hu a m
      rw [e] at q; cases q
/-- two things that do not touch each other, and a list (or tuple) beside them -/
structure Duo (M : Wrl ω) (N : Wrl υ) (d s lw : Addr) (r : HO) (H : Hp) (w : ω) (u : υ) : Prop where
  p1 : M.P H w
  p2 : N.P H u
  D : Dr d s H
  o1 : Off d s (M.fp w) H
  o2 : Off d s (N.fp u) H
  dj : ∀ a ∈ N.fp u, a ∉ M.fp w
  hl : H lw = some r
  l1 : lw ∉ M.fp w
  l2 : lw ∉ N.fp u
  ls : lw ≠ s
theorem Duo.symm {r : HO} (T : Duo M N d s lw r H w u) : Duo N M d s lw r H u w := ⟨T.p2, T.p1, T.D, T.o2, T.o1, fun a m z => T.dj a z m, T.hl, T.l2, T.l1, T.ls⟩
theorem Duo.go {r : HO} (T : Duo M N d s lw r H w u) : Go M d s H w H w := Go.start T.p1 T.D T.o1
theorem Duo.first {r : HO} (T : Duo M N d s lw r H w u) (g : Go M d s H w H' w') : Duo M N d s lw r H' w' u := by
  obtain ⟨a, b, c⟩ := g.other T.p1 T.D T.o1 T.p2 T.o2 T.dj
  have dl : lw ∉ s :: M.fp w := fun z => (List.mem_cons.mp z).elim T.ls T.l1
  refine ⟨g.P, a, g.D, g.off, b, c, g.out _ _ dl T.hl, fun z => ?_, T.l2, T.ls⟩
  rcases g.gr _ z with q | q
  · exact T.l1 q
  · rw [T.hl] at q; cases q
theorem Duo.draw {r : HO} (T : Duo M N d s lw r H w u) (D : Dr d s H') (k : Same (hid s H) (hid s H')) : Duo M N d s lw r H' w u := T.first (T.go.draw D k)
theorem Duo.same {r : HO} (T : Duo M N d s lw r H w u) (k : Same H H') : Duo M N d s lw r H' w u := T.first (T.go.same k)
/-- made one behind the other, then the list -/
theorem Duo.made {r : HO} {H1 H2 H3 : Hp} (D1 : Dr d s H1) (p1 : M.P H2 w) (f1 : ∀ a ∈ M.fp w, H1 a = none) (D2 : Dr d s H2) (s2 : Same (hid s H1) (hid s H2)) (p2 : N.P H3 u) (f2 : ∀ a ∈ N.fp u, H2 a = none) (D3 : Dr d s H3) (s3 : Same (hid s H2) (hid s H3)) (hlw : H3 lw = none) : Duo M N d s lw r (upd H3 lw r) w u := by
  have o1 := Off.new D1 f1 s2
  have o2 := Off.new D2 f2 s3
  have p1' := Wrl.hidK p1 D2 o1 s3
  have o1' := o1.hid D2 s3
  have sl := same_new (o := r) hlw
  refine ⟨Wrl.same p1' sl, Wrl.same p2 sl, D3.same sl, o1'.same D3 sl, o2.same D3 sl, fun a m z => ?_, upd_same, fun z => ?_, fun z => ?_, D3.ne hlw⟩
  · obtain ⟨o, e, _⟩ := M.live p1 a z
    rw [f2 a m] at e
    cases e
  · obtain ⟨o, e, _⟩ := M.live p1' _ z
    rw [hlw] at e
    cases e
  · obtain ⟨o, e, _⟩ := N.live p2 _ z
    rw [hlw] at e
    cases e
end
/-! ## Deeds -/
/-! ### what a deed leaves of a ground; sizes of what is told -/
theorem restH_mem {l : List En} {hs : List Int} {P : Int → Prop} (h : ∀ x ∈ hs, P x) (q : ∀ e ∈ l, P e.2.2) : ∀ x ∈ restH l hs, P x := by
  induction l generalizing hs with
  | nil => exact h
  | cons e r ih =>
    refine ih (hs := hs.set e.1.toNat e.2.2) (fun x m => ?_) fun e m => q e (List.mem_cons_of_mem _ m)
    rcases List.mem_or_eq_of_mem_set m with m | m
    · exact h x m
    · rw [m]
      exact q e List.mem_cons_self
theorem ok_done {d : Dt} (h : d.dep = 0) (k : d.okd = true) : (doneD d).dep ≤ 5 ∧ (doneD d).okd = true := by
  constructor
  · simp only [doneD, Dt.dep, Dt.depL, h]
    decide
  · simp [doneD, Dt.okd, Dt.okL, k]
theorem due_len {S : GS} {D : Deed} {t : Str} {l : List Int} (h : D.due S = some (t, l)) : l.length ≤ 3 := by
  cases D with
  | wr p w hh =>
    simp only [Deed.due] at h
    split at h
    · cases h; simp
    · cases h
  | pk p w => cases h
  | ps s n g t =>
    simp only [Deed.due] at h
    split at h
    · cases h; simp
    · obtain ⟨p, -, e⟩ := Option.map_eq_some_iff.mp h
      cases e
      simp
theorem depI : ∀ l : List Int, Dt.depL (l.map Dt.int) = 0
  | [] => rfl
  | a :: r => by rw [List.map_cons, Dt.depL, depI r]; rfl
theorem okI : ∀ l : List Int, Dt.okL (l.map Dt.int) = true
  | [] => rfl
  | a :: r => by rw [List.map_cons, Dt.okL, okI r]; rfl
theorem ok_err {t : Str} {l : List Int} (h : l.length ≤ 3) : (deedErr (t, l)).dep ≤ 5 ∧ (deedErr (t, l)).okd = true := by
  have e : Dt.depL (([true, true] ++ yes t).map Dt.bl) = 0 := by
    show Dt.depL [.bl _, .bl _, .bl _, .bl _, .bl _, .bl _, .bl _, .bl _, .bl _, .bl _] = 0
    simp [Dt.depL, Dt.dep]
  have e2 : Dt.okd (.lst (([true, true] ++ yes t).map Dt.bl)) = true := rfl
  constructor
  · simp only [deedErr, refD2, Dt.dep, Dt.depL, e, depI]
    decide
  · have e3 : Dt.okd (.tup (l.map Dt.int)) = true := by
      simp [Dt.okd, okI]
      omega
    unfold deedErr refD2
    simp only [Dt.okd, Dt.okL, Bool.and_eq_true] at e2 e3 ⊢
    simp only [e2, e3]
    simp
/-- what a deed of the changes l leaves of a ground that is not cut -/
structure DeedRel (S : GS) (l : List En) (S2 : GS) : Prop where
  fl : S2.fl = S.fl
  wd : S2.wd = S.wd
  ws : S2.ws = restW l S.ws
  hs : S2.hs = restH l S.hs
  ds : (S.ds = [] ∧ S2.ds = [] ∧ S2.al = S.al.map (fun x : Int => x - (costL S l : Nat)) ∧ S2.ch = S.ch + (costL S l : Nat)) ∨ (∃ ds0 es, S.ds = ds0 ++ [es] ∧ S2.ds = ds0 ++ [merge es (logOf l S.ws S.hs)] ∧ S2.al = S.al ∧ S2.ch = S.ch)
theorem deed_ok {c : Cl} {A : GA} {S : GS} {l : List En} {H : Hp} {Q : Hp → Prop} {E : XK} (hal : S.ds = [] → ∀ a, S.al = some a → ((costL S l : Nat) : Int) ≤ a) (fin : ∀ H2 S2, Gd c H2 A S2 → Out (fpA A) H H2 → DeedRel S l S2 → Q H2) : DeedOk c A S l H Q E := by
  refine ⟨fun e0 ea H' G O => fin H' _ G O ⟨rfl, rfl, rfl, rfl, .inl ⟨e0, e0, ?_, rfl⟩⟩, fun e0 a ea le H' G O => fin H' _ G O ⟨rfl, rfl, rfl, rfl, .inl ⟨e0, e0, ?_, rfl⟩⟩, fun e0 a ea lt => ?_, fun ds0 es e0 H' G O => fin H' _ G O ⟨rfl, rfl, rfl, rfl, .inr ⟨ds0, es, e0, rfl, rfl, rfl⟩⟩⟩
  · show S.al = _
    rw [ea]
    rfl
  · rw [ea]
    rfl
  · have := hal e0 a ea
    omega
theorem DeedRel.snap {S S2 : GS} {l : List En} {sn : List (List Int × List Int)} (h : DeedRel S l S2) (sp : Snap S.ws S.hs S.ds sn) (le : S.ws.length = S.hs.length) (ok : Chg S.ws.length l) (oks : ∀ es ∈ S.ds, Chg S.ws.length es) : Snap S2.ws S2.hs S2.ds sn ∧ S2.ds.length = S.ds.length := by
  rw [h.ws, h.hs]
  rcases h.ds with ⟨e1, e2, _⟩ | ⟨ds0, es, e1, e2, _⟩
  · rw [e1] at sp
    have : sn = [] := List.length_eq_zero_iff.mp sp.length.symm
    rw [e2, e1, this]
    exact ⟨.nil, rfl⟩
  · rw [e2, e1]
    rw [e1] at sp
    exact ⟨sp.deed le (oks es (by rw [e1]; simp)) ok, by simp⟩
theorem chg_deed {S : GS} {D : Deed} (ok : D.Ok S.ws.length) : Chg S.ws.length (D.chg S) := by
  cases D with
  | wr p w h => exact chg_one ok.1 ok.2.1
  | pk p w => exact chg_one ok.1 ok.2.1
  | ps s n g t => exact pas_chg ok.1 ok.2.2.1
theorem chg_hd {S : GS} {D : Deed} (ok : D.Ok S.ws.length) (le : S.ws.length = S.hs.length) (h : ∀ x ∈ S.hs, isHd x) : ∀ e ∈ D.chg S, isHd e.2.2 := by
  cases D with
  | wr p w hh =>
    intro e m
    rw [List.mem_singleton.mp m]
    exact ok.2.2.2.1
  | pk p w =>
    intro e m
    rw [List.mem_singleton.mp m]
    exact getD_hd h (by have := ok.1; have := ok.2.1; omega)
  | ps s n g t =>
    intro e m
    obtain ⟨i, _, rfl⟩ := List.mem_map.mp m
    exact ok.2.2.2.2
theorem img_ok {S : GS} (h1 : S.ws.length ≤ 10000) (h2 : S.hs.length ≤ 10000) : (imgD S).dep ≤ 5 ∧ (imgD S).okd = true := by
  constructor
  · simp only [imgD, Dt.dep, Dt.depL, depI]
    decide
  · simp [imgD, Dt.okd, Dt.okL, okI, h1, h2]
/-! ## Sides -/
/-! ### a side: a ground, and the law's own lists of it (the snapshots are tuples of two lists) -/
/-- an image's parts -/
structure ImOk (w f : Int) (ws hs : List Int) : Prop where
  kw : w = 16 ∨ w = 32 ∨ w = 64
  kf : isWd f
  le : ws.length = hs.length
  md : (ws.length : Int) % w = 0
  p0 : 1 ≤ (ws.length : Int) / w
  p1 : (ws.length : Int) / w ≤ 256
  aw : ∀ x ∈ ws, isWd x
  ah : ∀ x ∈ hs, isHd x
theorem ImOk.len {w f : Int} {ws hs : List Int} (h : ImOk w f ws hs) : 16 ≤ ws.length ∧ ws.length ≤ 16384 := by
  obtain ⟨kw, _, _, md, p0, p1, _, _⟩ := h
  rcases kw with rfl | rfl | rfl <;> omega
theorem ImOk.to {w f : Int} {ws hs ws' hs' : List Int} (h : ImOk w f ws hs) (l1 : ws'.length = ws.length) (l2 : hs'.length = hs.length) (aw : ∀ x ∈ ws', isWd x) (ah : ∀ x ∈ hs', isHd x) : ImOk w f ws' hs' :=
  ⟨h.kw, h.kf, l1.trans (h.le.trans l2.symm), by rw [l1]; exact h.md, by rw [l1]; exact h.p0, by rw [l1]; exact h.p1, aw, ah⟩
theorem restW_mem {l : List En} {ws : List Int} {P : Int → Prop} (h : ∀ x ∈ ws, P x) (q : ∀ e ∈ l, P e.2.1) : ∀ x ∈ restW l ws, P x := by
  induction l generalizing ws with
  | nil => exact h
  | cons e r ih =>
    refine ih (ws := ws.set e.1.toNat e.2.1) (fun x m => ?_) fun e m => q e (List.mem_cons_of_mem _ m)
    rcases List.mem_or_eq_of_mem_set m with m | m
    · exact h x m
    · rw [m]
      exact q e List.mem_cons_self
structure SA where
  x : Addr
  w : Addr
  h : Addr
  k : Addr
  A : GA
  ks : List (Addr × Addr × Addr)
def fpT (ks : List (Addr × Addr × Addr)) : List Addr := ks.flatMap fun e => [e.2.1, e.2.2]
abbrev fpSL (W : SA) : List Addr := W.x :: W.w :: W.h :: W.k :: fpT W.ks
abbrev fpS (W : SA) : List Addr := fpSL W ++ fpA W.A
theorem fpT_snoc {ks : List (Addr × Addr × Addr)} {e : Addr × Addr × Addr} : fpT (ks ++ [e]) = fpT ks ++ [e.2.1, e.2.2] := by simp [fpT]
inductive SksT (H : Hp) : List (Addr × Addr × Addr) → List (List Int × List Int) → Prop where
  | nil : SksT H [] []
  | cons {e : Addr × Addr × Addr} {x : List Int × List Int} {ks : List (Addr × Addr × Addr)} {sn : List (List Int × List Int)} (h1 : H e.1 = some (.tup [.ref e.2.1, .ref e.2.2])) (h2 : H e.2.1 = some (.lst (x.1.map V.int))) (h3 : H e.2.2 = some (.lst (x.2.map V.int))) (r : SksT H ks sn) : SksT H (e :: ks) (x :: sn)
section
variable {H H' : Hp} {ks : List (Addr × Addr × Addr)} {sn : List (List Int × List Int)} {F : List Addr}
theorem SksT.keep (h : SksT H ks sn) (k : KeepOn F H H') (s : ∀ a ∈ fpT ks, a ∈ F) : SksT H' ks sn := by
  induction h with
  | nil => exact .nil
  | @cons e x ks sn h1 h2 h3 r ih =>
    refine .cons (k.tup _ _ h1) (k.on _ (s _ ?_) _ h2) (k.on _ (s _ ?_) _ h3) (ih fun a m => s a ?_)
    · simp [fpT]
    · simp [fpT]
    · unfold fpT at m ⊢
      rw [List.flatMap_cons]
      exact List.mem_append_right _ m
theorem SksT.live (h : SksT H ks sn) : ∀ a ∈ fpT ks, ∃ xs, H a = some (.lst xs) := by
  induction h with
  | nil => intro a m; cases m
  | @cons e x ks sn h1 h2 h3 r ih =>
    intro a m
    unfold fpT at m
    rw [List.flatMap_cons] at m
    rcases List.mem_append.mp m with m | m
    · simp only [List.mem_cons, List.not_mem_nil, or_false] at m
      rcases m with rfl | rfl
      · exact ⟨_, h2⟩
      · exact ⟨_, h3⟩
    · exact ih a m
theorem SksT.length (h : SksT H ks sn) : ks.length = sn.length := by
  induction h with
  | nil => rfl
  | cons _ _ _ _ ih => simp [ih]
theorem SksT.snoc {e : Addr × Addr × Addr} {x : List Int × List Int} (h : SksT H ks sn) (h1 : H e.1 = some (.tup [.ref e.2.1, .ref e.2.2])) (h2 : H e.2.1 = some (.lst (x.1.map V.int))) (h3 : H e.2.2 = some (.lst (x.2.map V.int))) : SksT H (ks ++ [e]) (sn ++ [x]) := by
  induction h with
  | nil => exact .cons h1 h2 h3 .nil
  | cons a b c _ ih => exact .cons a b c ih
theorem SksT.last {x : List Int × List Int} : ∀ {sn : List (List Int × List Int)} {ks : List (Addr × Addr × Addr)}, SksT H ks (sn ++ [x]) → ∃ ks0 e, ks = ks0 ++ [e] ∧ SksT H ks0 sn ∧ H e.1 = some (.tup [.ref e.2.1, .ref e.2.2]) ∧ H e.2.1 = some (.lst (x.1.map V.int)) ∧ H e.2.2 = some (.lst (x.2.map V.int)) := by
  intro sn
  induction sn with
  | nil =>
    intro ks h
    cases h with
    | cons h1 h2 h3 r =>
      cases r
      exact ⟨[], _, rfl, .nil, h1, h2, h3⟩
  | cons y r ih =>
    intro ks h
    cases h with
    | cons h1 h2 h3 q =>
      obtain ⟨ks0, e, rfl, a, b, d, f⟩ := ih q
      exact ⟨_ :: ks0, e, rfl, .cons h1 h2 h3 a, b, d, f⟩
/-- the first snapshot -/
theorem SksT.first {x : List Int × List Int} (h : SksT H ks (x :: sn)) : ∃ e ks0, ks = e :: ks0 ∧ H e.1 = some (.tup [.ref e.2.1, .ref e.2.2]) ∧ H e.2.1 = some (.lst (x.1.map V.int)) ∧ H e.2.2 = some (.lst (x.2.map V.int)) := by
  cases h with
  | cons h1 h2 h3 r => exact ⟨_, _, rfl, h1, h2, h3⟩
end
/-- the law's lists of a side -/
structure Ls (H : Hp) (W : SA) (tl : List V) (ws hs : List Int) (sn : List (List Int × List Int)) : Prop where
  hx : H W.x = some (.lst (.ref W.A.g :: .ref W.w :: .ref W.h :: .ref W.k :: tl))
  hw : H W.w = some (.lst (ws.map V.int))
  hh : H W.h = some (.lst (hs.map V.int))
  hk : H W.k = some (.lst (W.ks.map fun e => V.ref e.1))
  hs : SksT H W.ks sn
/-- the heap's part of a side; ws, hs, sn: what the law's lists tell, S: what the ground tells -/
structure Sx (c : Cl) (H : Hp) (W : SA) (tl : List V) (ws hs : List Int) (S : GS) (sn : List (List Int × List Int)) : Prop where
  L : Ls H W tl ws hs sn
  G : Gd c H W.A S
  nd : (fpSL W).Nodup
  dj : ∀ a ∈ fpSL W, a ∉ fpA W.A
/-- a step of a side: nothing else is written -/
structure MvS (W : SA) (H : Hp) (W' : SA) (H' : Hp) : Prop where
  out : Out (fpS W) H H'
  gr : Grow (fpS W) (fpS W') H
theorem MvS.refl {W : SA} {H : Hp} : MvS W H W H := ⟨Out.refl _ _, Grow.refl⟩
theorem MvS.same {W : SA} {H H' : Hp} (s : Same H H') : MvS W H W H' := ⟨Same.out s, Grow.refl⟩
theorem MvS.trans {W W1 W2 : SA} {H H1 H2 : Hp} (a : MvS W H W1 H1) (b : MvS W1 H1 W2 H2) : MvS W H W2 H2 := by
  have key : ∀ x, x ∉ fpS W → ∀ o, H x = some o → x ∉ fpS W1 := fun x n o e z => by
    rcases a.gr x z with q | q
    · exact n q
    · rw [q] at e; cases e
  refine ⟨fun x o n e => b.out x o (key x n o e) (a.out x o n e), fun x m => ?_⟩
  by_cases n : x ∈ fpS W
  · exact .inl n
  · refine .inr ?_
    cases q : H x with
    | none => rfl
    | some o =>
      rcases b.gr x m with z | z
      · exact absurd z (key x n o q)
      · rw [a.out x o n q] at z; cases z
section
variable {c : Cl} {H H' : Hp} {W W' : SA} {tl tl' : List V} {ws hs ws' hs' : List Int} {S : GS} {sn sn' : List (List Int × List Int)} {F : List Addr}
theorem Ls.live (h : Ls H W tl ws hs sn) : ∀ a ∈ fpSL W, ∃ xs, H a = some (.lst xs) := by
  intro a m
  simp only [fpSL, List.mem_cons] at m
  rcases m with rfl | rfl | rfl | rfl | m
  · exact ⟨_, h.hx⟩
  · exact ⟨_, h.hw⟩
  · exact ⟨_, h.hh⟩
  · exact ⟨_, h.hk⟩
  · exact h.hs.live a m
theorem Ls.noT (h : Ls H W tl ws hs sn) : NoT (fpSL W) H := fun a m xs z => by
  obtain ⟨ys, e⟩ := h.live a m
  rw [e] at z
  cases z
theorem Ls.keep (h : Ls H W tl ws hs sn) (k : KeepOn F H H') (s : ∀ a ∈ fpSL W, a ∈ F) : Ls H' W tl ws hs sn :=
  ⟨k.on _ (s _ (by simp)) _ h.hx, k.on _ (s _ (by simp)) _ h.hw, k.on _ (s _ (by simp)) _ h.hh, k.on _ (s _ (by simp)) _ h.hk, h.hs.keep k fun a m => s a (by simp [m])⟩
theorem Sx.live (h : Sx c H W tl ws hs S sn) : ∀ a ∈ fpS W, ∃ o, H a = some o ∧ ∀ xs, o ≠ .tup xs := fun a m => by
  rcases List.mem_append.mp m with m | m
  · obtain ⟨xs, e⟩ := h.L.live a m
    exact ⟨_, e, fun _ z => by cases z⟩
  · exact h.G.live a m
theorem Sx.noT (h : Sx c H W tl ws hs S sn) : NoT (fpS W) H := fun a m xs z => by
  obtain ⟨o, e, q⟩ := h.live a m
  rw [e] at z
  exact q xs (Option.some.inj z)
theorem Sx.keep (h : Sx c H W tl ws hs S sn) (k : KeepOn F H H') (s : ∀ a ∈ fpS W, a ∈ F) : Sx c H' W tl ws hs S sn :=
  ⟨h.L.keep k fun a m => s a (List.mem_append_left _ m), h.G.keep k fun a m => s a (List.mem_append_right _ m), h.nd, h.dj⟩
theorem Sx.mono (h : Sx c H W tl ws hs S sn) (k : Same H H') : Sx c H' W tl ws hs S sn := h.keep (F := fpS W) (KeepOn.same k) fun _ m => m
/-- a tuple stays where a side goes on -/
theorem Sx.tupK {xs : List V} {a : Addr} (h : Sx c H W tl ws hs S sn) (m : MvS W H W' H') (e : H a = some (.tup xs)) : H' a = some (.tup xs) :=
  (KeepOn.out (G := []) m.out h.noT (fun _ m => by cases m)).tup _ _ e
/-- the ground alone goes on -/
theorem Sx.ground {A' : GA} {S' : GS} (h : Sx c H W tl ws hs S sn) (hF : ∀ a ∈ F, a ∈ fpA W.A) (O : Out F H H') (G : Gd c H' A' S') (eg : A'.g = W.A.g) (g : Grow (fpA W.A) (fpA A') H) : Sx c H' { W with A := A' } tl ws hs S' sn ∧ MvS W H { W with A := A' } H' := by
  have k : KeepOn (fpSL W) H H' := KeepOn.out O (h.G.noT.sub hF) fun a m z => h.dj a m (hF a z)
  have L := h.L.keep k fun _ m => m
  refine ⟨⟨⟨?_, L.hw, L.hh, L.hk, L.hs⟩, G, h.nd, fun a m z => ?_⟩, O.wide fun a m => List.mem_append_right _ (hF a m), fun a m => ?_⟩
  · show H' W.x = some (.lst (.ref A'.g :: _))
    rw [eg]
    exact L.hx
  · rcases g a z with q | q
    · exact h.dj a m q
    · obtain ⟨xs, e⟩ := h.L.live a m
      rw [q] at e; cases e
  · rcases List.mem_append.mp m with m | m
    · exact .inl (List.mem_append_left _ m)
    · rcases g a m with q | q
      · exact .inl (List.mem_append_right _ q)
      · exact .inr q
/-- the law's lists alone go on -/
theorem Sx.re (h : Sx c H W tl ws hs S sn) (hF : ∀ a ∈ F, a ∈ fpSL W) (O : Out F H H') (eA : W'.A = W.A) (L : Ls H' W' tl' ws' hs' sn') (nd : (fpSL W').Nodup) (gr : ∀ a ∈ fpSL W', a ∈ fpSL W ∨ H a = none) : Sx c H' W' tl' ws' hs' S sn' ∧ MvS W H W' H' := by
  have kg : KeepOn (fpA W.A) H H' := KeepOn.out O (h.L.noT.sub hF) fun a m z => h.dj a (hF a z) m
  refine ⟨⟨L, by rw [eA]; exact h.G.keep kg fun _ m => m, nd, fun a m z => ?_⟩, O.wide fun a m => List.mem_append_left _ (hF a m), fun a m => ?_⟩
  · rw [eA] at z
    rcases gr a m with q | q
    · exact h.dj a q z
    · obtain ⟨o, e, _⟩ := h.G.live a z
      rw [q] at e; cases e
  · rcases List.mem_append.mp m with m | m
    · exact (gr a m).imp (List.mem_append_left _) id
    · rw [eA] at m
      exact .inl (List.mem_append_right _ m)
theorem nd_of (nd : (fpSL W).Nodup) : (W.x ≠ W.w ∧ W.x ≠ W.h ∧ W.x ≠ W.k ∧ W.x ∉ fpT W.ks) ∧ (W.w ≠ W.h ∧ W.w ≠ W.k ∧ W.w ∉ fpT W.ks) ∧ (W.h ≠ W.k ∧ W.h ∉ fpT W.ks) ∧ W.k ∉ fpT W.ks ∧ (fpT W.ks).Nodup := by
  simp only [fpSL, List.nodup_cons, List.mem_cons, not_or] at nd
  exact nd
/-- the words and holders -/
theorem Sx.lists (h : Sx c H W tl ws hs S sn) (hw : H' W.w = some (.lst (ws'.map V.int))) (hh : H' W.h = some (.lst (hs'.map V.int))) (O : Out [W.w, W.h] H H') : Sx c H' W tl ws' hs' S sn ∧ MvS W H W H' := by
  obtain ⟨⟨n1, n2, n3, n4⟩, ⟨n5, n6, n7⟩, ⟨n8, n9⟩, n10, n11⟩ := nd_of h.nd
  have hF : ∀ a ∈ [W.w, W.h], a ∈ fpSL W := by simp
  have k : KeepOn (W.x :: W.k :: fpT W.ks) H H' := KeepOn.out O (h.L.noT.sub hF) fun a m z => by
    simp only [List.mem_cons, List.not_mem_nil, or_false] at m z
    rcases z with rfl | rfl
    · rcases m with m | m | m
      · exact n1 m.symm
      · exact n6 m
      · exact n7 m
    · rcases m with m | m | m
      · exact n2 m.symm
      · exact n8 m
      · exact n9 m
  exact h.re hF O rfl ⟨k.on _ (by simp) _ h.L.hx, hw, hh, k.on _ (by simp) _ h.L.hk, h.L.hs.keep k (by simp +contextual)⟩ h.nd fun _ m => .inl m
/-- the side's own list -/
theorem Sx.own {tl' : List V} (h : Sx c H W tl ws hs S sn) (hx : H' W.x = some (.lst (.ref W.A.g :: .ref W.w :: .ref W.h :: .ref W.k :: tl'))) (O : Out [W.x] H H') : Sx c H' W tl' ws hs S sn ∧ MvS W H W H' := by
  obtain ⟨⟨n1, n2, n3, n4⟩, ⟨n5, n6, n7⟩, ⟨n8, n9⟩, n10, n11⟩ := nd_of h.nd
  have hF : ∀ a ∈ [W.x], a ∈ fpSL W := by simp
  have k : KeepOn (W.w :: W.h :: W.k :: fpT W.ks) H H' := KeepOn.out O (h.L.noT.sub hF) fun a m z => by
    rw [List.mem_singleton.mp z] at m
    simp only [List.mem_cons] at m
    rcases m with m | m | m | m
    · exact n1 m
    · exact n2 m
    · exact n3 m
    · exact n4 m
  exact h.re hF O rfl ⟨hx, k.on _ (by simp) _ h.L.hw, k.on _ (by simp) _ h.L.hh, k.on _ (by simp) _ h.L.hk, h.L.hs.keep k (by simp +contextual)⟩ h.nd fun _ m => .inl m
/-- another list of words -/
theorem Sx.newW {p : Addr} (h : Sx c H W tl ws hs S sn) (hp : H p = none) (g : H' p = some (.lst (ws'.map V.int))) (hx : H' W.x = some (.lst (.ref W.A.g :: .ref p :: .ref W.h :: .ref W.k :: tl))) (O : Out [W.x] H H') : Sx c H' { W with w := p } tl ws' hs S sn ∧ MvS W H { W with w := p } H' := by
  obtain ⟨⟨n1, n2, n3, n4⟩, ⟨n5, n6, n7⟩, ⟨n8, n9⟩, n10, n11⟩ := nd_of h.nd
  have hF : ∀ a ∈ [W.x], a ∈ fpSL W := by simp
  have k : KeepOn (W.h :: W.k :: fpT W.ks) H H' := KeepOn.out O (h.L.noT.sub hF) fun a m z => by
    rw [List.mem_singleton.mp z] at m
    simp only [List.mem_cons] at m
    rcases m with m | m | m
    · exact n2 m
    · exact n3 m
    · exact n4 m
  have np : ∀ a ∈ fpSL W, p ≠ a := fun a m z => by
    obtain ⟨xs, e⟩ := h.L.live a m
    rw [← z, hp] at e; cases e
  refine h.re hF O rfl ⟨hx, g, k.on _ (by simp) _ h.L.hh, k.on _ (by simp) _ h.L.hk, h.L.hs.keep k (by simp +contextual)⟩ ?_ fun a m => ?_
  · simp only [fpSL, List.nodup_cons, List.mem_cons, not_or]
    exact ⟨⟨fun z => np W.x (by simp) z.symm, n2, n3, n4⟩, ⟨np _ (by simp), np _ (by simp), fun m => np p (by simp [m]) rfl⟩, ⟨n8, n9⟩, n10, n11⟩
  · simp only [fpSL, List.mem_cons] at m
    rcases m with rfl | rfl | rfl | rfl | m
    · exact .inl (by simp)
    · exact .inr hp
    · exact .inl (by simp)
    · exact .inl (by simp)
    · exact .inl (by simp [m])
/-- another list of holders -/
theorem Sx.newH {p : Addr} (h : Sx c H W tl ws hs S sn) (hp : H p = none) (g : H' p = some (.lst (hs'.map V.int))) (hx : H' W.x = some (.lst (.ref W.A.g :: .ref W.w :: .ref p :: .ref W.k :: tl))) (O : Out [W.x] H H') : Sx c H' { W with h := p } tl ws hs' S sn ∧ MvS W H { W with h := p } H' := by
  obtain ⟨⟨n1, n2, n3, n4⟩, ⟨n5, n6, n7⟩, ⟨n8, n9⟩, n10, n11⟩ := nd_of h.nd
  have hF : ∀ a ∈ [W.x], a ∈ fpSL W := by simp
  have k : KeepOn (W.w :: W.k :: fpT W.ks) H H' := KeepOn.out O (h.L.noT.sub hF) fun a m z => by
    rw [List.mem_singleton.mp z] at m
    simp only [List.mem_cons] at m
    rcases m with m | m | m
    · exact n1 m
    · exact n3 m
    · exact n4 m
  have np : ∀ a ∈ fpSL W, p ≠ a := fun a m z => by
    obtain ⟨xs, e⟩ := h.L.live a m
    rw [← z, hp] at e; cases e
  refine h.re hF O rfl ⟨hx, k.on _ (by simp) _ h.L.hw, g, k.on _ (by simp) _ h.L.hk, h.L.hs.keep k (by simp +contextual)⟩ ?_ fun a m => ?_
  · simp only [fpSL, List.nodup_cons, List.mem_cons, not_or]
    exact ⟨⟨n1, fun z => np W.x (by simp) z.symm, n3, n4⟩, ⟨fun z => np W.w (by simp) z.symm, n6, n7⟩, ⟨np _ (by simp), fun m => np p (by simp [m]) rfl⟩, n10, n11⟩
  · simp only [fpSL, List.mem_cons] at m
    rcases m with rfl | rfl | rfl | rfl | m
    · exact .inl (by simp)
    · exact .inl (by simp)
    · exact .inr hp
    · exact .inl (by simp)
    · exact .inl (by simp [m])
/-- the stack grows by a snapshot -/
theorem Sx.push {a1 a2 e : Addr} (h : Sx c H W tl ws hs S sn) (h1 : H a1 = none) (h2 : H a2 = none) (n12 : a1 ≠ a2) (g1 : H' a1 = some (.lst (ws.map V.int))) (g2 : H' a2 = some (.lst (hs.map V.int))) (g3 : H' e = some (.tup [.ref a1, .ref a2]))
    (hk : H' W.k = some (.lst ((W.ks.map fun e => V.ref e.1) ++ [.ref e]))) (O : Out [W.k] H H') : Sx c H' { W with ks := W.ks ++ [(e, a1, a2)] } tl ws hs S (sn ++ [(ws, hs)]) ∧ MvS W H { W with ks := W.ks ++ [(e, a1, a2)] } H' := by
  obtain ⟨⟨n1, n2, n3, n4⟩, ⟨n5, n6, n7⟩, ⟨n8, n9⟩, n10, n11⟩ := nd_of h.nd
  have hF : ∀ a ∈ [W.k], a ∈ fpSL W := by simp
  have k : KeepOn (W.x :: W.w :: W.h :: fpT W.ks) H H' := KeepOn.out O (h.L.noT.sub hF) fun a m z => by
    have z := List.mem_singleton.mp z
    subst z
    simp only [List.mem_cons] at m
    rcases m with m | m | m | m
    · exact n3 m.symm
    · exact n6 m.symm
    · exact n8 m.symm
    · exact n10 m
  have np : ∀ {p : Addr}, H p = none → p ∉ fpSL W := fun hp m => by
    obtain ⟨xs, e⟩ := h.L.live _ m
    rw [hp] at e; cases e
  have eL : fpSL { W with ks := W.ks ++ [(e, a1, a2)] } = fpSL W ++ [a1, a2] := by
    show W.x :: W.w :: W.h :: W.k :: fpT (W.ks ++ [(e, a1, a2)]) = _
    rw [fpT_snoc]
    rfl
  refine h.re hF O rfl ⟨k.on _ (by simp) _ h.L.hx, k.on _ (by simp) _ h.L.hw, k.on _ (by simp) _ h.L.hh, by rw [hk]; simp, (h.L.hs.keep k (by simp +contextual)).snoc (e := (e, a1, a2)) (x := (ws, hs)) g3 g1 g2⟩ ?_ fun a m => ?_
  · rw [eL]
    refine List.nodup_append.mpr ⟨h.nd, ?_, fun x hx y hy z => ?_⟩
    · simp [n12]
    · subst z
      simp only [List.mem_cons, List.not_mem_nil, or_false] at hy
      rcases hy with rfl | rfl
      · exact np h1 hx
      · exact np h2 hx
  · rw [eL] at m
    rcases List.mem_append.mp m with m | m
    · exact .inl m
    · simp only [List.mem_cons, List.not_mem_nil, or_false] at m
      rcases m with rfl | rfl
      · exact .inr h1
      · exact .inr h2
/-- the stack's last snapshot is taken off -/
theorem Sx.pop {x : List Int × List Int} (h : Sx c H W tl ws hs S (sn ++ [x])) : ∃ ks0 e a1 a2, W.ks = ks0 ++ [(e, a1, a2)] ∧ H e = some (.tup [.ref a1, .ref a2]) ∧ H a1 = some (.lst (x.1.map V.int)) ∧ H a2 = some (.lst (x.2.map V.int)) ∧ a1 ∉ fpSL { W with ks := ks0 } ∧ a2 ∉ fpSL { W with ks := ks0 } ∧ a1 ∉ fpA W.A ∧ a2 ∉ fpA W.A ∧
    ∀ H', H' W.k = some (.lst (ks0.map fun e => V.ref e.1)) → Out [W.k] H H' → Sx c H' { W with ks := ks0 } tl ws hs S sn ∧ MvS W H { W with ks := ks0 } H' ∧ H' e = some (.tup [.ref a1, .ref a2]) ∧ H' a1 = some (.lst (x.1.map V.int)) ∧ H' a2 = some (.lst (x.2.map V.int)) := by
  obtain ⟨ks0, ⟨e, a1, a2⟩, ek, s0, q1, q2, q3⟩ := h.L.hs.last
  have eL : fpSL W = fpSL { W with ks := ks0 } ++ [a1, a2] := by
    show W.x :: W.w :: W.h :: W.k :: fpT W.ks = _
    rw [ek, fpT_snoc]
    rfl
  have nd := h.nd
  rw [eL] at nd
  obtain ⟨nd0, nd1, nd2⟩ := List.nodup_append.mp nd
  have m1 : a1 ∈ fpSL W := by rw [eL]; simp
  have m2 : a2 ∈ fpSL W := by rw [eL]; simp
  refine ⟨ks0, e, a1, a2, ek, q1, q2, q3, fun z => nd2 _ z a1 (by simp) rfl, fun z => nd2 _ z a2 (by simp) rfl, h.dj _ m1, h.dj _ m2, fun H' hk O => ?_⟩
  obtain ⟨⟨n1, n2, n3, n4⟩, ⟨n5, n6, n7⟩, ⟨n8, n9⟩, n10, n11⟩ := nd_of (W := { W with ks := ks0 }) nd0
  have hF : ∀ a ∈ [W.k], a ∈ fpSL W := by simp
  have kk : ∀ a ∈ [a1, a2], a ≠ W.k := fun a m z => nd2 W.k (by simp [fpSL]) a m z.symm
  have k : KeepOn (W.x :: W.w :: W.h :: a1 :: a2 :: fpT ks0) H H' := KeepOn.out O (h.L.noT.sub hF) fun a m z => by
    have z := List.mem_singleton.mp z
    subst z
    simp only [List.mem_cons] at m
    rcases m with m | m | m | m | m | m
    · exact n3 m.symm
    · exact n6 m.symm
    · exact n8 m.symm
    · exact kk a1 (by simp) m.symm
    · exact kk a2 (by simp) m.symm
    · exact n10 m
  obtain ⟨X, M⟩ := h.re (W' := { W with ks := ks0 }) hF O rfl ⟨k.on _ (by simp) _ h.L.hx, k.on _ (by simp) _ h.L.hw, k.on _ (by simp) _ h.L.hh, hk, s0.keep k (by simp +contextual)⟩ nd0 fun a m => .inl (by rw [eL]; exact List.mem_append_left _ m)
  exact ⟨X, M, k.tup _ _ q1, k.on _ (by simp) _ q2, k.on _ (by simp) _ q3⟩
end
/-! ### what is true of a side between its steps; f: what stands behind the starts in the law's list -/
structure Sd (c : Cl) (f : GS → List V) (H : Hp) (W : SA) (S : GS) (sn : List (List Int × List Int)) : Prop where
  X : Sx c H W (f S) S.ws S.hs S sn
  sp : Snap S.ws S.hs S.ds sn
  im : ImOk S.wd S.fl S.ws S.hs
  ni : ∀ x ∈ sn, ImOk S.wd S.fl x.1 x.2
theorem getD_of {l : List Int} {P : Int → Prop} {i : Nat} (h : ∀ x ∈ l, P x) (z : P 0) : P (l.getD i 0) := by
  rw [List.getD_eq_getElem?_getD]
  cases e : l[i]? with
  | none => exact z
  | some x => exact h x (List.mem_of_getElem? e)
theorem chg_wd {S : GS} {D : Deed} (ok : D.Ok S.ws.length) (f : isWd S.fl) (h : ∀ x ∈ S.ws, isWd x) : ∀ e ∈ D.chg S, isWd e.2.1 := by
  cases D with
  | wr p w hh =>
    intro e m
    rw [List.mem_singleton.mp m]
    exact ok.2.2.1
  | pk p w =>
    intro e m
    rw [List.mem_singleton.mp m]
    exact ok.2.2
  | ps s n g t =>
    intro e m
    obtain ⟨i, _, rfl⟩ := List.mem_map.mp m
    show isWd (if t = 0 then S.fl else _)
    split
    · exact f
    · exact getD_of h (by decide)
theorem ImOk.deed {S : GS} {D : Deed} (h : ImOk S.wd S.fl S.ws S.hs) (ok : D.Ok S.ws.length) : ImOk S.wd S.fl (restW (D.chg S) S.ws) (restH (D.chg S) S.hs) :=
  h.to restW_len restH_len (restW_mem h.aw (chg_wd ok h.kf h.aw)) (restH_mem h.ah (chg_hd ok h.le h.ah))
structure SW where
  W : SA
  S : GS
  sn : List (List Int × List Int)
/-- a side as a thing that goes on by itself -/
def wS (c : Cl) (f : GS → List V) : Wrl SW where
  fp := fun w => fpS w.W
  P := fun H w => Sd c f H w.W w.S w.sn
  keep := fun h k => ⟨h.X.keep k fun _ m => m, h.sp, h.im, h.ni⟩
  live := fun h => h.X.live
theorem Sd.mono {c : Cl} {f : GS → List V} {H H' : Hp} {W : SA} {S : GS} {sn : List (List Int × List Int)} (h : Sd c f H W S sn) (k : Same H H') : Sd c f H' W S sn := ⟨h.X.mono k, h.sp, h.im, h.ni⟩
theorem MvS.mov {c : Cl} {f : GS → List V} {w w' : SW} {H H' : Hp} (m : MvS w.W H w'.W H') : Mov (wS c f) H w H' w' := ⟨m.out, m.gr⟩
/-! ## Sides2 -/
/-! ### steps of a side; tuples stay -/
inductive Stq where
  | bg
  | cm
  | cn
  | dd (D : Deed)
def Stq.vs : Stq → List V
  | .bg => [.str "begin"]
  | .cm => [.str "commit"]
  | .cn => [.str "cancel"]
  | .dd D => D.vs
def Stq.Ok (n : Nat) : Stq → Prop
  | .dd D => D.Ok n
  | _ => True
def Stq.cnt (n : Nat) : Stq → Nat
  | .bg => n + 1
  | .cm => n - 1
  | .cn => n - 1
  | .dd _ => n
def doneT (d : Dt) : Dt := .tup [.str "done", d]
theorem ok_doneT {d : Dt} (h : d.dep = 0) (k : d.okd = true) : (doneT d).dep ≤ 5 ∧ (doneT d).okd = true := by
  constructor
  · simp only [doneT, Dt.dep, Dt.depL, h]
    decide
  · simp [doneT, Dt.okd, Dt.okL, k]
theorem Dr.neT {d s x : Addr} {H : Hp} {xs : List V} (h : Dr d s H) (e : H x = some (.tup xs)) : x ≠ s := fun z => by
  obtain ⟨ys, q, _⟩ := h.sLst (z ▸ e)
  cases q
def TupK (H H' : Hp) : Prop := ∀ b xs, H b = some (.tup xs) → H' b = some (.tup xs)
theorem Go.tupK {ω : Type} {M : Wrl ω} {d s : Addr} {H H' : Hp} {w w' : ω} (g : Go M d s H w H' w') (h : M.P H w) (D : Dr d s H) : TupK H H' := fun b xs e => g.out b _ (fun z => by
  rcases List.mem_cons.mp z with z | z
  · exact D.nt xs (z ▸ e)
  · exact Wrl.noT h b z xs e) e
theorem hidTup {d s : Addr} {H H' : Hp} (D : Dr d s H) (k : Same (hid s H) (hid s H')) : TupK H H' := fun b xs e => hget k (D.neT e) e
theorem Stq.cnt_mono {q : Stq} {a b : Nat} (h : a ≤ b) : q.cnt a ≤ q.cnt b := by
  cases q <;> simp only [Stq.cnt] <;> omega
mutual
/-- data of tuples alone -/
def Dt.tp : Dt → Bool
  | .lst _ => false
  | .tup l => Dt.tpL l
  | .dic _ => false
  | _ => true
def Dt.tpL : List Dt → Bool
  | [] => true
  | d :: r => d.tp && Dt.tpL r
end
mutual
theorem At.tupK {H H' : Hp} (t : TupK H H') : ∀ {v : V} {d : Dt}, At H v d → d.tp = true → At H' v d
  | _, _, .non, _ => .non
  | _, _, .bl b, _ => .bl b
  | _, _, .int i, _ => .int i
  | _, _, .str x, _ => .str x
  | _, _, .lst h hs, q => by cases q
  | _, _, .tup h hs, q => by
    simp only [Dt.tp] at q
    exact .tup (t _ _ h) (Ats.tupK t hs q)
  | _, _, .dic h hs, q => by cases q
theorem Ats.tupK {H H' : Hp} (t : TupK H H') : ∀ {v : List V} {d : List Dt}, Ats H v d → Dt.tpL d = true → Ats H' v d
  | _, _, .nil, _ => .nil
  | _, _, .cons h hs, q => by
    simp only [Dt.tpL, Bool.and_eq_true] at q
    exact .cons (At.tupK t h q.1) (Ats.tupK t hs q.2)
end
theorem tpI : ∀ l : List Int, Dt.tpL (l.map Dt.int) = true
  | [] => rfl
  | a :: r => by
    show (true && Dt.tpL (r.map Dt.int)) = true
    rw [tpI r]
    rfl
/-- a ground goes on -/
structure GMv (c : Cl) (H : Hp) (A : GA) (A' : GA) (S' : GS) (H' : Hp) : Prop where
  G : Gd c H' A' S'
  out : Out (fpA A) H H'
  g : A'.g = A.g
  gr : Grow (fpA A) (fpA A') H
/-! ## Asks -/
/-! ### deeds asked of a ground: what is told -/
/-- a value told, nothing changed -/
def Tells (Q : VK) (H : Hp) (D : Dt) : Prop := ∀ v H', Same H H' → At H' v D → Q v H'
def badD (t : Str) : Dt := refD2 "BadValue" (.tup [.str t])
def nhD (p f : Int) : Dt := refD2 "NotHeld" (.tup [.int p, .int f])
def Deed.k : Deed → Nat
  | .wr _ _ _ => 0
  | .pk _ _ => 1
  | .ps _ _ _ _ => 2
/-- what is due of a deed, told -/
def DueAt (H : Hp) (dv : V) : Option (Str × List Int) → Prop
  | none => dv = .non
  | some x => ∃ b cc, dv = .ref b ∧ H b = some (.tup [.str x.1, .ref cc]) ∧ H cc = some (.tup (x.2.map V.int))
theorem DueAt.mono {H H' : Hp} {dv : V} {o : Option (Str × List Int)} (h : DueAt H dv o) (k : Same H H') : DueAt H' dv o := by
  cases o with
  | none => exact h
  | some x =>
    obtain ⟨b, cc, e, h1, h2⟩ := h
    exact ⟨b, cc, e, k _ _ h1, k _ _ h2⟩
theorem c_deed_due {K : PySem.W.Frag} {w h a : Addr} {S : GS} {D : Deed} {H : Hp} {Q : VK} {E : XK} (hw : H w = some (.lst (S.ws.map V.int))) (hh : H h = some (.lst (S.hs.map V.int))) (ha : H a = some (.tup D.vs)) (ok : D.Ok S.ws.length) (le : S.ws.length = S.hs.length) (z : S.ws.length ≤ 20000)
    (k : ∀ dv H', Same H H' → DueAt H' dv (D.due S) → Q dv H') : sp_deed_due K [.ref w, .ref h, .int S.fl, .ref a] H Q E :=
  ⟨w, h, a, S, D, rfl, hw, hh, ha, ok, le, z, fun e => k _ _ (Same.refl _) (by rw [e]; rfl), fun t l e b cc H' hb hc s => k _ _ s (by rw [e]; exact ⟨b, cc, rfl, hb, hc⟩)⟩
theorem pk_in {S : GS} {p w : Int} (h : (Deed.pk p w).Ok S.ws.length) : badPk S.ws.length (.int p) (.int w) = none := by
  obtain ⟨p0, p1, w0⟩ := h
  have e1 : vR 0 ((S.ws.length : Int) - 1) (.int p) = true := by simp [vR]; omega
  have e2 : vR 0 65535 (.int w) = true := by simp [vR]; exact w0
  simp [badPk, e1, e2]
theorem wr_in {S : GS} {p w h : Int} (ok : (Deed.wr p w h).Ok S.ws.length) : badWr S.ws.length (.int p) (.int w) (.int h) = none := by
  obtain ⟨p0, p1, w0, h0, h1⟩ := ok
  have e1 : vR 0 ((S.ws.length : Int) - 1) (.int p) = true := by simp [vR]; omega
  have e2 : vR 0 65535 (.int w) = true := by simp [vR]; exact w0
  have e3 : vU (.int h) = true := by simp [vU, h0, h1]
  simp [badWr, e1, e2, e3]
theorem ps_in {S : GS} {s g t : Int} {n : Nat} (ok : (Deed.ps s n g t).Ok S.ws.length) : badPs S.ws.length (.int s) (.int n) (.int g) (.int t) = none := by
  obtain ⟨p0, p1, p2, g0, t0⟩ := ok
  have e1 : vR 0 ((S.ws.length : Int) - 1) (.int s) = true := by simp [vR]; omega
  have e2 : vR 1 ((S.ws.length : Int) - s) (.int n) = true := by simp [vR]; omega
  simp [badPs, e1, vZ, e2, g0, t0]
/-- a pass that is due, as the ground asks for it -/
theorem ps_due {S : GS} {s g t : Int} {n : Nat} (due : (Deed.ps s n g t).due S = none) : (g = 0 → firstP (brk S) s n = none) ∧ firstP (nog S g) s n = none := by
  simp only [Deed.due] at due
  by_cases gz : g = 0
  · rw [if_pos gz] at due
    cases e : firstP (brk S) s n with
    | none =>
      rw [e] at due
      exact ⟨fun _ => rfl, Option.map_eq_none_iff.mp due⟩
    | some p => rw [e] at due; cases due
  · rw [if_neg gz] at due
    exact ⟨fun z => absurd z gz, Option.map_eq_none_iff.mp due⟩
/-! ## K08a -/
/-! ### k08: reading the ground -/
def sp_is_user (K : PySem.W.Frag) : Sp := fun vs H Q _ => ∃ (v : V) (n : String), vs = [v] ∧ Ty0 H v n ∧ Q (.bl (vR 1 8 v)) H
theorem c_is_user {K : PySem.W.Frag} {v : V} {n : String} {H : Hp} {Q : VK} {E : XK} (h : Ty0 H v n) (q : Q (.bl (vR 1 8 v)) H) : sp_is_user K [v] H Q E := ⟨v, n, rfl, h, q⟩
def N_p_is_user : List Str := ["value"]
def t_p_is_user (K : PySem.W.Frag) : TS := (tRet (tCall (sp_whole_between K) [] E0 (tCons (tVar 0) (tCons (tC (.int 1)) (tCons (tC (.int 8)) tNil)))))
theorem pure_is_user {K : PySem.W.Frag} {vs : List V} {H : Hp} {Q : VK} {E : XK} (h : sp_is_user K vs H Q E) : t_p_is_user K { nx := fun _ H' => Q .non H', rt := Q } (start N_p_is_user vs) H := by
  obtain ⟨v, n, rfl, ht, k⟩ := h
  unfold t_p_is_user
  fold_lay
  exact c_whole_between ht k
def sp_drawer_of (K : PySem.W.Frag) (c : Cl) : Sp := fun vs H Q E => ∃ (v : V) (n : String), vs = [v] ∧ Ty0 H v n ∧ BvC K c.k_BadValue ∧ (vR 1 8 v = false → ∀ d H', BadAt H' d (.str "user") → Same H H' → E (.ref c.k_BadValue) (some d) H') ∧ (∀ i : Int, v = .int i → vR 1 8 v = true → Q (.int (10 + i)) H)
def N_p_drawer_of : List Str := ["user"]
def t_p_drawer_of (K : PySem.W.Frag) (c : Cl) (E : XK) : TS := (tSeq (tIfS (tNot (tB (tCall (sp_is_user K) [] E0 (tCons (tVar 0) tNil)))) (tRz (tMkO c.k_BadValue (sp_init_BadValue K c.k_BadValue) [] (tCons (tC (.str "user")) tNil)) (fun cls d _ H => E cls d H)) tNext)
  (tRet (tOp oAdd (tC (.int 10)) (tVar 0))))
theorem pure_drawer_of {K : PySem.W.Frag} {c : Cl} {vs : List V} {H : Hp} {Q : VK} {E : XK} (h : sp_drawer_of K c vs H Q E) : t_p_drawer_of K c E { nx := fun _ H' => Q .non H', rt := Q } (start N_p_drawer_of vs) H := by
  obtain ⟨v, n, rfl, ht, hC, k1, k2⟩ := h
  unfold t_p_drawer_of
  fold_depth
  refine c_is_user ht ?_
  fold_lay
  refine i_ifb (fun g => ?_) (fun g => ?_)
  · have g : vR 1 8 v = false := by simpa using g
    fold_lay
    exact c_bad hC (k1 g)
  · have g : vR 1 8 v = true := by simpa using g
    obtain ⟨i, rfl, _, _⟩ := vR_i g
    fold_lay
    exact k2 i rfl g
theorem lkm_read {A : GA} {S : GS} : (flds A S).lookup ("read" : Str) = none := by unfold flds; rw [lookup_put, if_neg (by decide), lookup_put, if_neg (by decide), lookup_put, if_neg (by decide), lookup_put, if_neg (by decide), lookup_put, if_neg (by decide), lookup_put, if_neg (by decide), lookup_put, if_neg (by decide), lookup_put, if_neg (by decide)]; rfl
theorem lkm_word_at {A : GA} {S : GS} : (flds A S).lookup ("word_at" : Str) = none := by unfold flds; rw [lookup_put, if_neg (by decide), lookup_put, if_neg (by decide), lookup_put, if_neg (by decide), lookup_put, if_neg (by decide), lookup_put, if_neg (by decide), lookup_put, if_neg (by decide), lookup_put, if_neg (by decide), lookup_put, if_neg (by decide)]; rfl
theorem lkm_holder_at {A : GA} {S : GS} : (flds A S).lookup ("holder_at" : Str) = none := by unfold flds; rw [lookup_put, if_neg (by decide), lookup_put, if_neg (by decide), lookup_put, if_neg (by decide), lookup_put, if_neg (by decide), lookup_put, if_neg (by decide), lookup_put, if_neg (by decide), lookup_put, if_neg (by decide), lookup_put, if_neg (by decide)]; rfl

def badRd (n : Nat) (v1 v2 : V) : Option Str := if vR 0 ((n : Int) - 1) v1 = false then some "place" else if vU v2 = false then some "holder" else none
def sp_read (K : PySem.W.Frag) (c : Cl) : Sp := fun vs H Q E => ∃ (A : GA) (S : GS) (v1 v2 : V) (n1 n2 : String), vs = [.ref A.g, v1, v2] ∧ Gd c H A S ∧ GdE K c ∧ Ty0 H v1 n1 ∧ Ty0 H v2 n2 ∧
  (∀ t, badRd S.ws.length v1 v2 = some t → ∀ d H', BadAt H' d (.str t) → Same H H' → E (.ref c.k_BadValue) (some d) H') ∧
  (badRd S.ws.length v1 v2 = none → ∀ p h, v1 = .int p → v2 = .int h → (S.hs.getD p.toNat 0 ≠ h → ∀ d H', nhA H' d p (S.hs.getD p.toNat 0) → Same H H' → E (.ref c.k_NotHeld) (some d) H') ∧ (S.hs.getD p.toNat 0 = h → Q (.int (S.ws.getD p.toNat 0)) H))
def N_c_Ground_read : List Str := ["self", "place", "holder"]
def t_c_Ground_read (K : PySem.W.Frag) (c : Cl) (E : XK) : TS := (tSeq (tDrop (tMeth c.k_Ground "check_place" (sp_check_place K c) [] E (tVar 0) (tCons (tVar 1) tNil)))
  (tSeq (tIfS (tOr (tNot (tB (tCall (sp_is_holder K) [] E0 (tCons (tVar 2) tNil)))) (tTest (tOp rEq (tVar 2) (tC (.int 0))))) (tRz (tMkO c.k_BadValue (sp_init_BadValue K c.k_BadValue) [] (tCons (tC (.str "holder")) tNil)) (fun cls d _ H => E cls d H)) tNext)
  (tSeq (tDrop (tMeth c.k_Ground "check_guard" (sp_check_guard K c) [] E (tVar 0) (tCons (tVar 1) (tCons (tVar 2) tNil))))
  (tRet (tOp (rIxL K) (tFld K (tVar 0) "cell_words") (tVar 1))))))
theorem pure_read {K : PySem.W.Frag} {c : Cl} {vs : List V} {H : Hp} {Q : VK} {E : XK} (h : sp_read K c vs H Q E) : t_c_Ground_read K c E { nx := fun _ H' => Q .non H', rt := Q } (start N_c_Ground_read vs) H := by
  obtain ⟨A, S, v1, v2, n1, n2, rfl, G, R, t1, t2, kE, kQ⟩ := h
  unfold t_c_Ground_read
  fold_lay
  refine i_meth G lkm_check_place ?_
  fold_lay
  refine c_check_place G R.gk t1 R.bv (fun g1 => ?_) (fun g1 => kE _ (by simp [badRd, g1]))
  fold_lay
  refine i_cut (fun σ' H' => H' = H ∧ vU v2 = true ∧ σ' = [some (.ref A.g), some v1, some v2]) ?_ (fun nx key => ?_)
  rotate_left
  · fold_lay
    refine c_is_holder t2 ?_
    fold_lay
    refine i_ifb (fun g => ?_) (fun g => ?_)
    · have g : vH v2 = false := by simpa using g
      fold_lay
      exact c_bad R.bv (kE _ (by simp [badRd, g1, vU, g]))
    · have g : vH v2 = true := by simpa using g
      obtain ⟨i, rfl, i0, i1⟩ := vH_i g
      fold_lay
      refine i_ifd (fun z => ?_) (fun z => ?_)
      · subst z
        fold_lay
        exact c_bad R.bv (kE _ (by simp [badRd, g1, vU]))
      · fold_lay
        exact key _ _ ⟨rfl, by simp [vU, g, z], rfl⟩
  rintro σ' H' ⟨rfl, g3, rfl⟩
  obtain ⟨p, rfl, p0, p1⟩ := vR_i g1
  obtain ⟨hh, rfl, _, _⟩ := vH_i (by unfold vU at g3; exact (Bool.and_eq_true_iff.mp g3).1)
  obtain ⟨kN, kD⟩ := kQ (by simp [badRd, g1, g3]) p hh rfl rfl
  fold_lay
  refine i_meth G lkm_check_guard ?_
  fold_lay
  refine c_check_guard G R.gk R.en p0 (by omega) (fun q => ?_) kN
  fold_lay
  refine i_gfld R.gk G.ob (by simp) lkf_cell_words ?_
  fold_lay
  exact i_ixL (sqL G.wl) (at_ints p0 (by omega)) (kD q)
def sp_word_at (K : PySem.W.Frag) (c : Cl) : Sp := fun vs H Q E => ∃ (A : GA) (S : GS) (v1 : V) (n1 : String), vs = [.ref A.g, v1] ∧ Gd c H A S ∧ GdE K c ∧ Ty0 H v1 n1 ∧
  (vR 0 ((S.ws.length : Int) - 1) v1 = false → ∀ d H', BadAt H' d (.str "place") → Same H H' → E (.ref c.k_BadValue) (some d) H') ∧ (∀ p : Int, v1 = .int p → 0 ≤ p → p < S.ws.length → Q (.int (S.ws.getD p.toNat 0)) H)
def N_c_Ground_word_at : List Str := ["self", "place"]
def t_c_Ground_word_at (K : PySem.W.Frag) (c : Cl) (E : XK) : TS := (tSeq (tDrop (tMeth c.k_Ground "check_place" (sp_check_place K c) [] E (tVar 0) (tCons (tVar 1) tNil)))
  (tRet (tOp (rIxL K) (tFld K (tVar 0) "cell_words") (tVar 1))))
theorem pure_word_at {K : PySem.W.Frag} {c : Cl} {vs : List V} {H : Hp} {Q : VK} {E : XK} (h : sp_word_at K c vs H Q E) : t_c_Ground_word_at K c E { nx := fun _ H' => Q .non H', rt := Q } (start N_c_Ground_word_at vs) H := by
  obtain ⟨A, S, v1, n1, rfl, G, R, t1, kE, kQ⟩ := h
  unfold t_c_Ground_word_at
  fold_lay
  refine i_meth G lkm_check_place ?_
  fold_lay
  refine c_check_place G R.gk t1 R.bv (fun g1 => ?_) kE
  obtain ⟨p, rfl, p0, p1⟩ := vR_i g1
  fold_lay
  refine i_gfld R.gk G.ob (by simp) lkf_cell_words ?_
  fold_lay
  exact i_ixL (sqL G.wl) (at_ints p0 (by omega)) (kQ p rfl p0 (by omega))
def sp_holder_at (K : PySem.W.Frag) (c : Cl) : Sp := fun vs H Q E => ∃ (A : GA) (S : GS) (v1 : V) (n1 : String), vs = [.ref A.g, v1] ∧ Gd c H A S ∧ GdE K c ∧ Ty0 H v1 n1 ∧
  (vR 0 ((S.ws.length : Int) - 1) v1 = false → ∀ d H', BadAt H' d (.str "place") → Same H H' → E (.ref c.k_BadValue) (some d) H') ∧ (∀ p : Int, v1 = .int p → 0 ≤ p → p < S.ws.length → Q (.int (S.hs.getD p.toNat 0)) H)
def N_c_Ground_holder_at : List Str := ["self", "place"]
def t_c_Ground_holder_at (K : PySem.W.Frag) (c : Cl) (E : XK) : TS := (tSeq (tDrop (tMeth c.k_Ground "check_place" (sp_check_place K c) [] E (tVar 0) (tCons (tVar 1) tNil)))
  (tRet (tOp (rIxL K) (tFld K (tVar 0) "cell_holders") (tVar 1))))
theorem pure_holder_at {K : PySem.W.Frag} {c : Cl} {vs : List V} {H : Hp} {Q : VK} {E : XK} (h : sp_holder_at K c vs H Q E) : t_c_Ground_holder_at K c E { nx := fun _ H' => Q .non H', rt := Q } (start N_c_Ground_holder_at vs) H := by
  obtain ⟨A, S, v1, n1, rfl, G, R, t1, kE, kQ⟩ := h
  have le := G.le
  unfold t_c_Ground_holder_at
  fold_lay
  refine i_meth G lkm_check_place ?_
  fold_lay
  refine c_check_place G R.gk t1 R.bv (fun g1 => ?_) kE
  obtain ⟨p, rfl, p0, p1⟩ := vR_i g1
  fold_lay
  refine i_gfld R.gk G.ob (by simp) lkf_cell_holders ?_
  fold_lay
  exact i_ixL (sqL G.hl) (at_ints p0 (by omega)) (kQ p rfl p0 (by omega))
def sp_top (K : PySem.W.Frag) (c : Cl) : Sp := fun vs H Q _ => ∃ (A : GA) (S : GS), vs = [.ref A.g] ∧ Gd c H A S ∧ GdK K c ∧ CMul S.pg S.wd ∧ Q (.int (S.pg * S.wd)) H
def N_c_Ground_top : List Str := ["self"]
def t_c_Ground_top (K : PySem.W.Frag) : TS := (tRet (tOp oMul (tFld K (tVar 0) "pages") (tFld K (tVar 0) "width")))
theorem pure_top {K : PySem.W.Frag} {c : Cl} {vs : List V} {H : Hp} {Q : VK} {E : XK} (h : sp_top K c vs H Q E) : t_c_Ground_top K { nx := fun _ H' => Q .non H', rt := Q } (start N_c_Ground_top vs) H := by
  obtain ⟨A, S, rfl, G, R, cm, k⟩ := h
  unfold t_c_Ground_top
  fold_lay
  refine i_gfld R G.ob (by simp) lkf_pages ?_
  fold_lay
  refine i_gfld R G.ob (by simp) lkf_width ?_
  exact i_mul cm k
/-! what is drawn -/
def isHdD : Dt → Bool
  | .int i => vH (.int i)
  | _ => false
def sp_not_holder (K : PySem.W.Frag) : Sp := fun vs H Q _ => ∃ (d s : Addr), vs = [.ref d] ∧ Dr d s H ∧ ∀ v dt H', At (nw H H') v dt → isHdD dt = false → (dt.dep ≤ 1 ∧ dt.okd = true) → Dr d s H' → Same (hid s H) (hid s H') → Q v H'
theorem c_not_holder {K : PySem.W.Frag} {d s : Addr} {H : Hp} {Q : VK} {E : XK} (hD : Dr d s H) (h : ∀ v dt H', At (nw H H') v dt → isHdD dt = false → (dt.dep ≤ 1 ∧ dt.okd = true) → Dr d s H' → Same (hid s H) (hid s H') → Q v H') : sp_not_holder K [.ref d] H Q E := ⟨d, s, rfl, hD, h⟩
def N_l_not_holder : List Str := ["_law_draws_here", "_law_kind"]
def t_l_not_holder (K : PySem.W.Frag) : TS := (tSeq (tAsg (tCall sp_take [] E0 (tCons (tVar 0) (tCons (tC (.int 9)) tNil))) (gName 1))
  (tSeq (tIfS (tTest (tOp oLt (tVar 1) (tC (.int 8)))) (tRet (tOp (rIxL K) (tLst (tCons (tUn oNeg (tC (.int 1))) (tCons (tC (.int 9)) (tCons (tC (.int 10)) (tCons (tC (.int 19)) (tCons (tC (.int 20)) (tCons (tC (.int 29)) (tCons (tOp oPow (tC (.int 10)) (tC (.int 30))) (tCons (tOp oSub (tUn oNeg (tC (.int 1))) (tCall sp_take [] E0 (tCons (tVar 0) (tCons (tC (.int 30)) tNil)))) tNil))))))))) (tVar 1))) tNext)
  (tRet (tCall sp_not_integer [] E0 (tCons (tVar 0) tNil)))))
theorem isHd_of {d : Dt} (h : d.isI = false) : isHdD d = false := by cases d <;> first | rfl | cases h
theorem pure_not_holder {K : PySem.W.Frag} {vs : List V} {H : Hp} {Q : VK} {E : XK} (h : sp_not_holder K vs H Q E) : t_l_not_holder K { nx := fun _ H' => Q .non H', rt := Q } (start N_l_not_holder vs) H := by
  obtain ⟨d, s, rfl, hD, k⟩ := h
  unfold t_l_not_holder
  fold_lay
  refine c_take hD (by omega) fun v H1 v0 v1 hD1 s1 => ?_
  kbj_rows
  refine i_ifd (fun z => ?_) (fun z => ?_)
  · fold_lay
    refine c_take hD1 (by omega) fun w H2 w0 w1 hD2 s2 => ?_
    fold_lay
    rename_i p hp
    refine i_amongL (sqL upd_same) v0 (by show v < 8; omega) fun y hy => ?_
    have hy := List.mem_of_getElem? hy
    have hy : ∃ i : Int, y = .int i ∧ vH (.int i) = false := by
      simp only [List.mem_cons, List.not_mem_nil, or_false] at hy
      rcases hy with rfl | rfl | rfl | rfl | rfl | rfl | rfl | rfl
      · exact ⟨_, rfl, by decide⟩
      · exact ⟨_, rfl, by decide⟩
      · exact ⟨_, rfl, by decide⟩
      · exact ⟨_, rfl, by decide⟩
      · exact ⟨_, rfl, by decide⟩
      · exact ⟨_, rfl, by decide⟩
      · exact ⟨_, rfl, by decide⟩
      · refine ⟨_, rfl, ?_⟩
        simp only [vH, vR, Bool.or_eq_false_iff, Bool.and_eq_false_iff, decide_eq_false_iff_not]
        omega
    obtain ⟨i, rfl, hi⟩ := hy
    exact k _ (.int i) _ (.int i) hi ⟨Nat.zero_le _, rfl⟩ (hD2.same (same_new hp)) ((s1.trans s2).trans (hid_mono (same_new hp)))
  · fold_lay
    refine c_not_integer hD1 fun y dt H2 hy hi ok hD2 s2 => ?_
    exact k y dt H2 (hy.mono (nw_wide hD1 s1 (Same.refl _))) (isHd_of hi) ok hD2 (s1.trans s2)
def sp_ground_args (K : PySem.W.Frag) : Sp := fun vs H Q _ => ∃ (d s : Addr), vs = [.ref d] ∧ Dr d s H ∧ ∀ (p w b : Int) (a : Addr) H', 1 ≤ p → p ≤ 256 → (w = 16 ∨ w = 32 ∨ w = 64) → isWd b → H' a = some (.tup [.int p, .int w, .int b]) → H a = none → Dr d s H' → Same (hid s H) (hid s H') → Q (.ref a) H'
def N_l_ground_args : List Str := ["_law_draws_here", "_law_page_width", "_law_page_count"]
def t_l_ground_args (K : PySem.W.Frag) : TS := (tSeq (tAsg (tCall (sp_among K) [] E0 (tCons (tVar 0) (tCons (tLst (tCons (tC (.int 16)) (tCons (tC (.int 16)) (tCons (tC (.int 16)) (tCons (tC (.int 32)) (tCons (tC (.int 64)) tNil)))))) tNil))) (gName 1))
  (tSeq (tAsg (tCall sp_between [] E0 (tCons (tVar 0) (tCons (tC (.int 1)) (tCons (tC (.int 4)) tNil)))) (gName 2))
  (tSeq (tIfS (tTest (tOp rEq (tCall sp_take [] E0 (tCons (tVar 0) (tCons (tC (.int 40)) tNil))) (tC (.int 39)))) (tAsg (tCall sp_number [] E0 (tCons (tVar 0) (tCons (tC (.int 1)) (tCons (tC (.int 256)) tNil)))) (gName 2)) tNext)
  (tRet (tTup (tCons (tVar 2) (tCons (tVar 1) (tCons (tCall (sp_blank K) [] E0 (tCons (tVar 0) tNil)) tNil))))))))
theorem pure_ground_args {K : PySem.W.Frag} {vs : List V} {H : Hp} {Q : VK} {E : XK} (h : sp_ground_args K vs H Q E) : t_l_ground_args K { nx := fun _ H' => Q .non H', rt := Q } (start N_l_ground_args vs) H := by
  obtain ⟨d, s, rfl, hD, k⟩ := h
  unfold t_l_ground_args
  fold_lay
  rename_i q hq
  refine c_among (by leaf_len) upd_same (by nest_fact) (by simp) (by simp) fun v H2 hv hD2 s2 => ?_
  have hv : ∃ w : Int, v = .int w ∧ (w = 16 ∨ w = 32 ∨ w = 64) := by
    simp only [List.mem_cons, List.not_mem_nil, or_false] at hv
    rcases hv with rfl | rfl | rfl | rfl | rfl <;> exact ⟨_, rfl, by simp⟩
  obtain ⟨w, rfl, hw⟩ := hv
  have t2 : Same (hid s H) (hid s H2) := (hid_mono (same_new hq)).trans s2
  fold_lay
  refine c_between hD2 (by omega) fun p H3 p0 p1 hD3 s3 => ?_
  have t3 := t2.trans s3
  fold_lay
  refine i_cut (fun σ' H' => Dr d s H' ∧ Same (hid s H) (hid s H') ∧ ∃ p : Int, 1 ≤ p ∧ p ≤ 256 ∧ σ' = [some (.ref d), some (.int w), some (.int p)]) ?_ (fun nx key => ?_)
  rotate_left
  · fold_lay
    refine c_take hD3 (by omega) fun v H4 v0 v1 hD4 s4 => ?_
    fold_lay
    refine i_ifd (fun z => ?_) (fun z => ?_)
    · fold_lay
      refine c_number hD4 (by omega) (by omega) fun r H5 r0 r1 hD5 s5 => ?_
      fold_lay
      exact key _ _ ⟨hD5, (t3.trans s4).trans s5, r, r0, r1, rfl⟩
    · fold_lay
      exact key _ _ ⟨hD4, t3.trans s4, p, p0, by omega, rfl⟩
  rintro σ' H4 ⟨hD4, t4, p, p0, p1, rfl⟩
  fold_lay
  refine c_blank hD4 fun b H5 hb hD5 s5 => ?_
  fold_lay
  rename_i r hr
  exact k p w b r _ p0 p1 hw hb upd_same (dead2 hr hD5 (t4.trans s5)) (hD5.same (same_new hr)) ((t4.trans s5).trans (hid_mono (same_new hr)))
/-! ## K13b -/
/-! ### k13: a step played -/
/-- all caught as StoreError -/
structure XmK13 (K : PySem.W.Frag) (c : Cl) : Prop where
  us : PySem.W.exmOne K (.ref c.k_Unknown) (.ref c.k_StoreError) = some true
  ns : PySem.W.exmOne K (.ref c.k_NotHeld) (.ref c.k_StoreError) = some true
  rs : PySem.W.exmOne K (.ref c.k_Broken) (.ref c.k_StoreError) = some true
  cs : PySem.W.exmOne K (.ref c.k_Cut) (.ref c.k_StoreError) = some true
structure K13K (K : PySem.W.Frag) (c : Cl) : Prop where
  ge : GdE K c
  ak : AllK K c
  xm : XmK13 K c
  wt : KTup K c.x_WIDTHS [16, 32, 64]
/-- what a step tells, and what it leaves of a ground -/
inductive Ev (S : GS) : Stq → Dt → GS → Prop where
  | bg : Ev S .bg (doneT (.int (S.ds.length + 1 : Nat))) { S with ds := S.ds ++ [[]] }
  | un {q : Stq} (h : q = .cm ∨ q = .cn) (e : S.ds = []) : Ev S q (refT "Unknown" [.str "deed"]) S
  | cm1 {es : List En} (e : S.ds = [es]) (h : ∀ a, S.al = some a → ((costOf S.ws S.hs es : Nat) : Int) ≤ a) : Ev S .cm (doneT (.int (costOf S.ws S.hs es : Nat))) { S with al := S.al.map (fun x : Int => x - (costOf S.ws S.hs es : Nat)), ch := S.ch + (costOf S.ws S.hs es : Nat), ds := [] }
  | cut {es : List En} {a : Int} (e : S.ds = [es]) (ea : S.al = some a) (h : a < ((costOf S.ws S.hs es : Nat) : Int)) : Ev S .cm (refT "Cut" [.int (costOf S.ws S.hs es : Nat), .int a]) { S with ws := restW es S.ws, hs := restH es S.hs, ds := [] }
  | cm2 {ds0 : List (List En)} {es1 es : List En} (e : S.ds = ds0 ++ [es1] ++ [es]) : Ev S .cm (doneT (.int (costOf S.ws S.hs es : Nat))) { S with ds := ds0 ++ [merge es1 es] }
  | cn {ds0 : List (List En)} {es : List En} (e : S.ds = ds0 ++ [es]) : Ev S .cn (doneT .non) { S with ws := restW es S.ws, hs := restH es S.hs, ds := ds0 }
  | made {D : Deed} {S2 : GS} (due : D.due S = none) (r : DeedRel S (D.chg S) S2) (h : S.ds = [] → ∀ a, S.al = some a → ((costL S (D.chg S) : Nat) : Int) ≤ a) : Ev S (.dd D) (doneT .non) S2
  | dcut {D : Deed} {a : Int} (due : D.due S = none) (e : S.ds = []) (ea : S.al = some a) (h : a < ((costL S (D.chg S) : Nat) : Int)) : Ev S (.dd D) (refT "Cut" [.int (costL S (D.chg S) : Nat), .int a]) S
  | err {D : Deed} {x : Str × List Int} (due : D.due S = some x) : Ev S (.dd D) (refT x.1 (x.2.map Dt.int)) S
def sp_played13 (K : PySem.W.Frag) (c : Cl) : Sp := fun vs H Q _ => ∃ (A : GA) (S : GS) (a : Addr) (q : Stq), vs = [.ref A.g, .ref a] ∧ H a = some (.tup q.vs) ∧ q.Ok S.ws.length ∧ Gd c H A S ∧ K13K K c ∧ S.ds.length < 1000 ∧ ∀ v dt A' S' H', Ev S q dt S' → GMv c H A A' S' H' → At H' v dt → Q v H'
def N_l_played : List Str := ["_law_ground", "_law_step_here", "e"]
def t_l_played (K : PySem.W.Frag) (c : Cl) : TS := (tTryD K (.ref c.k_StoreError) 2 (fun W => (tSeq (tIfS (tTest (tOp rEq (tOp (rIxT K) (tVar 1) (tC (.int 0))) (tC (.str "begin")))) (tRet (tTup (tCons (tC (.str "done")) (tCons (tMeth c.k_Ground "begin" (sp_begin K c) [] E0 (tVar 0) tNil) tNil)))) tNext)
  (tSeq (tIfS (tTest (tOp rEq (tOp (rIxT K) (tVar 1) (tC (.int 0))) (tC (.str "commit")))) (tRet (tTup (tCons (tC (.str "done")) (tCons (tMthS c.k_Ground "commit" (sp_commit K c) (WE W) (tVar 0) tNil) tNil)))) tNext)
  (tSeq (tIfS (tTest (tOp rEq (tOp (rIxT K) (tVar 1) (tC (.int 0))) (tC (.str "cancel")))) (tRet (tTup (tCons (tC (.str "done")) (tCons (tMthS c.k_Ground "cancel" (sp_cancel K c) (WE W) (tVar 0) tNil) tNil)))) tNext)
  (tSeq (tIfS (tTest (tOp rEq (tOp (rIxT K) (tVar 1) (tC (.int 0))) (tC (.str "write")))) (tRet (tTup (tCons (tC (.str "done")) (tCons (tMthS c.k_Ground "write" (sp_write K c) (WE W) (tVar 0) (tCons (tOp (rIxT K) (tVar 1) (tC (.int 1))) (tCons (tOp (rIxT K) (tVar 1) (tC (.int 2))) (tCons (tOp (rIxT K) (tVar 1) (tC (.int 3))) tNil)))) tNil)))) tNext)
  (tSeq (tIfS (tTest (tOp rEq (tOp (rIxT K) (tVar 1) (tC (.int 0))) (tC (.str "poke")))) (tRet (tTup (tCons (tC (.str "done")) (tCons (tMthS c.k_Ground "poke" (sp_poke K c) (WE W) (tVar 0) (tCons (tOp (rIxT K) (tVar 1) (tC (.int 1))) (tCons (tOp (rIxT K) (tVar 1) (tC (.int 2))) tNil))) tNil)))) tNext)
  (tRet (tTup (tCons (tC (.str "done")) (tCons (tMthS c.k_Ground "pass_on" (sp_pass_on K c) (WE W) (tVar 0) (tCons (tOp (rIxT K) (tVar 1) (tC (.int 1))) (tCons (tOp (rIxT K) (tVar 1) (tC (.int 2))) (tCons (tOp (rIxT K) (tVar 1) (tC (.int 3))) (tCons (tOp (rIxT K) (tVar 1) (tC (.int 4))) tNil))))) tNil)))))))))) (fun xa => (tRet (tCall ((sp_told K c) xa) [] E0 (tCons (tVar 2) tNil)))) (fun _ _ _ _ => False))
instance s_tryD {K : PySem.W.Frag} {c : Value} {i : Nat} {tb : WX → TS} {ts : Addr → TS} {Wout : WX} {D : Ends} {σ : St} {H : Hp} : Stp (tTryD K c i tb ts Wout D σ H) (tb (wAsD K c i ts Wout D) D σ H) := ⟨fun h => h⟩
theorem GMv.same {c : Cl} {H H' : Hp} {A : GA} {S : GS} (G : Gd c H A S) (s : Same H H') : GMv c H A A S H' := ⟨G.mono s, Same.out s, rfl, Grow.refl⟩
theorem at_doneT {H : Hp} {v : V} {d : Dt} {p : Addr} (h : At H v d) (hp : H p = none) : At (upd H p (.tup [.str "done", v])) (.ref p) (doneT d) := .tup upd_same (.cons (.str _) (.cons (h.mono (same_new hp)) .nil))
theorem pure_played13 {K : PySem.W.Frag} {c : Cl} {vs : List V} {H : Hp} {Q : VK} {E : XK} (h : sp_played13 K c vs H Q E) : t_l_played K c { nx := fun _ H' => Q .non H', rt := Q } (start N_l_played vs) H := by
  obtain ⟨A, S, a, q, rfl, ha, ok, G, k13, dl, k⟩ := h
  have R := k13.ge
  have AK := k13.ak
  let W0 : WX := wAsD K (.ref c.k_StoreError) 2 (fun xa => tRet (tCall (sp_told K c xa) [] E0 (tCons (tVar 2) tNil))) (fun _ _ _ _ => False) { nx := fun _ H' => Q .non H', rt := Q }
  have tell : ∀ {D d : Addr} {nm : Str} {ds : List Dt} {H' : Hp}, PySem.W.exmOne K (.ref D) (.ref c.k_StoreError) = some true → (∀ x, H' x = none → Er4 c (upd H' x (exi x (.ref D) (some d))) d D nm ds) → (∀ v H2, Same H' H2 → At H2 v (refT nm ds) → Q v H2) → W0 (.ref D) (some d) [some (.ref A.g), some (.ref a), none] H' := fun xm er kk =>
    ⟨true, xm, fun z => (by cases z), fun _ x hx => by
      fold_lay
      exact ⟨_, _, _, _, rfl, upd_same, AK, er x hx, fun v H2 s hv => kk v H2 ((same_new hx).trans s) hv⟩⟩
  have erm : ∀ {H1 H2 : Hp} {d : Addr} {nm : Str} {fs : List (Str × V)} {ws : List V}, ErAt H1 d nm fs ws → Same H1 H2 → ErAt H2 d nm fs ws := fun ⟨u1, u2, g1, g2, g3⟩ s => ⟨u1, u2, s _ _ g1, s _ _ g2, s _ _ g3⟩
  have same : ∀ {dt : Dt} {H' : Hp}, Ev S q dt S → Same H H' → ∀ v H2, Same H' H2 → At H2 v dt → Q v H2 := fun ev s v H2 s2 hv => k v _ A S H2 ev (.same G (s.trans s2)) hv
  unfold t_l_played
  cases q with
  | bg =>
    have ha : H a = some (.tup [.str "begin"]) := ha
    fold_lay
    fold_depth
    refine i_yes rfl ?_
    fold_lay
    refine i_meth G lkm_begin ?_
    fold_lay
    refine ⟨A, S, rfl, G, R.gk, dl, fun d H' G' hd O => ?_⟩
    fold_lay
    rename_i p hp
    exact k _ _ (inA A d) _ _ .bg ⟨G'.mono (same_new hp), (O.trans (Same.out (same_new hp))).wide (by simp), rfl, fun b m => by
      simp only [fpA, List.mem_cons, List.mem_append, List.not_mem_nil, or_false] at m ⊢
      rcases m with m | m | m | m | m | m
      · exact .inl (.inl m)
      · exact .inl (.inr (.inl m))
      · exact .inl (.inr (.inr (.inl m)))
      · exact .inl (.inr (.inr (.inr (.inl m))))
      · exact .inl (.inr (.inr (.inr (.inr m))))
      · exact .inr (by rw [m]; exact hd)⟩ (at_doneT (.int _) hp)
  | cm =>
    have ha : H a = some (.tup [.str "commit"]) := ha
    fold_lay
    fold_depth
    refine i_no (by decide) ?_
    fold_lay
    fold_depth
    refine i_yes rfl ?_
    fold_lay
    refine i_meth G lkm_commit ?_
    fold_lay
    have gr1 : ∀ es, S.ds = [es] → Grow (fpA A) (fpA { A with dd := [] }) H := fun es _ b m => by
      simp only [fpA, List.mem_cons, List.not_mem_nil, or_false] at m ⊢
      rcases m with m | m | m | m
      · exact .inl (.inl m)
      · exact .inl (.inr (.inl m))
      · exact .inl (.inr (.inr (.inl m)))
      · exact .inl (.inr (.inr (.inr (.inl m))))
    refine ⟨A, S, rfl, G, R.gk, R.eu, R.ec, G.shorts, fun e d H' hd s => tell k13.xm.us (fun x hx => .unk (erm hd (same_new hx))) (same (.un (.inl rfl) e) s), fun es eS d ed => ⟨fun ha H' G' O' => ?_, fun a' ha hle H' G' O' => ?_, fun a' ha hlt e H' he G' O' => ?_⟩, fun ds0 es1 es eS dd0 d1 d ed H' G' O' => ?_⟩
    · fold_lay
      rename_i p hp
      refine k _ _ { A with dd := [] } _ _ (.cm1 eS fun x z => by rw [ha] at z; cases z) ⟨?_, (O'.trans (Same.out (same_new hp))).wide (by simp), rfl, gr1 es eS⟩ (at_doneT (.int _) hp)
      have := G'.mono (same_new (o := .tup [.str "done", .int (costOf S.ws S.hs es : Nat)]) hp)
      rw [ha]
      rw [ha] at this
      exact this
    · fold_lay
      rename_i p hp
      refine k _ _ { A with dd := [] } _ _ (.cm1 eS fun x z => by rw [ha] at z; cases z; exact hle) ⟨?_, (O'.trans (Same.out (same_new hp))).wide (by simp), rfl, gr1 es eS⟩ (at_doneT (.int _) hp)
      have := G'.mono (same_new (o := .tup [.str "done", .int (costOf S.ws S.hs es : Nat)]) hp)
      rw [ha]
      exact this
    · refine tell k13.xm.cs (fun x hx => .cut (erm he (same_new hx))) fun v H2 s2 hv => ?_
      exact k v _ { A with dd := [] } _ H2 (.cut eS ha hlt) ⟨G'.mono s2, (O'.trans (Same.out s2)).wide (by simp), rfl, gr1 es eS⟩ hv
    · fold_lay
      rename_i p hp
      exact k _ _ { A with dd := dd0 ++ [d1] } _ _ (.cm2 eS) ⟨G'.mono (same_new hp), (O'.trans (Same.out (same_new hp))).wide (by simp [ed]), rfl, fun b m => by
        simp only [fpA, List.mem_cons] at m ⊢
        rcases m with m | m | m | m | m
        · exact .inl (.inl m)
        · exact .inl (.inr (.inl m))
        · exact .inl (.inr (.inr (.inl m)))
        · exact .inl (.inr (.inr (.inr (.inl m))))
        · exact .inl (.inr (.inr (.inr (.inr (by rw [ed]; exact List.mem_append_left _ m)))))⟩ (at_doneT (.int _) hp)
  | cn =>
    have ha : H a = some (.tup [.str "cancel"]) := ha
    fold_lay
    fold_depth
    refine i_no (by decide) ?_
    fold_lay
    fold_depth
    refine i_no (by decide) ?_
    fold_lay
    fold_depth
    refine i_yes rfl ?_
    fold_lay
    refine i_meth G lkm_cancel ?_
    fold_lay
    refine ⟨A, S, rfl, G, R.gk, R.eu, fun e d H' hd s => tell k13.xm.us (fun x hx => .unk (erm hd (same_new hx))) (same (.un (.inr rfl) e) s), fun ds0 es eS => ⟨G.shorts es (by rw [eS]; simp), fun dd0 d H' ed G' O' => ?_⟩⟩
    fold_lay
    rename_i p hp
    exact k _ _ { A with dd := dd0 } _ _ (.cn eS) ⟨G'.mono (same_new hp), (O'.trans (Same.out (same_new hp))).wide (by simp), rfl, fun b m => by
      simp only [fpA, List.mem_cons] at m ⊢
      rcases m with m | m | m | m | m
      · exact .inl (.inl m)
      · exact .inl (.inr (.inl m))
      · exact .inl (.inr (.inr (.inl m)))
      · exact .inl (.inr (.inr (.inr (.inl m))))
      · exact .inl (.inr (.inr (.inr (.inr (by rw [ed]; exact List.mem_append_left _ m)))))⟩ (at_doneT .non hp)
  | dd D =>
    have ok : D.Ok S.ws.length := ok
    have nh : ∀ p f, D.due S = some (("NotHeld" : Str), [p, f]) → ∀ d H', nhA H' d p f → Same H H' → W0 (.ref c.k_NotHeld) (some d) [some (.ref A.g), some (.ref a), none] H' := fun p f e d H' hd s =>
      tell k13.xm.ns (fun x hx => .nh (erm hd (same_new hx))) (same (.err e) s)
    have br : ∀ p f b, D.due S = some (("Broken" : Str), [p, f, b]) → ∀ d H', brA H' d p f b → Same H H' → W0 (.ref c.k_Broken) (some d) [some (.ref A.g), some (.ref a), none] H' := fun p f b e d H' hd s =>
      tell k13.xm.rs (fun x hx => .br (erm hd (same_new hx))) (same (.err e) s)
    have fin : D.due S = none → DeedOk c A S (D.chg S) H (fun H' => ∀ p, H' p = none → Q (.ref p) (upd H' p (.tup [.str "done", .non]))) (fun cls d H' => W0 cls d [some (.ref A.g), some (.ref a), none] H') := fun due => by
      have go : ∀ H2 S2, Gd c H2 A S2 → Out (fpA A) H H2 → DeedRel S (D.chg S) S2 → (S.ds = [] → ∀ a, S.al = some a → ((costL S (D.chg S) : Nat) : Int) ≤ a) → ∀ p, H2 p = none → Q (.ref p) (upd H2 p (.tup [.str "done", .non])) := fun H2 S2 G2 O2 r hc p hp =>
        k _ _ A S2 _ (.made due r hc) ⟨G2.mono (same_new hp), O2.trans (Same.out (same_new hp)), rfl, Grow.refl⟩ (at_doneT .non hp)
      refine ⟨fun e0 ea H' G O => go H' _ G O ⟨rfl, rfl, rfl, rfl, .inl ⟨e0, e0, by show S.al = _; rw [ea]; rfl, rfl⟩⟩ fun _ a z => (by rw [ea] at z; cases z), fun e0 a ea le H' G O => go H' _ G O ⟨rfl, rfl, rfl, rfl, .inl ⟨e0, e0, by rw [ea]; rfl, rfl⟩⟩ fun _ b z => (by rw [ea] at z; cases z; exact le), fun e0 b ea lt e H' he G O => ?_, fun ds0 es e0 H' G O => go H' _ G O ⟨rfl, rfl, rfl, rfl, .inr ⟨ds0, es, e0, rfl, rfl, rfl⟩⟩ fun z => (by rw [z] at e0; simp at e0)⟩
      refine tell k13.xm.cs (fun x hx => .cut (erm he (same_new hx))) fun v H2 s2 hv => ?_
      exact k v _ A S H2 (.dcut due e0 ea lt) ⟨G.mono s2, O.trans (Same.out s2), rfl, Grow.refl⟩ hv
    clear k same tell
    cases D with
    | wr p wd hd =>
      obtain ⟨p0, p1, w0, h0, h1⟩ := ok
      have ha : H a = some (.tup [.str "write", .int p, .int wd, .int hd]) := ha
      fold_lay
      fold_depth
      refine i_no (by decide) ?_
      fold_lay
      fold_depth
      refine i_no (by decide) ?_
      fold_lay
      fold_depth
      refine i_no (by decide) ?_
      fold_lay
      fold_depth
      refine i_yes rfl ?_
      fold_lay
      refine i_meth G lkm_write ?_
      fold_lay
      have b0 := wr_in (S := S) (p := p) (w := wd) (h := hd) ⟨p0, p1, w0, h0, h1⟩
      refine ⟨A, S, _, _, _, "int", "int", "int", rfl, G, R, .int _, .int _, .int _, dl, fun t z => ?_, fun _ p' w' h' e1 e2 e3 => ?_⟩
      · rw [b0] at z
        cases z
      · cases e1; cases e2; cases e3
        refine ⟨fun ne d H' hd' s => ?_, fun e => ?_⟩
        · refine nh p _ ?_ d H' hd' s
          simp only [Deed.due]
          rw [if_pos ne]
        · refine (fin ?_).imp (fun H' q => ?_) fun _ _ _ z => z
          · simp only [Deed.due]
            rw [if_neg (fun q => q e)]
          · fold_lay
            rename_i r hr
            exact q r hr
    | pk p wd =>
      obtain ⟨p0, p1, w0⟩ := ok
      have ha : H a = some (.tup [.str "poke", .int p, .int wd]) := ha
      fold_lay
      fold_depth
      refine i_no (by decide) ?_
      fold_lay
      fold_depth
      refine i_no (by decide) ?_
      fold_lay
      fold_depth
      refine i_no (by decide) ?_
      fold_lay
      fold_depth
      refine i_no (by decide) ?_
      fold_lay
      fold_depth
      refine i_yes rfl ?_
      fold_lay
      refine i_meth G lkm_poke ?_
      fold_lay
      have b0 := pk_in (S := S) (p := p) (w := wd) ⟨p0, p1, w0⟩
      refine ⟨A, S, _, _, "int", "int", rfl, G, R, .int _, .int _, dl, fun t z => ?_, fun _ p' w' e1 e2 => ?_⟩
      · rw [b0] at z
        cases z
      · cases e1; cases e2
        refine (fin rfl).imp (fun H' q => ?_) fun _ _ _ z => z
        fold_lay
        rename_i r hr
        exact q r hr
    | ps s n g t =>
      have okp := ok
      obtain ⟨p0, p1, p2, g0, t0⟩ := ok
      have ha : H a = some (.tup [.str "pass_on", .int s, .int n, .int g, .int t]) := ha
      fold_lay
      fold_depth
      refine i_no (by decide) ?_
      fold_lay
      fold_depth
      refine i_no (by decide) ?_
      fold_lay
      fold_depth
      refine i_no (by decide) ?_
      fold_lay
      fold_depth
      refine i_no (by decide) ?_
      fold_lay
      fold_depth
      refine i_no (by decide) ?_
      fold_lay
      refine i_meth G lkm_pass_on ?_
      fold_lay
      have b0 := ps_in okp
      refine ⟨A, S, _, _, _, _, "int", "int", "int", "int", rfl, G, R, .int _, .int _, .int _, .int _, dl, fun t z => ?_, fun _ s' n' g' t' e1 e2 e3 e4 => ?_⟩
      · rw [b0] at z
        cases z
      · cases e1; cases e3; cases e4
        obtain rfl : n = n' := by have := V.int.inj e2; omega
        refine ⟨fun gz p hp d H' hd s1 => ?_, fun gz => ⟨fun p hp d H' hd s1 => ?_, fun hn => ?_⟩⟩
        · refine br p _ _ ?_ d H' hd s1
          simp only [Deed.due]
          rw [if_pos gz, hp]
        · refine nh p _ ?_ d H' hd s1
          simp only [Deed.due]
          have : (if g = 0 then firstP (brk S) s n else none) = none := by
            split
            · exact gz (by assumption)
            · rfl
          rw [this, hp]
          rfl
        · have : (if g = 0 then firstP (brk S) s n else none) = none := by
            split
            · exact gz (by assumption)
            · rfl
          refine (fin ?_).imp (fun H' q => ?_) fun _ _ _ z => z
          · simp only [Deed.due]
            rw [this, hn]
            rfl
          · fold_lay
            rename_i r hr
            exact q r hr
/-! ## K13c -/
local macro_rules | `(tactic| kbj_are) => `(tactic| (with_reducible refine q_len ?_; with_reducible refine i_lenT (sqT (by assumption)) ?_))
/-! ### k13: what differs, what is charged -/
def sp_differing (K : PySem.W.Frag) : Sp := fun vs H Q _ => ∃ (e x bw bh aw ah : Addr) (r0 : V) (r : List V) (ws hs w0 h0 : List Int), vs = [.ref e, .ref x] ∧ H e = some (.tup [.ref bw, .ref bh]) ∧ H x = some (.lst (r0 :: .ref aw :: .ref ah :: r)) ∧
  H aw = some (.lst (ws.map V.int)) ∧ H ah = some (.lst (hs.map V.int)) ∧ H bw = some (.lst (w0.map V.int)) ∧ H bh = some (.lst (h0.map V.int)) ∧ hs.length = ws.length ∧ w0.length = ws.length ∧ h0.length = ws.length ∧ ws.length ≤ 20000 ∧
  ∀ l H', H l = none → H' l = some (.lst ((diffL ws hs w0 h0).map fun j : Nat => V.int j)) → Same H H' → Q (.ref l) H'
def N_l_differing : List Str := ["_law_old", "_law_side_here", "_law_words", "_law_holders_here", "_law_k"]
def t_l_differing (K : PySem.W.Frag) : TS := (tSeq (tAsg (tOp (rIxT K) (tVar 0) (tC (.int 0))) (gName 2))
  (tSeq (tAsg (tOp (rIxT K) (tVar 0) (tC (.int 1))) (gName 3))
  (tRet (tLc (iRng1 (tCons (tCB (rLen K) (tCons (tVar 2) tNil)) tNil)) (gName 4) (tOr (tTest (tOp rNe (tOp (rIxL K) (tVar 2) (tVar 4)) (tOp (rIxL K) (tOp (rIxL K) (tVar 1) (tC (.int 1))) (tVar 4)))) (tTest (tOp rNe (tOp (rIxL K) (tVar 3) (tVar 4)) (tOp (rIxL K) (tOp (rIxL K) (tVar 1) (tC (.int 2))) (tVar 4))))) (tVar 4) [4]))))
theorem diff_step {ws hs w0 h0 : List Int} {i : Nat} : ((List.range (i + 1)).filter (dif ws hs w0 h0)) = if dif ws hs w0 h0 i = true then (List.range i).filter (dif ws hs w0 h0) ++ [i] else (List.range i).filter (dif ws hs w0 h0) := by
  rw [List.range_succ, List.filter_append]
  by_cases g : dif ws hs w0 h0 i = true
  · rw [if_pos g]
    simp [g]
  · rw [if_neg g]
    simp [g]
theorem at_nat {l : List Int} {i : Nat} (h : i < l.length) : atI (l.map V.int) (0 + (i : Int)) = some (.int (l.getD i 0)) := by
  have p0 : (0 : Int) ≤ 0 + (i : Int) := by omega
  have ei : (0 + (i : Int)).toNat = i := by omega
  have := at_ints (l := l) p0 (by omega)
  rwa [ei] at this
theorem pure_differing {K : PySem.W.Frag} {vs : List V} {H : Hp} {Q : VK} {E : XK} (h : sp_differing K vs H Q E) : t_l_differing K { nx := fun _ H' => Q .non H', rt := Q } (start N_l_differing vs) H := by
  obtain ⟨e, x, bw, bh, aw, ah, r0, r, ws, hs, w0, h0, rfl, he, hx, hw, hh, gw, gh, l1, l2, l3, z, k⟩ := h
  unfold t_l_differing
  fold_lay
  refine c_rng1 (by rw [List.length_map]; omega) (by rw [List.length_map]; omega) (m_rng (fun D i H' => Same H H' ∧ H D = none ∧ H' D = some (.lst (((List.range i).filter (dif ws hs w0 h0)).map fun j : Nat => V.int j))) ?_ ?_ ?_)
  · exact fun D hD => ⟨same_new hD, hD, upd_same⟩
  · rintro D i H1 hi ⟨s1, d0, d1⟩
    have hi : i < ws.length := by simpa [l2] using hi
    have p0 : (0 : Int) ≤ 0 + (i : Int) := by omega
    have ei : (0 + (i : Int)).toNat = i := by omega
    have hx1 := s1 _ _ hx
    have hw1 := s1 _ _ hw
    have hh1 := s1 _ _ hh
    have gw1 := s1 _ _ gw
    have gh1 := s1 _ _ gh
    fold_lay
    refine ⟨rfl, ?_⟩
    fold_lay
    refine i_ixL (sqL gw1) (at_nat (l := w0) (by omega)) ?_
    fold_lay
    refine i_ixL (sqL hx1) (at_of (j := 1) (by omega) rfl) ?_
    fold_lay
    refine i_ixL (sqL hw1) (at_nat (l := ws) (by omega)) ?_
    fold_lay
    have yes : dif ws hs w0 h0 i = true → ∃ acc, H1 D = some (HO.lst acc) ∧ acc.length < sizeLine ∧ (Same H (upd H1 D (.lst (acc ++ [.int (0 + (i : Int))]))) ∧ H D = none ∧ upd H1 D (.lst (acc ++ [.int (0 + (i : Int))])) D = some (.lst (((List.range (i + 1)).filter (dif ws hs w0 h0)).map fun j : Nat => V.int j))) := fun g => by
      refine ⟨_, d1, szl ?_, same_step d0 s1, d0, ?_⟩
      · rw [List.length_map]
        have := List.length_filter_le (dif ws hs w0 h0) (List.range i)
        rw [List.length_range] at this
        omega
      · rw [upd_same, diff_step, if_pos g, List.map_append]
        simp
    refine i_ifn (fun g => ?_) (fun g => ?_)
    · fold_lay
      exact yes (by unfold dif; exact decide_eq_true (.inl fun q => g q.symm))
    · fold_lay
      refine i_ixL (sqL gh1) (at_nat (l := h0) (by omega)) ?_
      fold_lay
      refine i_ixL (sqL hx1) (at_of (j := 2) (by omega) rfl) ?_
      fold_lay
      refine i_ixL (sqL hh1) (at_nat (l := hs) (by omega)) ?_
      fold_lay
      refine i_ifn (fun g2 => ?_) (fun g2 => ?_)
      · fold_lay
        exact yes (by unfold dif; exact decide_eq_true (.inr fun q => g2 q.symm))
      · refine ⟨s1, d0, ?_⟩
        rw [diff_step, if_neg (by unfold dif; rw [g, g2]; simp)]
        exact d1
  · rintro D H1 ⟨s1, d0, d1⟩
    have el : ((w0.map V.int).length : Int).toNat = ws.length := by simp [l2]
    rw [el] at d1
    exact k D H1 d0 d1 s1
def f13 : GS → List V := fun S => [.int S.ch, odV S.al]
/-- what is told of a charge: the cost, or told -/
def sp_charged13 (K : PySem.W.Frag) : Sp := fun vs H Q _ => ∃ (c : Cl) (W : SA) (T S : GS) (sn : List (List Int × List Int)) (e b1 b2 : Addr) (w0 h0 : List Int) (told : V), vs = [.ref W.x, .ref e, told] ∧ (told = .non ∨ told = .str "cost") ∧ Sx c H W (f13 T) T.ws T.hs S sn ∧ H e = some (.tup [.ref b1, .ref b2]) ∧ H b1 = some (.lst (w0.map V.int)) ∧ H b2 = some (.lst (h0.map V.int)) ∧ b2 ∉ fpSL W ∧
  T.hs.length = T.ws.length ∧ w0.length = T.ws.length ∧ h0.length = T.ws.length ∧ T.ws.length ≤ 20000 ∧
  (∀ a, T.al = some a → a < ((diffN T.ws T.hs w0 h0 : Nat) : Int) → ∀ v W' H', Sx c H' W' (f13 T) w0 h0 S sn → MvS W H W' H' → W'.x = W.x → W'.A = W.A → At H' v (refT "Cut" [.int (diffN T.ws T.hs w0 h0 : Nat), .int a]) → Q v H') ∧
  ((∀ a, T.al = some a → ((diffN T.ws T.hs w0 h0 : Nat) : Int) ≤ a) → ∀ v H', Sx c H' W (f13 { T with al := T.al.map (fun x : Int => x - (diffN T.ws T.hs w0 h0 : Nat)), ch := T.ch + (diffN T.ws T.hs w0 h0 : Nat) }) T.ws T.hs S sn → MvS W H W H' → At H' v (doneT (if told = .non then .non else .int (diffN T.ws T.hs w0 h0 : Nat))) → Q v H')
def N_l_charged : List Str := ["_law_side_here", "_law_old", "_law_told_here", "_law_cost"]
def t_l_charged (K : PySem.W.Frag) : TS := (tSeq (tAsg (tCB (rLen K) (tCons (tCall (sp_differing K) [] E0 (tCons (tVar 1) (tCons (tVar 0) tNil))) tNil)) (gName 3))
  (tSeq (tIfS (tAnd (tTest (tOp oNotN (tOp (rIxL K) (tVar 0) (tC (.int 5))) (tC .non))) (tTest (tOp oLt (tOp (rIxL K) (tVar 0) (tC (.int 5))) (tVar 3)))) (tSeq (tAsg (tCB (rListOf K) (tCons (tOp (rIxT K) (tVar 1) (tC (.int 0))) tNil)) (gSub (tVar 0) (tC (.int 1)) rSetL))
  (tSeq (tAsg (tCB (rListOf K) (tCons (tOp (rIxT K) (tVar 1) (tC (.int 1))) tNil)) (gSub (tVar 0) (tC (.int 2)) rSetL))
  (tRet (tTup (tCons (tC (.str "refused")) (tCons (tC (.str "Cut")) (tCons (tTup (tCons (tVar 3) (tCons (tOp (rIxL K) (tVar 0) (tC (.int 5))) tNil))) tNil))))))) tNext)
  (tSeq (tAsg (tOp oAdd (tOp (rIxL K) (tVar 0) (tC (.int 4))) (tVar 3)) (gSub (tVar 0) (tC (.int 4)) rSetL))
  (tSeq (tIfS (tTest (tOp oNotN (tOp (rIxL K) (tVar 0) (tC (.int 5))) (tC .non))) (tAsg (tOp oSub (tOp (rIxL K) (tVar 0) (tC (.int 5))) (tVar 3)) (gSub (tVar 0) (tC (.int 5)) rSetL)) tNext)
  (tRet (tTup (tCons (tC (.str "done")) (tCons (tOp (rIxL K) (tLst (tCons (tVar 2) (tCons (tVar 3) tNil))) (tCB rInt1 (tCons (tOp rEq (tVar 2) (tC (.str "cost"))) tNil))) tNil))))))))
theorem i_eqNS {H : Hp} {Q : VK} {s : Str} (q : Q (.bl false) H) : rEq .non (.str s) H Q := ⟨rfl, by
  rw [show decide (V.non = V.str s) = false from decide_eq_false (fun z => by cases z)]
  exact q⟩
instance s_eqNS {H : Hp} {Q : VK} {s : Str} : Stp (rEq .non (.str s) H Q) (Q (.bl false) H) := ⟨i_eqNS⟩
theorem i_intB {H : Hp} {Q : VK} {b : Bool} (q : Q (.int (if b = true then 1 else 0)) H) : rInt1 [.bl b] H Q := .inr ⟨b, rfl, q⟩
theorem pure_charged13 {K : PySem.W.Frag} {vs : List V} {H : Hp} {Q : VK} {E : XK} (h : sp_charged13 K vs H Q E) : t_l_charged K { nx := fun _ H' => Q .non H', rt := Q } (start N_l_charged vs) H := by
  obtain ⟨c, W, T, S, sn, e, b1, b2, w0, h0, told, rfl, htold, X, he, hb1, hb2, n2, l1, l2, l3, z, kC, kD⟩ := h
  have hx : H W.x = some (.lst [.ref W.A.g, .ref W.w, .ref W.h, .ref W.k, .int T.ch, odV T.al]) := X.L.hx
  unfold t_l_charged
  fold_lay
  refine ⟨e, W.x, b1, b2, W.w, W.h, .ref W.A.g, _, T.ws, T.hs, w0, h0, rfl, he, hx, X.L.hw, X.L.hh, hb1, hb2, l1, l2, l3, z, fun l H1 _ hl s1 => ?_⟩
  have X1 := X.mono s1
  have hx1 := s1 _ _ hx
  have he1 := s1 _ _ he
  have hb11 := s1 _ _ hb1
  have hb21 := s1 _ _ hb2
  have M1 : MvS W H W H1 := .same s1
  clear hx he hb1 hb2
  fold_lay
  rw [List.length_map]
  have ec : (diffL T.ws T.hs w0 h0).length = diffN T.ws T.hs w0 h0 := rfl
  rw [ec]
  generalize hc : diffN T.ws T.hs w0 h0 = cost at *
  fold_lay
  fold_depth
  have last : ∀ (H2 : Hp), (∀ a, T.al = some a → ((cost : Nat) : Int) ≤ a) → Sx c H2 W (f13 { T with al := T.al.map (fun x : Int => x - (cost : Nat)), ch := T.ch + (cost : Nat) }) T.ws T.hs S sn → MvS W H W H2 →
      tRet (tTup (tCons (tC (.str "done")) (tCons (tOp (rIxL K) (tLst (tCons (tVar 2) (tCons (tVar 3) tNil))) (tCB rInt1 (tCons (tOp rEq (tVar 2) (tC (.str "cost"))) tNil))) tNil))) { nx := fun _ H' => Q .non H', rt := Q } [some (.ref W.x), some (.ref e), some told, some (.int (cost : Nat))] H2 := by
    intro H2 hle X2 M2
    rcases htold with rfl | rfl
    · fold_lay
      refine i_intB ?_
      rename_i p hp
      refine i_ixL (sqL upd_same) (by rfl) ?_
      fold_lay
      rename_i q hq
      have s := (same_new (o := .lst [.non, .int (cost : Nat)]) hp).trans (same_new (o := .tup [.str "done", .non]) hq)
      exact kD hle _ _ (X2.mono s) (M2.trans (.same s)) (.tup upd_same (.cons (.str _) (.cons .non .nil)))
    · fold_lay
      refine i_intB ?_
      rename_i p hp
      refine i_ixL (sqL upd_same) (by rfl) ?_
      fold_lay
      rename_i q hq
      have s := (same_new (o := .lst [.str "cost", .int (cost : Nat)]) hp).trans (same_new (o := .tup [.str "done", .int (cost : Nat)]) hq)
      exact kD hle _ _ (X2.mono s) (M2.trans (.same s)) (.tup upd_same (.cons (.str _) (.cons (.int _) .nil)))
  cases ea : T.al with
  | none =>
    rw [ea] at hx1
    replace hx1 : H1 W.x = some (.lst [.ref W.A.g, .ref W.w, .ref W.h, .ref W.k, .int T.ch, .non]) := hx1
    have hy1 : ∀ _ : Unit, H1 W.x = some (.lst [.ref W.A.g, .ref W.w, .ref W.h, .ref W.k, .int T.ch, .non]) := fun _ => hx1
    show (if (!decide (odV none = V.non)) = true then _ else _)
    clear hx1
    refine i_ifn (fun g => absurd rfl g) (fun _ => ?_)
    fold_lay
    refine i_ixL (i := 4) (sqL (hy1 ())) (by rfl) ?_
    fold_lay
    refine i_setL (n := 4) (i := 4) (hy1 ()) (by rfl) ?_
    obtain ⟨X2, M2⟩ := X1.own (H' := upd H1 W.x (.lst ([V.ref W.A.g, V.ref W.w, V.ref W.h, V.ref W.k, V.int T.ch, V.non].set 4 (V.int (T.ch + (cost : Nat)))))) (tl' := f13 { T with al := T.al.map (fun x : Int => x - (cost : Nat)), ch := T.ch + (cost : Nat) }) (by rw [ea]; exact upd_same) (out_upd (by simp))
    have hx2 : upd H1 W.x (.lst ([V.ref W.A.g, V.ref W.w, V.ref W.h, V.ref W.k, V.int T.ch, V.non].set 4 (V.int (T.ch + (cost : Nat))))) W.x = some (.lst [.ref W.A.g, .ref W.w, .ref W.h, .ref W.k, .int (T.ch + (cost : Nat)), .non]) := upd_same
    generalize upd H1 W.x (.lst ([V.ref W.A.g, V.ref W.w, V.ref W.h, V.ref W.k, V.int T.ch, V.non].set 4 (V.int (T.ch + (cost : Nat))))) = H2 at *
    fold_lay
    fold_depth
    exact last H2 (fun a q => by rw [ea] at q; cases q) X2 (M1.trans M2)
  | some a =>
    rw [ea] at hx1
    replace hx1 : H1 W.x = some (.lst [.ref W.A.g, .ref W.w, .ref W.h, .ref W.k, .int T.ch, .int a]) := hx1
    show (if (!decide (odV (some a) = V.non)) = true then _ else _)
    refine i_ifn (fun _ => ?_) (fun g => by cases g)
    fold_lay
    refine i_ifd (fun g => ?_) (fun g => ?_)
    · clear last
      clear hx1
      fold_lay
      refine ⟨b1, _, rfl, .inl (sqL hb11), fun p1 hp1 => ?_⟩
      fold_lay
      refine i_setL (n := 1) (upd_keep hp1 X1.L.hx) (by rfl) ?_
      have nx1 : p1 ≠ W.x := Ne.symm (ne_of_none X1.L.hx hp1)
      have nb2 : b2 ≠ W.x := fun z => n2 (by rw [z]; simp [fpSL])
      obtain ⟨X2, M2⟩ := X1.newW (p := p1) (ws' := w0) (H' := upd (upd H1 p1 (.lst (w0.map V.int))) W.x (.lst ((V.ref W.A.g :: V.ref W.w :: V.ref W.h :: V.ref W.k :: f13 T).set 1 (V.ref p1)))) hp1 (upd_off nx1 upd_same) upd_same ((Same.out (same_new hp1)).trans (out_upd (by simp)))
      have he2 := X1.tupK M2 he1
      have hb22 : upd (upd H1 p1 (.lst (w0.map V.int))) W.x (.lst ((V.ref W.A.g :: V.ref W.w :: V.ref W.h :: V.ref W.k :: f13 T).set 1 (V.ref p1))) b2 = _ := upd_off nb2 (upd_keep hp1 hb21)
      generalize upd (upd H1 p1 (.lst (w0.map V.int))) W.x (.lst ((V.ref W.A.g :: V.ref W.w :: V.ref W.h :: V.ref W.k :: f13 T).set 1 (V.ref p1))) = H2 at *
      have M12 := M1.trans M2
      clear hp1 nx1 X1 M1 M2 he1 hb11 hb21
      fold_lay
      refine ⟨b2, _, rfl, .inl (sqL hb22), fun p2 hp2 => ?_⟩
      fold_lay
      refine i_setL (n := 2) (upd_keep hp2 X2.L.hx) (by rfl) ?_
      have nx2 : p2 ≠ W.x := Ne.symm (ne_of_none X2.L.hx hp2)
      obtain ⟨X3, M3⟩ := X2.newH (p := p2) (hs' := h0) (H' := upd (upd H2 p2 (.lst (h0.map V.int))) W.x (.lst ((V.ref W.A.g :: V.ref p1 :: V.ref W.h :: V.ref W.k :: f13 T).set 2 (V.ref p2)))) hp2 (upd_off nx2 upd_same) upd_same ((Same.out (same_new hp2)).trans (out_upd (by simp)))
      generalize upd (upd H2 p2 (.lst (h0.map V.int))) W.x (.lst ((V.ref W.A.g :: V.ref p1 :: V.ref W.h :: V.ref W.k :: f13 T).set 2 (V.ref p2))) = H3 at *
      have hx3 : H3 W.x = some (.lst [.ref W.A.g, .ref p1, .ref p2, .ref W.k, .int T.ch, .int a]) := by
        have := X3.L.hx
        unfold f13 at this
        rw [ea] at this
        exact this
      have M13 := M12.trans M3
      clear M12 M3 hb22 he2 hp2 nx2 X2
      fold_lay
      rename_i q hq r hr
      have s := (same_new (o := .tup [.int (cost : Nat), .int a]) hq).trans (same_new (o := .tup [.str "refused", .str "Cut", .ref q]) hr)
      exact kC a ea g _ _ _ (X3.mono s) (M13.trans (.same s)) rfl rfl (.tup upd_same (.cons (.str _) (.cons (.str _) (.cons (.tup (upd_keep hr upd_same) (.cons (.int _) (.cons (.int _) .nil))) .nil))))
    · have hy1 : ∀ _ : Unit, H1 W.x = some (.lst [.ref W.A.g, .ref W.w, .ref W.h, .ref W.k, .int T.ch, .int a]) := fun _ => hx1
      clear hx1
      fold_lay
      refine i_ixL (i := 4) (sqL (hy1 ())) (by rfl) ?_
      fold_lay
      refine i_setL (n := 4) (i := 4) (hy1 ()) (by rfl) ?_
      obtain ⟨X2, M2⟩ := X1.own (H' := upd H1 W.x (.lst ([V.ref W.A.g, V.ref W.w, V.ref W.h, V.ref W.k, V.int T.ch, V.int a].set 4 (V.int (T.ch + (cost : Nat)))))) (tl' := [.int (T.ch + (cost : Nat)), .int a]) upd_same (out_upd (by simp))
      have hx2 : upd H1 W.x (.lst ([V.ref W.A.g, V.ref W.w, V.ref W.h, V.ref W.k, V.int T.ch, V.int a].set 4 (V.int (T.ch + (cost : Nat))))) W.x = some (.lst [.ref W.A.g, .ref W.w, .ref W.h, .ref W.k, .int (T.ch + (cost : Nat)), .int a]) := upd_same
      generalize upd H1 W.x (.lst ([V.ref W.A.g, V.ref W.w, V.ref W.h, V.ref W.k, V.int T.ch, V.int a].set 4 (V.int (T.ch + (cost : Nat))))) = H2 at *
      have hy2 : ∀ _ : Unit, H2 W.x = some (.lst [.ref W.A.g, .ref W.w, .ref W.h, .ref W.k, .int (T.ch + (cost : Nat)), .int a]) := fun _ => hx2
      clear hx2
      fold_lay
      fold_depth
      refine i_ixL (i := 5) (sqL (hy2 ())) (by rfl) ?_
      fold_lay
      refine i_ifn (fun _ => ?_) (fun g => by cases g)
      fold_lay
      refine i_ixL (i := 5) (sqL (hy2 ())) (by rfl) ?_
      fold_lay
      refine i_setL (n := 5) (i := 5) (hy2 ()) (by rfl) ?_
      obtain ⟨X3, M3⟩ := X2.own (H' := upd H2 W.x (.lst ([V.ref W.A.g, V.ref W.w, V.ref W.h, V.ref W.k, V.int (T.ch + (cost : Nat)), V.int a].set 5 (V.int (a - (cost : Nat)))))) (tl' := f13 { T with al := T.al.map (fun x : Int => x - (cost : Nat)), ch := T.ch + (cost : Nat) }) (by rw [ea]; exact upd_same) (out_upd (by simp))
      generalize upd H2 W.x (.lst ([V.ref W.A.g, V.ref W.w, V.ref W.h, V.ref W.k, V.int (T.ch + (cost : Nat)), V.int a].set 5 (V.int (a - (cost : Nat))))) = H3 at *
      exact last H3 (fun b q => by rw [ea] at q; cases q; omega) X3 ((M1.trans M2).trans M3)
/-! ## K13d -/
/-! ### k13: what is due of a step -/
theorem Ls.fresh {H : Hp} {W : SA} {tl : List V} {ws hs : List Int} {sn : List (List Int × List Int)} {p : Addr} (L : Ls H W tl ws hs sn) (h : H p = none) : p ∉ fpSL W := fun m => by
  obtain ⟨xs, e⟩ := L.live p m
  rw [h] at e
  cases e
def sp_step_due13 (K : PySem.W.Frag) : Sp := fun vs H Q _ => ∃ (c : Cl) (W : SA) (S S0 S' : GS) (sn : List (List Int × List Int)) (a : Addr) (q : Stq) (dt : Dt), vs = [.ref W.x, .int S.fl, .ref a] ∧ H a = some (.tup q.vs) ∧ q.Ok S.ws.length ∧ Sx c H W (f13 S) S.ws S.hs S0 sn ∧ Snap S.ws S.hs S.ds sn ∧ ImOk S.wd S.fl S.ws S.hs ∧ (∀ es ∈ S.ds, Chg S.ws.length es) ∧ sn.length < 1000 ∧ Ev S q dt S' ∧
  ∀ v W' sn' H', Sx c H' W' (f13 S') S'.ws S'.hs S0 sn' → Snap S'.ws S'.hs S'.ds sn' → MvS W H W' H' → W'.x = W.x → W'.A = W.A → At H' v dt → (∀ x ∈ sn', x ∈ sn ∨ x = (S.ws, S.hs)) → Q v H'
def N_l_step_due : List Str := ["_law_side_here", "_law_blank_here", "_law_step_here", "_law_starts", "_law_old", "_law_refused"]
def t_l_step_due (K : PySem.W.Frag) : TS := (tSeq (tAsg (tOp (rIxL K) (tVar 0) (tC (.int 3))) (gName 3))
  (tSeq (tIfS (tTest (tOp rEq (tOp (rIxT K) (tVar 2) (tC (.int 0))) (tC (.str "begin")))) (tSeq (tDrop (tBM K "list" rAppend (tVar 3) (tCons (tTup (tCons (tCB (rListOf K) (tCons (tOp (rIxL K) (tVar 0) (tC (.int 1))) tNil)) (tCons (tCB (rListOf K) (tCons (tOp (rIxL K) (tVar 0) (tC (.int 2))) tNil)) tNil))) tNil)))
  (tRet (tTup (tCons (tC (.str "done")) (tCons (tCB (rLen K) (tCons (tVar 3) tNil)) tNil))))) tNext)
  (tSeq (tIfS (tOr (tTest (tOp rEq (tOp (rIxT K) (tVar 2) (tC (.int 0))) (tC (.str "commit")))) (tTest (tOp rEq (tOp (rIxT K) (tVar 2) (tC (.int 0))) (tC (.str "cancel"))))) (tSeq (tIfS (tTest (tOp rEq (tCB (rLen K) (tCons (tVar 3) tNil)) (tC (.int 0)))) (tRet (tTup (tCons (tC (.str "refused")) (tCons (tC (.str "Unknown")) (tCons (tTup (tCons (tC (.str "deed")) tNil)) tNil))))) tNext)
  (tSeq (tAsg (tBM0 K "list" rPop (tVar 3)) (gName 4))
  (tSeq (tIfS (tTest (tOp rEq (tOp (rIxT K) (tVar 2) (tC (.int 0))) (tC (.str "cancel")))) (tSeq (tAsg (tCB (rListOf K) (tCons (tOp (rIxT K) (tVar 4) (tC (.int 0))) tNil)) (gSub (tVar 0) (tC (.int 1)) rSetL))
  (tSeq (tAsg (tCB (rListOf K) (tCons (tOp (rIxT K) (tVar 4) (tC (.int 1))) tNil)) (gSub (tVar 0) (tC (.int 2)) rSetL))
  (tRet (tTup (tCons (tC (.str "done")) (tCons (tC .non) tNil)))))) tNext)
  (tSeq (tIfS (tTest (tOp rEq (tCB (rLen K) (tCons (tVar 3) tNil)) (tC (.int 0)))) (tRet (tCall (sp_charged13 K) [] E0 (tCons (tVar 0) (tCons (tVar 4) (tCons (tC (.str "cost")) tNil))))) tNext)
  (tRet (tTup (tCons (tC (.str "done")) (tCons (tCB (rLen K) (tCons (tCall (sp_differing K) [] E0 (tCons (tVar 4) (tCons (tVar 0) tNil))) tNil)) tNil)))))))) tNext)
  (tSeq (tAsg (tCall (sp_deed_due K) [] E0 (tCons (tOp (rIxL K) (tVar 0) (tC (.int 1))) (tCons (tOp (rIxL K) (tVar 0) (tC (.int 2))) (tCons (tVar 1) (tCons (tVar 2) tNil))))) (gName 5))
  (tSeq (tIfS (tTest (tOp oNotN (tVar 5) (tC .non))) (tRet (tTup (tCons (tC (.str "refused")) (tCons (tOp (rIxT K) (tVar 5) (tC (.int 0))) (tCons (tOp (rIxT K) (tVar 5) (tC (.int 1))) tNil))))) tNext)
  (tSeq (tAsg (tTup (tCons (tCB (rListOf K) (tCons (tOp (rIxL K) (tVar 0) (tC (.int 1))) tNil)) (tCons (tCB (rListOf K) (tCons (tOp (rIxL K) (tVar 0) (tC (.int 2))) tNil)) tNil))) (gName 4))
  (tSeq (tDrop (tCall (sp_deed_made K) [] E0 (tCons (tOp (rIxL K) (tVar 0) (tC (.int 1))) (tCons (tOp (rIxL K) (tVar 0) (tC (.int 2))) (tCons (tVar 1) (tCons (tVar 2) tNil))))))
  (tSeq (tIfS (tTest (tOp rEq (tCB (rLen K) (tCons (tVar 3) tNil)) (tC (.int 0)))) (tRet (tCall (sp_charged13 K) [] E0 (tCons (tVar 0) (tCons (tVar 4) (tCons (tC .non) tNil))))) tNext)
  (tRet (tTup (tCons (tC (.str "done")) (tCons (tC .non) tNil))))))))))))
/-- the tail of a commit or a cancel -/
def due13 (K : PySem.W.Frag) : TS := tSeq (tIfS (tTest (tOp rEq (tCB (rLen K) (tCons (tVar 3) tNil)) (tC (.int 0)))) (tRet (tTup (tCons (tC (.str "refused")) (tCons (tC (.str "Unknown")) (tCons (tTup (tCons (tC (.str "deed")) tNil)) tNil))))) tNext)
  (tSeq (tAsg (tBM0 K "list" rPop (tVar 3)) (gName 4))
  (tSeq (tIfS (tTest (tOp rEq (tOp (rIxT K) (tVar 2) (tC (.int 0))) (tC (.str "cancel")))) (tSeq (tAsg (tCB (rListOf K) (tCons (tOp (rIxT K) (tVar 4) (tC (.int 0))) tNil)) (gSub (tVar 0) (tC (.int 1)) rSetL))
  (tSeq (tAsg (tCB (rListOf K) (tCons (tOp (rIxT K) (tVar 4) (tC (.int 1))) tNil)) (gSub (tVar 0) (tC (.int 2)) rSetL))
  (tRet (tTup (tCons (tC (.str "done")) (tCons (tC .non) tNil)))))) tNext)
  (tSeq (tIfS (tTest (tOp rEq (tCB (rLen K) (tCons (tVar 3) tNil)) (tC (.int 0)))) (tRet (tCall (sp_charged13 K) [] E0 (tCons (tVar 0) (tCons (tVar 4) (tCons (tC (.str "cost")) tNil))))) tNext)
  (tRet (tTup (tCons (tC (.str "done")) (tCons (tCB (rLen K) (tCons (tCall (sp_differing K) [] E0 (tCons (tVar 4) (tCons (tVar 0) tNil))) tNil)) tNil)))))))
theorem due_end {K : PySem.W.Frag} {c : Cl} {H : Hp} {Q : VK} {nx : List (Option V) → Hp → Prop} {W : SA} {S S0 S' : GS} {sn : List (List Int × List Int)} {a : Addr} {q' : Stq} {t : Str} {dt : Dt} (ha : H a = some (.tup [.str t])) (hq : q' = .cm ∨ q' = .cn) (ht : t = "commit" ∨ t = "cancel") (hct : q' = .cn ↔ t = "cancel") (X : Sx c H W (f13 S) S.ws S.hs S0 sn) (sp : Snap S.ws S.hs S.ds sn) (im : ImOk S.wd S.fl S.ws S.hs) (okE : ∀ es ∈ S.ds, Chg S.ws.length es) (ev : Ev S q' dt S')
    (k : ∀ v W' sn' H', Sx c H' W' (f13 S') S'.ws S'.hs S0 sn' → Snap S'.ws S'.hs S'.ds sn' → MvS W H W' H' → W'.x = W.x → W'.A = W.A → At H' v dt → (∀ x ∈ sn', x ∈ sn ∨ x = (S.ws, S.hs)) → Q v H') :
    due13 K { nx := nx, rt := Q } [some (.ref W.x), some (.int S.fl), some (.ref a), some (.ref W.k), none, none] H := by
  have hx : H W.x = some (.lst [.ref W.A.g, .ref W.w, .ref W.h, .ref W.k, .int S.ch, odV S.al]) := X.L.hx
  have hw := X.L.hw
  have hh := X.L.hh
  have hk := X.L.hk
  have kl := X.L.hs.length
  have le := im.le
  have lz := im.len
  have sl := sp.length
  unfold due13
  fold_lay
  fold_depth
  rw [List.length_map, kl]
  rcases snoc_of sn with e0 | ⟨sn0, x, e0⟩
  · have d0 := sp.none e0
    refine i_yes (by rw [e0]; rfl) ?_
    fold_lay
    rename_i p hp r hr
    have s := (same_new (o := .tup [.str "deed"]) hp).trans (same_new (o := .tup [.str "refused", .str "Unknown", .ref p]) hr)
    have hv : At (upd (upd H p (.tup [.str "deed"])) r (.tup [.str "refused", .str "Unknown", .ref p])) (.ref r) (refT "Unknown" [.str "deed"]) := .tup upd_same (.cons (.str _) (.cons (.str _) (.cons (.tup (upd_keep hr upd_same) (.cons (.str _) .nil)) .nil)))
    cases ev with
    | un _ _ => exact k _ W sn _ (X.mono s) sp (.same s) rfl rfl hv fun x m => .inl m
    | bg => rcases hq with z | z <;> cases z
    | cm1 e _ => rw [d0] at e; cases e
    | cut e _ _ => rw [d0] at e; cases e
    | cm2 e => rw [d0] at e; simp at e
    | cn e => rw [d0] at e; simp at e
    | made _ _ _ => rcases hq with z | z <;> cases z
    | dcut _ _ _ _ => rcases hq with z | z <;> cases z
    | err _ => rcases hq with z | z <;> cases z
  subst e0
  refine i_no (by rw [List.length_append]; simp; omega) ?_
  fold_lay
  obtain ⟨ks0, e, a1, a2, ek, q1, q2, q3, f1, f2, f3, f4, go⟩ := X.pop
  rw [ek, List.map_append] at hk
  refine i_popL (y := .ref e) hk ?_
  obtain ⟨X1, M1, g1, g2, g3⟩ := go (upd H W.k (.lst (ks0.map fun e => V.ref e.1))) upd_same (out_upd (by simp))
  have ha1 := X.tupK M1 ha
  have hk1 : upd H W.k (.lst (ks0.map fun e => V.ref e.1)) W.k = some (.lst (ks0.map fun e => V.ref e.1)) := upd_same
  generalize upd H W.k (.lst (ks0.map fun e => V.ref e.1)) = H1 at *
  have kl0 : ks0.length = sn0.length := X1.L.hs.length
  obtain ⟨lw0, lh0⟩ := sp.len x (by simp)
  obtain ⟨ds0, es, eds, exx, sp0⟩ := sp.top
  have okes := okE es (by rw [eds]; simp)
  have ec : costOf S.ws S.hs es = diffN S.ws S.hs x.1 x.2 := by
    rw [exx]
    exact cost_diff okes le
  clear hx hw hh hk ha q1 q2 q3 go
  fold_lay
  fold_depth
  by_cases tc : t = "cancel"
  · refine i_yes tc ?_
    obtain rfl := hct.mpr tc
    fold_lay
    refine ⟨a1, _, rfl, .inl (sqL g2), fun p1 hp1 => ?_⟩
    fold_lay
    refine i_setL (n := 1) (upd_keep hp1 X1.L.hx) (by rfl) ?_
    have nx1 : p1 ≠ W.x := Ne.symm (ne_of_none X1.L.hx hp1)
    have na2 : a2 ≠ W.x := fun z => f2 (by rw [z]; simp [fpSL])
    obtain ⟨X2, M2⟩ := X1.newW (p := p1) (ws' := x.1) (H' := upd (upd H1 p1 (.lst (x.1.map V.int))) W.x (.lst ((V.ref W.A.g :: V.ref W.w :: V.ref W.h :: V.ref W.k :: f13 S).set 1 (V.ref p1)))) hp1 (upd_off nx1 upd_same) upd_same ((Same.out (same_new hp1)).trans (out_upd (by simp)))
    have g1 := X1.tupK M2 g1
    have g3 : upd (upd H1 p1 (.lst (x.1.map V.int))) W.x (.lst ((V.ref W.A.g :: V.ref W.w :: V.ref W.h :: V.ref W.k :: f13 S).set 1 (V.ref p1))) a2 = _ := upd_off na2 (upd_keep hp1 g3)
    generalize upd (upd H1 p1 (.lst (x.1.map V.int))) W.x (.lst ((V.ref W.A.g :: V.ref W.w :: V.ref W.h :: V.ref W.k :: f13 S).set 1 (V.ref p1))) = H2 at *
    have M12 := M1.trans M2
    clear hp1 nx1 X1 M1 M2 g2 ha1 hk1
    fold_lay
    refine ⟨a2, _, rfl, .inl (sqL g3), fun p2 hp2 => ?_⟩
    fold_lay
    refine i_setL (n := 2) (upd_keep hp2 X2.L.hx) (by rfl) ?_
    have nx2 : p2 ≠ W.x := Ne.symm (ne_of_none X2.L.hx hp2)
    obtain ⟨X3, M3⟩ := X2.newH (p := p2) (hs' := x.2) (H' := upd (upd H2 p2 (.lst (x.2.map V.int))) W.x (.lst ((V.ref W.A.g :: V.ref p1 :: V.ref W.h :: V.ref W.k :: f13 S).set 2 (V.ref p2)))) hp2 (upd_off nx2 upd_same) upd_same ((Same.out (same_new hp2)).trans (out_upd (by simp)))
    generalize upd (upd H2 p2 (.lst (x.2.map V.int))) W.x (.lst ((V.ref W.A.g :: V.ref p1 :: V.ref W.h :: V.ref W.k :: f13 S).set 2 (V.ref p2))) = H3 at *
    fold_lay
    rename_i p hp
    have s := same_new (o := .tup [.str "done", .non]) hp
    cases ev with
    | un _ e => rw [eds] at e; simp at e
    | @cn ds0' es' e' =>
      obtain ⟨rfl, e4⟩ := List.append_inj' (eds.symm.trans e') rfl
      obtain rfl : es = es' := by simpa using e4
      subst exx
      exact k _ _ sn0 _ (X3.mono s) sp0 ((M12.trans M3).trans (.same s)) rfl rfl (.tup upd_same (.cons (.str _) (.cons .non .nil))) fun x m => .inl (List.mem_append_left _ m)
  · refine i_no tc ?_
    have tcm : t = "commit" := ht.resolve_right tc
    have qcm : q' = .cm := hq.resolve_right fun z => tc (hct.mp z)
    subst qcm
    fold_lay
    fold_depth
    rw [List.length_map, kl0]
    have hx1 : H1 W.x = some (.lst (.ref W.A.g :: .ref W.w :: .ref W.h :: .ref W.k :: f13 S)) := X1.L.hx
    refine i_ifd (fun z => ?_) (fun z => ?_)
    · have s0 : sn0 = [] := List.length_eq_zero_iff.mp (by omega)
      have d0 : ds0 = [] := sp0.none s0
      subst s0 d0
      clear hx1
      fold_lay
      refine ⟨c, { W with ks := ks0 }, S, S0, [], e, a1, a2, x.1, x.2, .str "cost", rfl, .inr rfl, X1, g1, g2, g3, f2, le.symm, lw0, by omega, by omega, fun b hb hlt v W' H' X2 M2 ex eA hv => ?_, fun hle v H' X2 M2 hv => ?_⟩
      · rw [← ec] at hlt hv
        cases ev with
        | un _ e => rw [eds] at e; simp at e
        | @cm1 es' e' hle =>
          obtain rfl : es = es' := by simpa using eds.symm.trans e'
          have := hle b hb
          omega
        | @cut es' a' e' ea hlt' =>
          obtain rfl : es = es' := by simpa using eds.symm.trans e'
          obtain rfl : b = a' := Option.some.inj (hb.symm.trans ea)
          subst exx
          exact k v W' [] H' X2 .nil (M1.trans M2) ex eA hv fun x m => (by cases m)
        | cm2 e' => exact absurd (congrArg List.length (eds.symm.trans e')) (by simp)
      · rw [← ec] at hv X2
        rw [if_neg (by simp)] at hv
        cases ev with
        | un _ e => rw [eds] at e; simp at e
        | @cm1 es' e' hle' =>
          obtain rfl : es = es' := by simpa using eds.symm.trans e'
          exact k v { W with ks := ks0 } [] H' X2 .nil (M1.trans M2) rfl rfl hv fun x m => (by cases m)
        | @cut es' a' e' ea hlt' =>
          obtain rfl : es = es' := by simpa using eds.symm.trans e'
          have := hle a' ea
          rw [← ec] at this
          omega
        | cm2 e' => exact absurd (congrArg List.length (eds.symm.trans e')) (by simp)
    · fold_lay
      refine ⟨e, W.x, a1, a2, W.w, W.h, .ref W.A.g, _, S.ws, S.hs, x.1, x.2, rfl, g1, hx1, X1.L.hw, X1.L.hh, g2, g3, le.symm, lw0, by omega, by omega, fun l H2 _ hl s2 => ?_⟩
      clear hx1
      fold_lay
      rename_i p hp
      rw [List.length_map] at *
      have el : (diffL S.ws S.hs x.1 x.2).length = costOf S.ws S.hs es := ec.symm
      rw [el] at *
      have s := s2.trans (same_new (o := .tup [.str "done", .int (costOf S.ws S.hs es : Nat)]) hp)
      cases ev with
      | un _ e => rw [eds] at e; simp at e
      | @cm1 es' e' hle' =>
        rw [eds] at e'
        have h1 := congrArg List.length e'
        rw [List.length_append] at h1
        have h2 := sp0.length
        have h3 : ds0.length = 0 := by simpa using h1
        omega
      | @cut es' a' e' ea hlt' =>
        rw [eds] at e'
        have h1 := congrArg List.length e'
        rw [List.length_append] at h1
        have h2 := sp0.length
        have h3 : ds0.length = 0 := by simpa using h1
        omega
      | @cm2 ds1 es1 es' e' =>
        obtain ⟨e3, e4⟩ := List.append_inj' (eds.symm.trans e') rfl
        obtain rfl : es = es' := by simpa using e4
        subst e3
        have spj : Snap S.ws S.hs (ds1 ++ [merge es1 es]) sn0 := by
          have := sp
          rw [eds] at this
          exact this.joined le (okE es1 (by rw [eds]; simp)) okes
        exact k _ { W with ks := ks0 } sn0 _ (X1.mono s) spj (M1.trans (.same s)) rfl rfl (.tup upd_same (.cons (.str _) (.cons (.int _) .nil))) fun x m => .inl (List.mem_append_left _ m)
theorem pure_step_due13 {K : PySem.W.Frag} {vs : List V} {H : Hp} {Q : VK} {E : XK} (h : sp_step_due13 K vs H Q E) : t_l_step_due K { nx := fun _ H' => Q .non H', rt := Q } (start N_l_step_due vs) H := by
  obtain ⟨c, W, S, S0, S', sn, a, q, dt, rfl, ha, ok, X, sp, im, okE, sz, ev, k⟩ := h
  have hx : H W.x = some (.lst [.ref W.A.g, .ref W.w, .ref W.h, .ref W.k, .int S.ch, odV S.al]) := X.L.hx
  have hw := X.L.hw
  have hh := X.L.hh
  have hk := X.L.hk
  have kl := X.L.hs.length
  have le := im.le
  have lz := im.len
  have sl := sp.length
  unfold t_l_step_due
  cases q with
  | bg =>
    have ha : H a = some (.tup [.str "begin"]) := ha
    fold_lay
    fold_depth
    refine i_yes rfl ?_
    fold_lay
    refine ⟨W.w, _, rfl, .inl (sqL hw), fun a1 h1 => ?_⟩
    fold_lay
    refine ⟨W.h, _, rfl, .inl (sqL (by kct_strs)), fun a2 h2 => ?_⟩
    fold_lay
    rename_i e he
    have kk := upd_keep (o := .tup [.ref a1, .ref a2]) he (upd_keep (o := .lst (S.hs.map V.int)) h2 (upd_keep (o := .lst (S.ws.map V.int)) h1 hk))
    refine i_put kk (by rw [List.length_map]; omega) ?_
    have n12 : a1 ≠ a2 := ne_of_none upd_same h2
    have nk1 : a1 ≠ W.k := Ne.symm (ne_of_none hk h1)
    have nk2 : a2 ≠ W.k := Ne.symm (ne_of_none (upd_keep h1 hk) h2)
    have nke : e ≠ W.k := Ne.symm (ne_of_none (upd_keep h2 (upd_keep h1 hk)) he)
    obtain ⟨X1, M1⟩ := X.push (a1 := a1) (a2 := a2) (e := e) (H' := upd (upd (upd (upd H a1 (.lst (S.ws.map V.int))) a2 (.lst (S.hs.map V.int))) e (.tup [.ref a1, .ref a2])) W.k (.lst ((W.ks.map fun e => V.ref e.1) ++ [.ref e]))) h1 (free2 h2 (same_new h1)) n12
      (upd_off nk1 (upd_keep he (upd_keep h2 upd_same))) (upd_off nk2 (upd_keep he upd_same)) (upd_off nke upd_same) upd_same ((Same.out (((same_new h1).trans (same_new h2)).trans (same_new he))).trans (out_upd (by simp)))
    have hk4 : upd (upd (upd (upd H a1 (.lst (S.ws.map V.int))) a2 (.lst (S.hs.map V.int))) e (.tup [.ref a1, .ref a2])) W.k (.lst ((W.ks.map fun e => V.ref e.1) ++ [.ref e])) W.k = some (.lst ((W.ks.map fun e => V.ref e.1) ++ [.ref e])) := upd_same
    generalize upd (upd (upd (upd H a1 (.lst (S.ws.map V.int))) a2 (.lst (S.hs.map V.int))) e (.tup [.ref a1, .ref a2])) W.k (.lst ((W.ks.map fun e => V.ref e.1) ++ [.ref e])) = H4 at *
    clear kk h1 h2 he hx hw hh hk
    fold_lay
    rename_i p hp
    have el : ((W.ks.map fun e => V.ref e.1) ++ [V.ref e]).length = S.ds.length + 1 := by simp [kl, sl]
    have s := same_new (o := .tup [.str "done", .int (((W.ks.map fun e => V.ref e.1) ++ [V.ref e]).length : Nat)]) hp
    cases ev with
    | un h _ => rcases h with z | z <;> cases z
    | bg =>
      refine k _ _ (sn ++ [(S.ws, S.hs)]) _ (X1.mono s) sp.begin (M1.trans (.same s)) rfl rfl ?_ fun x m => ?_
      · rw [el] at *
        exact .tup upd_same (.cons (.str _) (.cons (.int _) .nil))
      · rcases List.mem_append.mp m with m | m
        · exact .inl m
        · exact .inr (List.mem_singleton.mp m)
  | cm =>
    have ha : H a = some (.tup [.str "commit"]) := ha
    fold_lay
    fold_depth
    refine i_no (by decide) ?_
    fold_lay
    fold_depth
    refine i_yes rfl ?_
    exact due_end ha (.inl rfl) (.inl rfl) ⟨fun z => (by cases z), fun z => (by cases z)⟩ X sp im okE ev k
  | cn =>
    have ha : H a = some (.tup [.str "cancel"]) := ha
    fold_lay
    fold_depth
    refine i_no (by decide) ?_
    fold_lay
    fold_depth
    refine i_no (by decide) ?_
    fold_lay
    refine i_yes rfl ?_
    exact due_end ha (.inr rfl) (.inr rfl) ⟨fun _ => rfl, fun _ => rfl⟩ X sp im okE ev k
  | dd D =>
    have ok : D.Ok S.ws.length := ok
    have ha : H a = some (.tup D.vs) := ha
    obtain ⟨tt, pp, rr, ev', p0, p1⟩ : ∃ t p r, D.vs = .str t :: p :: r ∧ t ≠ "begin" ∧ t ≠ "commit" ∧ t ≠ "cancel" := by
      cases D <;> exact ⟨_, _, _, rfl, by decide, by decide, by decide⟩
    have ha' := ha
    rw [ev'] at ha'
    fold_lay
    fold_depth
    refine i_ixT (sqT ha') (at_of (j := 0) (v := .str tt) (by omega) rfl) ?_
    fold_lay
    refine i_no p0 ?_
    fold_lay
    fold_depth
    refine i_ixT (sqT ha') (at_of (j := 0) (v := .str tt) (by omega) rfl) ?_
    fold_lay
    refine i_no p1.1 ?_
    fold_lay
    refine i_ixT (sqT ha') (at_of (j := 0) (v := .str tt) (by omega) rfl) ?_
    fold_lay
    refine i_no p1.2 ?_
    fold_lay
    refine c_deed_due hw hh ha ok le (by omega) fun dv H1 s1 hdv => ?_
    have hx1 := s1 _ _ hx
    have X1 := X.mono s1
    have hw1 := s1 _ _ hw
    have hh1 := s1 _ _ hh
    have hk1 := s1 _ _ hk
    have ha1 := s1 _ _ ha
    have M1 := MvS.same (W := W) s1
    clear hx hw hh hk ha ha'
    cases due : D.due S with
    | none =>
      rw [due] at hdv
      obtain rfl : dv = .non := hdv
      fold_lay
      fold_depth
      refine i_ifn (fun z => absurd rfl z) (fun _ => ?_)
      kbj_rows
      refine ⟨W.w, _, rfl, .inl (sqL hw1), fun a1 h1 => ?_⟩
      have hh2 : ∀ _ : Unit, upd H1 a1 (.lst (S.ws.map V.int)) W.h = some (.lst (S.hs.map V.int)) := fun _ => upd_keep h1 hh1
      fold_lay
      refine ⟨W.h, _, rfl, .inl (sqL (hh2 ())), fun a2 h2 => ?_⟩
      fold_lay
      rename_i e he
      have s3 : Same H1 (upd (upd (upd H1 a1 (.lst (S.ws.map V.int))) a2 (.lst (S.hs.map V.int))) e (.tup [.ref a1, .ref a2])) := ((same_new h1).trans (same_new h2)).trans (same_new he)
      have f1 : a1 ∉ fpSL W := X1.L.fresh h1
      have f2 : a2 ∉ fpSL W := X1.L.fresh (free2 h2 (same_new h1))
      have he3 : upd (upd (upd H1 a1 (.lst (S.ws.map V.int))) a2 (.lst (S.hs.map V.int))) e (.tup [.ref a1, .ref a2]) e = some (.tup [.ref a1, .ref a2]) := upd_same
      have hb1 : upd (upd (upd H1 a1 (.lst (S.ws.map V.int))) a2 (.lst (S.hs.map V.int))) e (.tup [.ref a1, .ref a2]) a1 = some (.lst (S.ws.map V.int)) := upd_keep he (upd_keep h2 upd_same)
      have hb2 : upd (upd (upd H1 a1 (.lst (S.ws.map V.int))) a2 (.lst (S.hs.map V.int))) e (.tup [.ref a1, .ref a2]) a2 = some (.lst (S.hs.map V.int)) := upd_keep he upd_same
      clear hh2 h1 h2 he
      generalize upd (upd (upd H1 a1 (.lst (S.ws.map V.int))) a2 (.lst (S.hs.map V.int))) e (.tup [.ref a1, .ref a2]) = H2 at *
      have X2 := X1.mono s3
      have M2 := M1.trans (.same s3)
      have hw2 := s3 _ _ hw1
      have hh2 := s3 _ _ hh1
      have ha2 := s3 _ _ ha1
      have hx2 := s3 _ _ hx1
      have fw : ∀ a ∈ [W.w, W.h], a ∈ fpSL W := by simp
      clear hw1 hh1 ha1 hx1 hk1 X1 M1 s1 s3
      fold_lay
      refine ⟨W.w, W.h, a, S, D, rfl, hw2, hh2, ha2, (nd_of X2.nd).2.1.1, ok, le, by omega, due, fun H3 hw3 hh3 O3 => ?_⟩
      obtain ⟨X3, M3'⟩ := X2.lists hw3 hh3 O3
      have M3 := M2.trans M3'
      have he4 := X2.tupK M3' he3
      have hb14 : H3 a1 = some (.lst (S.ws.map V.int)) := O3 _ _ (fun m => f1 (fw _ m)) hb1
      have hb24 : H3 a2 = some (.lst (S.hs.map V.int)) := O3 _ _ (fun m => f2 (fw _ m)) hb2
      have hk3 := X3.L.hk
      clear hw3 hh3 hw2 hh2 ha2 hx2 hb1 hb2 he3 M2 M3' O3 X2
      have okl := chg_deed ok
      have ec : diffN (restW (D.chg S) S.ws) (restH (D.chg S) S.hs) S.ws S.hs = costL S (D.chg S) := (costL_diff okl le).symm
      fold_lay
      fold_depth
      rw [List.length_map, kl]
      refine i_ifd (fun z => ?_) (fun z => ?_)
      · have s0 : sn = [] := List.length_eq_zero_iff.mp (by omega)
        have d0 : S.ds = [] := sp.none s0
        subst s0
        fold_lay
        refine ⟨c, W, { S with ws := restW (D.chg S) S.ws, hs := restH (D.chg S) S.hs }, S0, [], e, a1, a2, S.ws, S.hs, .non, rfl, .inl rfl, X3, he4, hb14, hb24, f2, by rw [restW_len, restH_len]; exact le.symm, by rw [restW_len], by rw [restW_len]; exact le.symm, by rw [restW_len]; omega, fun b hb hlt v W' H' X4 M4 ex eA hv => ?_, fun hle v H' X4 M4 hv => ?_⟩
        · replace hlt : b < ((costL S (D.chg S) : Nat) : Int) := by rw [← ec]; exact hlt
          replace hv : At H' v (refT "Cut" [.int (costL S (D.chg S) : Nat), .int b]) := by rw [← ec]; exact hv
          replace hb : S.al = some b := hb
          cases ev with
          | un h _ => rcases h with z | z <;> cases z
          | made _ r h =>
            have := h d0 b hb
            omega
          | @dcut _ b' _ _ ea _ =>
            obtain rfl : b = b' := Option.some.inj (hb.symm.trans ea)
            exact k v W' [] H' X4 sp (M3.trans M4) ex eA hv fun x m => .inl m
          | err due' => rw [due] at due'; cases due'
        · replace hle : ∀ b, S.al = some b → ((costL S (D.chg S) : Nat) : Int) ≤ b := fun b q => by
            rw [← ec]
            exact hle b q
          rw [if_pos rfl] at hv
          replace X4 : Sx c H' W [.int (S.ch + (costL S (D.chg S) : Nat)), odV (S.al.map (fun x : Int => x - (costL S (D.chg S) : Nat)))] (restW (D.chg S) S.ws) (restH (D.chg S) S.hs) S0 [] := by
            rw [← ec]
            exact X4
          cases ev with
          | un h _ => rcases h with z | z <;> cases z
          | made _ r h =>
            obtain ⟨sp2, _⟩ := r.snap sp le okl okE
            rcases r.ds with ⟨_, _, q1, q2⟩ | ⟨_, _, q, _⟩
            · refine k v W [] H' ?_ sp2 (M3.trans M4) rfl rfl hv fun x m => .inl m
              show Sx c H' W [.int S'.ch, odV S'.al] S'.ws S'.hs S0 []
              rw [q1, q2, r.ws, r.hs]
              exact X4
            · rw [d0] at q
              simp at q
          | @dcut _ b' _ _ ea hlt =>
            have := hle b' ea
            omega
          | err due' => rw [due] at due'; cases due'
      · fold_lay
        rename_i p hp
        have s := same_new (o := .tup [.str "done", .non]) hp
        have ne : S.ds ≠ [] := fun q => z (by
          rw [q] at sl
          rw [← sl]
          rfl)
        cases ev with
        | un h _ => rcases h with z | z <;> cases z
        | made _ r h =>
          obtain ⟨sp2, _⟩ := r.snap sp le okl okE
          rcases r.ds with ⟨q, _⟩ | ⟨_, _, _, _, q1, q2⟩
          · exact absurd q ne
          · refine k _ W sn _ ?_ sp2 (M3.trans (.same s)) rfl rfl (.tup upd_same (.cons (.str _) (.cons .non .nil))) fun x m => .inl m
            show Sx c _ W [.int S'.ch, odV S'.al] S'.ws S'.hs S0 sn
            rw [q1, q2, r.ws, r.hs]
            exact X3.mono s
        | @dcut _ b' _ q _ _ => exact absurd q ne
        | err due' => rw [due] at due'; cases due'
    | some x =>
      rw [due] at hdv
      obtain ⟨b, cc, rfl, hb, hc⟩ := hdv
      fold_lay
      fold_depth
      refine i_ifn (fun _ => ?_) (fun z => by cases z)
      have hb2 : ∀ _ : Unit, H1 b = some (.tup [.str x.1, .ref cc]) := fun _ => hb
      fold_lay
      rename_i r hr
      have s := same_new (o := .tup [.str "refused", .str x.1, .ref cc]) hr
      cases ev with
      | un h _ => rcases h with z | z <;> cases z
      | made due' _ _ => rw [due] at due'; cases due'
      | dcut due' _ _ _ => rw [due] at due'; cases due'
      | @err _ x' due' =>
        obtain rfl : x = x' := Option.some.inj (due.symm.trans due')
        exact k _ W sn _ (X1.mono s) sp (M1.trans (.same s)) rfl rfl (.tup upd_same (.cons (.str _) (.cons (.str _) (.cons (.tup (upd_keep hr hc) (Ats_is _)) .nil)))) fun y m => .inl m
/-! ## Within -/
/-! ### within a range -/
def sp_is_within (K : PySem.W.Frag) : Sp := fun vs H Q _ => ∃ (v : V) (n : String) (lo hi : Int), vs = [v, .int lo, .int hi] ∧ Ty0 H v n ∧ Q (.bl (vR lo hi v)) H
theorem c_is_within {K : PySem.W.Frag} {v : V} {n : String} {lo hi : Int} {H : Hp} {Q : VK} {E : XK} (h : Ty0 H v n) (q : Q (.bl (vR lo hi v)) H) : sp_is_within K [v, .int lo, .int hi] H Q E := ⟨v, n, lo, hi, rfl, h, q⟩
def N_l_is_within : List Str := ["_law_value", "_law_low", "_law_high"]
def t_l_is_within (K : PySem.W.Frag) : TS := (tRet (tAndV (tCall (sp_is_int K) [] E0 (tCons (tVar 0) tNil)) (tChain oLe oLe (tVar 1) (tVar 0) (tVar 2))))
theorem pure_is_within {K : PySem.W.Frag} {vs : List V} {H : Hp} {Q : VK} {E : XK} (h : sp_is_within K vs H Q E) : t_l_is_within K { nx := fun _ H' => Q .non H', rt := Q } (start N_l_is_within vs) H := by
  obtain ⟨v, n, lo, hi, rfl, ht, k⟩ := h
  unfold t_l_is_within
  fold_lay
  refine c_is_int ht ?_
  fold_lay
  refine i_ifb (fun h => ?_) (fun h => ?_)
  · obtain ⟨i, rfl⟩ := vI_int h
    fold_lay
    refine i_ifd (fun h1 => ?_) (fun h1 => ?_)
    · fold_lay
      simpa [vR, h1] using k
    · simpa [vR, h1] using k
  · rw [vR_no h] at k
    exact k
/-! ## Slices -/
/-! ### slices; wrong values told -/
instance s_sl {r : V → Option Int → Option Int → Hp → VK → Prop} {te : TE} {tl th : TO} {σ : St} {H : Hp} {Q : VK} : Stp (tSl r te tl th σ H Q) (te σ H fun x H1 => tl σ H1 fun l H2 => th σ H2 fun u H3 => r x l u H3 Q) := ⟨fun h => h⟩
instance s_nopart {σ : St} {H : Hp} {Q : Option Int → Hp → Prop} : Stp (tNoPart σ H Q) (Q none H) := ⟨fun h => h⟩
instance s_part {t : TE} {σ : St} {H : Hp} {Q : Option Int → Hp → Prop} : Stp (tPart t σ H Q) (t σ H fun x H1 => ∃ i, x = .int i ∧ Q (some i) H1) := ⟨fun h => h⟩
instance s_partI {i : Int} {P : Int → Prop} : Stp (∃ j, V.int i = .int j ∧ P j) (P i) := ⟨fun h => ⟨i, rfl, h⟩⟩
theorem i_slL {K : PySem.W.Frag} {H : Hp} {Q : VK} {a : Addr} {xs : List V} {lo hi : Option Int} (h : SqL K H a xs) (q : ∀ p, H p = none → Q (.ref p) (upd H p (.lst (cutV xs lo hi)))) : rSlL K (.ref a) lo hi H Q := ⟨a, xs, rfl, h, q⟩
theorem vR_out {H : Hp} {v : V} {dt : Dt} {lo hi : Int} (h : At H v dt) (hn : ¬ dt.inR lo hi) : vR lo hi v = false := by
  cases h <;> first | rfl | skip
  rename_i i
  have : ¬ (lo ≤ i ∧ i ≤ hi) := hn
  simp only [vR, Bool.and_eq_false_iff, decide_eq_false_iff_not]
  omega
theorem vH_at {H : Hp} {v : V} {dt : Dt} (h : At H v dt) : vH v = isHdD dt := by cases h <;> rfl
def vRd (lo hi : Int) : Dt → Bool
  | .int i => decide (lo ≤ i) && decide (i ≤ hi)
  | _ => false
theorem vR_at {H : Hp} {v : V} {dt : Dt} {lo hi : Int} (h : At H v dt) : vR lo hi v = vRd lo hi dt := by cases h <;> rfl
theorem ok_bad (t : Str) : (badD t).dep ≤ 5 ∧ (badD t).okd = true := by
  have e : Dt.depL (([true, true] ++ yes "BadValue").map Dt.bl) = 0 := by
    show Dt.depL [.bl _, .bl _, .bl _, .bl _, .bl _, .bl _, .bl _, .bl _, .bl _, .bl _] = 0
    simp [Dt.depL, Dt.dep]
  have e2 : Dt.okd (.lst (([true, true] ++ yes "BadValue").map Dt.bl)) = true := rfl
  constructor
  · simp only [badD, refD2, Dt.dep, Dt.depL, e]
    decide
  · unfold badD refD2
    simp only [Dt.okd, Dt.okL, Bool.and_eq_true] at e2 ⊢
    simp only [e2]
    simp
/-! ## Images -/
/-! ### images as data; compared -/
theorem dp_ints {K : PySem.W.Frag} {H : Hp} : ∀ l : List Int, DpAll K H (l.map V.int) (l.map PyData.int)
  | [] => .nil
  | i :: l => .cons (.int i) (dp_ints l)
theorem lay_ints : ∀ l : List Int, PyData.canLayAll0 (l.map PyData.int) = true
  | [] => rfl
  | i :: l => by
    show (PyData.canLay0 (.int i) && PyData.canLayAll0 (l.map PyData.int)) = true
    rw [lay_ints l]
    rfl
theorem deep_ints : ∀ l : List Int, PyData.depthAll (l.map PyData.int) = 0
  | [] => rfl
  | i :: l => by
    show max (PyData.depth (.int i)) (PyData.depthAll (l.map PyData.int)) = 0
    rw [deep_ints l]
    rfl
def imgP (w b : Int) (ws hs : List Int) : PyData := .tuple [.int w, .int b, .tuple (ws.map .int), .tuple (hs.map .int)]
theorem lay_img {w b : Int} {ws hs : List Int} : (imgP w b ws hs).canLay0 = true := by
  simp [imgP, PyData.canLay0, PyData.canLayAll0, lay_ints]
theorem shaped_img {w b : Int} {ws hs : List Int} : SeqAt.shaped (imgP w b ws hs) = true := by
  unfold SeqAt.shaped
  rw [lay_img]
  simp [imgP, PyData.depth, PyData.depthAll, deep_ints]
theorem AtIs {H : Hp} {v : V} : ∀ {l : List Int}, At H v (.tup (l.map Dt.int)) → ∃ p, v = .ref p ∧ H p = some (.tup (l.map V.int)) := by
  intro l h
  have go : ∀ {l : List Int} {xs : List V}, Ats H xs (l.map Dt.int) → xs = l.map V.int := by
    intro l
    induction l with
    | nil => intro xs h; cases h; rfl
    | cons i l ih =>
      intro xs h
      cases h with
      | cons h1 h2 =>
        cases h1
        rw [ih h2]
        rfl
  cases h with
  | tup hr hrs => exact ⟨_, rfl, by rw [hr, go hrs]⟩
theorem dp_img {K : PySem.W.Frag} {H : Hp} {v : V} {w b : Int} {ws hs : List Int} (h : At H v (.tup [.int w, .int b, .tup (ws.map Dt.int), .tup (hs.map Dt.int)])) : Dp K H v (imgP w b ws hs) := by
  cases h with
  | tup hr hrs =>
    cases hrs with
    | cons a1 hrs => cases hrs with
      | cons a2 hrs => cases hrs with
        | cons a3 hrs => cases hrs with
          | cons a4 hrs =>
            cases hrs
            cases a1
            cases a2
            obtain ⟨p, rfl, hp⟩ := AtIs a3
            obtain ⟨q, rfl, hq⟩ := AtIs a4
            exact .tup (sqT hr) (.cons (.int _) (.cons (.int _) (.cons (.tup (sqT hp) (dp_ints _)) (.cons (.tup (sqT hq) (dp_ints _)) .nil))))
theorem i_neImg {K : PySem.W.Frag} {H : Hp} {Q : VK} {x y : V} {w b : Int} {ws hs : List Int} (hx : At H x (.tup [.int w, .int b, .tup (ws.map Dt.int), .tup (hs.map Dt.int)])) (hy : At H y (.tup [.int w, .int b, .tup (ws.map Dt.int), .tup (hs.map Dt.int)])) (k : Q (.bl false) H) : rNeD K x y H Q := by
  refine ⟨_, _, dp_img hx, dp_img hy, shaped_img, shaped_img, ?_⟩
  rw [SeqAt.eqv_refl _ lay_img]
  exact k
/-! ## Looks -/
/-! ### what laws look at: pairs of ints, pieces of tuples -/
theorem shaped_ints {l : List Int} : SeqAt.shaped (.tuple (l.map .int)) = true := by
  unfold SeqAt.shaped
  rw [show (PyData.tuple (l.map .int)).canLay0 = true from lay_ints l]
  simp [PyData.depth, deep_ints]
theorem i_eqInts {K : PySem.W.Frag} {H : Hp} {Q : VK} {a b : Addr} {l : List Int} (ha : H a = some (.tup (l.map V.int))) (hb : H b = some (.tup (l.map V.int))) (k : Q (.bl true) H) : rEqD K (.ref a) (.ref b) H Q := by
  refine ⟨_, _, .tup (sqT ha) (dp_ints l), .tup (sqT hb) (dp_ints l), shaped_ints, shaped_ints, ?_⟩
  rw [SeqAt.eqv_refl _ (show (PyData.tuple (l.map .int)).canLay0 = true from lay_ints l)]
  exact k
theorem i_slT {K : PySem.W.Frag} {H : Hp} {Q : VK} {a : Addr} {xs : List V} {lo hi : Option Int} (h : H a = some (.tup xs)) (n : ¬ (HT.sIx xs.length 0 lo = 0 ∧ HT.sIx xs.length xs.length hi = xs.length)) (q : ∀ p, H p = none → Q (.ref p) (upd H p (.tup (cutV xs lo hi)))) : rSlT K (.ref a) lo hi H Q := ⟨a, xs, rfl, sqT h, n, q⟩
theorem int_ty {H : Hp} {v : V} {l : List Int} (m : v ∈ l.map V.int) : Ty0 H v "int" ∧ vI v = true := by
  obtain ⟨i, _, rfl⟩ := List.mem_map.mp m
  exact ⟨.int i, rfl⟩
def odT : Option Int → Dt
  | none => .non
  | some i => .int i
theorem at_odT {H : Hp} (o : Option Int) : At H (odV o) (odT o) := by
  cases o with
  | none => exact .non
  | some i => exact .int i
def imT (w f : Int) (ws hs : List Int) : Dt := .tup [.int w, .int f, .tup (ws.map Dt.int), .tup (hs.map Dt.int)]
theorem imT_at {H : Hp} {v : V} {w f : Int} {ws hs : List Int} (hv : At H v (imT w f ws hs)) : ∃ a a3 a4, v = .ref a ∧ H a = some (.tup [.int w, .int f, .ref a3, .ref a4]) ∧ H a3 = some (.tup (ws.map V.int)) ∧ H a4 = some (.tup (hs.map V.int)) := by
  cases hv with
  | tup hr hrs =>
    cases hrs with
    | cons b1 hrs => cases hrs with
      | cons b2 hrs => cases hrs with
        | cons b3 hrs => cases hrs with
          | cons b4 hrs =>
            cases hrs
            cases b1
            cases b2
            obtain ⟨p, rfl, hp⟩ := AtIs b3
            obtain ⟨q, rfl, hq⟩ := AtIs b4
            exact ⟨_, p, q, rfl, hr, hp, hq⟩
/-! ## Makes -/
/-! ### things made, properties, lists taken apart -/
instance s_makeK {C : Addr} {n m : Nat} {sp : Sp} {gV : List V → List V → List V} {E : XK} {t tk : TA} {σ : St} {H : Hp} {Q : VK} : Stp (tMakeK C n m sp gV E t tk σ H Q) (t σ H fun vs H1 => tk σ H1 fun zs H2 => vs.length = n ∧ zs.length = m ∧ ∀ x dx, H2 x = none → H2 dx = none → dx ≠ x →
  sp (gV (.ref x :: vs) zs) (upd (upd H2 dx (.own x)) x (.ins C dx [])) (fun v H3 => v = .non ∧ Q (.ref x) H3) E) := ⟨fun h => h⟩
theorem fresh_off {F : List Addr} {H : Hp} {p : Addr} (l : ∀ a ∈ F, ∃ o, H a = some o) (h : H p = none) : p ∉ F := fun m => by
  obtain ⟨o, e⟩ := l p m
  rw [h] at e
  cases e
theorem live_same {F : List Addr} {H H' : Hp} (l : ∀ a ∈ F, ∃ o, H a = some o) (s : Same H H') : ∀ a ∈ F, ∃ o, H' a = some o := fun a m => by
  obtain ⟨o, e⟩ := l a m
  exact ⟨o, s _ _ e⟩
theorem live_cons {F : List Addr} {H : Hp} {p : Addr} {o : HO} (l : ∀ a ∈ F, ∃ o, H a = some o) (h : H p = none) : ∀ a ∈ p :: F, ∃ u, upd H p o a = some u := fun a m => by
  rcases List.mem_cons.mp m with rfl | m
  · exact ⟨o, upd_same⟩
  · exact live_same l (same_new h) a m
theorem i_prop {c : Cl} {H : Hp} {A : GA} {S : GS} {P : Addr → Prop} (G : Gd c H A S) (q : P A.g) : ∃ a dx fs, V.ref A.g = .ref a ∧ H a = some (.ins c.k_Ground dx fs) ∧ P a := ⟨A.g, A.dx, flds A S, rfl, G.ob, q⟩
instance s_prop {C : Addr} {sp : Sp} {dvs : List V} {E : XK} {ta : TE} {σ : St} {H : Hp} {Q : VK} : Stp (tProp C sp dvs E ta σ H Q) (ta σ H fun x H1 => ∃ a dx fs, x = .ref a ∧ H1 a = some (.ins C dx fs) ∧ sp (.ref a :: dvs) H1 Q E) := ⟨fun h => h⟩
instance s_gunl {K : PySem.W.Frag} {m : Nat} {t : TGs} {a : Addr} {σ : St} {H : Hp} {R : St → Hp → Prop} : Stp (gUnl K m t (.ref a) σ H R) (∃ xs, SqL K H a xs ∧ xs.length = m ∧ t xs σ H R) := ⟨fun ⟨xs, h⟩ => ⟨a, xs, rfl, h⟩⟩
instance s_make {C : Addr} {sp : Sp} {dvs : List V} {E : XK} {t : TA} {σ : St} {H : Hp} {Q : VK} : Stp (tMake C sp dvs E t σ H Q) (t σ H fun vs H1 => ∀ x dx, H1 x = none → H1 dx = none → dx ≠ x → sp (.ref x :: (vs ++ dvs)) (upd (upd H1 dx (.own x)) x (.ins C dx [])) (fun v H2 => v = .non ∧ Q (.ref x) H2) E) := ⟨fun h => h⟩
theorem mk_ground {K : PySem.W.Frag} {c : Cl} {p w b : Int} {al : Option Int} {H1 : Hp} {Q : Addr → Hp → Prop} {E : XK} (R : GdE K c) (hT : KTup K c.x_WIDTHS [16, 32, 64]) (p0 : 1 ≤ p) (p1 : p ≤ 256) (hw : w = 16 ∨ w = 32 ∨ w = 64) (hb : isWd b) (ha : ∀ a, al = some a → 0 ≤ a ∧ a ≤ 1000000000)
    (k : ∀ A H', Gd c H' A { pg := p, wd := w, fl := b, al := al, ch := 0, ws := List.replicate (p * w).toNat b, hs := List.replicate (p * w).toNat 0, ds := [] } → A.dd = [] → (∀ a ∈ fpA A, H1 a = none) → Same H1 H' → Q A.g H') :
    ∀ x dx, H1 x = none → H1 dx = none → dx ≠ x → sp_ground_init K c [.ref x, .int p, .int w, .int b, odV al] (upd (upd H1 dx (.own x)) x (.ins c.k_Ground dx [])) (fun v H3 => v = .non ∧ Q x H3) E := by
  intro x dx hx hdx ndx
  have t1 : Ty0 (upd (upd H1 dx (.own x)) x (.ins c.k_Ground dx [])) (odV al) (if al = none then "NoneType" else "int") := by
    cases al with
    | none => exact .non
    | some a => exact .int _
  have b0 : badG (.int p) (.int w) (.int b) (odV al) = none := by
    have e1 : vR 1 256 (.int p) = true := by simp [vR]; omega
    have e2 : vWd (.int w) = true := by rcases hw with rfl | rfl | rfl <;> decide
    have e3 : vR 0 65535 (.int b) = true := by simp [vR]; omega
    have e4 : vB (odV al) = true := by
      cases al with
      | none => decide
      | some a =>
        have := ha a rfl
        simp [vB, odV, vR]
        omega
    simp [badG, e1, e2, e3, e4]
  refine ⟨x, dx, .int p, .int w, .int b, odV al, "int", "int", "int", _, rfl, upd_same, .int _, .int _, .int _, t1, R.gk, R.bv, hT, fun t z => (by rw [b0] at z; cases z), fun _ aw ah ao H5 G hw0 hh0 ho0 O => ⟨rfl, ?_⟩⟩
  have old : ∀ a, upd (upd H1 dx (.own x)) x (.ins c.k_Ground dx []) a = none → H1 a = none := fun a e => free2 e ((same_new hdx).trans (same_new (by rw [upd_ne (Ne.symm ndx)]; exact hx)))
  have eS : newG (.int p) (.int w) (.int b) (odV al) = { pg := p, wd := w, fl := b, al := al, ch := 0, ws := List.replicate (p * w).toNat b, hs := List.replicate (p * w).toNat 0, ds := [] } := by
    cases al <;> rfl
  rw [eS] at G
  refine k ⟨x, dx, aw, ah, ao, []⟩ H5 G rfl (fun a m => ?_) fun y o e => O y o (by simpa using ne_of_none e hx) (upd_off (ne_of_none e hx) (upd_off (ne_of_none e hdx) e))
  simp only [fpA, List.mem_cons, List.not_mem_nil, or_false] at m
  rcases m with rfl | rfl | rfl | rfl
  · exact hx
  · exact old _ hw0
  · exact old _ hh0
  · exact old _ ho0
/-! ## Rules4 -/
/-! ### tuple * int, any number of times -/
theorem tuple_mul0 (l : Addr) (items : Array Value) (n : Nat) (dd : Option Addr) (sl : Array (Option Value)) (u : Tok) (c1 : (items.isEmpty || (0 : Int) == 1) = false) :
    Meets (Builtin.«tuple.__mul__» ⟨[.ref l, .int 0 u], []⟩) (fun _ R s => s.heap.get? l = some { cls := .type "tuple", dict := dd, data := .seq items n, slots := sl } ∧
      R (.ok (.ret (Value.ref s.heap.objs.size))) { s with heap := s.heap.push { cls := Value.type "tuple", data := Data.seq #[] }, toks := s.toks }) :=
  .of_wp fun prog w A R s h => by
    obtain ⟨hp, g, d, tk, os⟩ := s
    obtain ⟨hl, h⟩ := h
    have f1 := AutoSeq1.idx_int
    wp_walk using wpAny_loadPart' hl
    repeat (first
      | (refine wpAny_ite_false (decide_eq_false (by rw [c1]; exact Bool.false_ne_true)) ?_; wp_walk using wpAny_loadPart' hl))
    exact ⟨_, rfl, h⟩
def rRepA (K : PySem.W.Frag) : R2 := fun x y H Q => ∃ l k xs, x = .ref l ∧ y = .int k ∧ SqT K H l xs ∧ xs ≠ [] ∧ 0 ≤ k ∧ k ≠ 1 ∧ k ≤ 20000 ∧ xs.length ≤ 50 ∧ ∀ p, H p = none → Q (.ref p) (upd H p (.tup (List.replicate k.toNat xs).flatten))
section
variable {X : Cx}
theorem op_repA : OpR X (binaryOp .Mult) (rRepA X.K) := by
  intro pins s σ H x y v u Q I rx ry h
  obtain ⟨l, k, xs, rfl, rfl, hT, hne, h1, h3, h2, hz, q⟩ := h
  cases rx
  obtain ⟨t, rfl⟩ := ry
  obtain ⟨its, r, ⟨⟨cls, dd, data, sl⟩, ho, hc, n, hd⟩, hs⟩ := I.tuple hT
  simp only at hc hd
  subst hc hd
  have hle : its.length = xs.length := r.length.symm
  have hn : its ≠ [] := fun e => hne (by
    rw [e] at hle
    exact List.eq_nil_of_length_eq_zero hle.symm)
  have hi : its.toArray.isEmpty = false := by
    cases its with
    | nil => exact absurd rfl hn
    | cons a b => rfl
  have hsz0 : its.toArray.size = xs.length := by rw [List.size_toArray, hle]
  have c1 : (its.toArray.isEmpty || k == 1) = false := by
    rw [hi, Bool.false_or]
    exact beq_eq_false_iff_ne.mpr h3
  by_cases k0 : k = 0
  · subst k0
    refine wpAny_binaryOp_repeat_ref (T := "tuple") (U := "int") (by decide) ⟨_, ho, rfl⟩ (fun s' => typeIs_int s' 0 t) noFill_tuple_mul F.fills_int_mul F.slot_int_rmul repeat_tuple F.slot_int_index.lookup
      (call_meets F.slot_int_rmul (typeIs_int s 0 t) F.entry_int_rmul (F.args_int_rmul_2 _ _) (int_rmul_tuple 0 t l its.toArray n dd sl)
        ⟨ho, rfl, ⟨_, ho, rfl⟩, call_meets F.slot_tuple_mul ⟨_, ho, rfl⟩ F.entry_tuple_mul (F.args_tuple_mul_2 _ _) (tuple_mul0 l its.toArray n dd sl t c1) ⟨ho, ?_⟩⟩)
    refine ⟨.ref s.heap.objs.size, _, I.laid (t' := s.toks) (o := .tup []) (fun b ob q => Heap.get?_push_of_some _ q) (Nat.le_refl _) ?_, rfl, q _ (I.hok.fresh (Nat.le_refl _))⟩
    exact ⟨by rw [sizeLine_eq]; simp, [], .nil, IsTup.new _ _⟩
  have hm : ((its.toArray.size : Nat) : Int) * k ≤ 1000000 := by
    rw [hsz0]
    have a1 : ((xs.length : Nat) : Int) * k ≤ 50 * k := Int.mul_le_mul_of_nonneg_right (by omega) (by omega)
    omega
  have fl0 : k.toNat * xs.length ≤ 20000 * 50 := Nat.mul_le_mul (by omega) hz
  have flen : (List.replicate k.toNat its).flatten.length ≤ sizeLine := by
    rw [PyProof.Rows.lm_len_rep_flat, hle, sizeLine_eq]
    omega
  have c0 : (decide (k < -(2 ^ 63)) || decide (k ≥ 2 ^ 63)) = false := by
    rw [decide_eq_false (by omega), decide_eq_false (by omega)] <;> rfl
  have c2 : (decide (k ≤ 0) || its.toArray.isEmpty) = false := by
    rw [hi, Bool.or_false]
    exact decide_eq_false (by omega)
  have c4 : Builtin.Tuple.tupleTooMany (((its.toArray.size : Nat) : Int) * k) = false := by
    unfold Builtin.Tuple.tupleTooMany
    rw [sizeLine_eq]
    exact decide_eq_false (by omega)
  refine wpAny_binaryOp_repeat_ref (T := "tuple") (U := "int") (by decide) ⟨_, ho, rfl⟩ (fun s' => typeIs_int s' k t) noFill_tuple_mul F.fills_int_mul F.slot_int_rmul repeat_tuple F.slot_int_index.lookup
    (call_meets F.slot_int_rmul (typeIs_int s k t) F.entry_int_rmul (F.args_int_rmul_2 _ _) (int_rmul_tuple k t l its.toArray n dd sl)
      ⟨ho, rfl, ⟨_, ho, rfl⟩, call_meets F.slot_tuple_mul ⟨_, ho, rfl⟩ F.entry_tuple_mul (F.args_tuple_mul_2 _ _) (tuple_mulW l its.toArray n dd sl k t c0 c1 c2 (by omega) c4 (by rw [size_rep, List.size_toArray]; exact flen)) ⟨ho, ?_⟩⟩)
  rw [size_rep]
  refine ⟨.ref s.heap.objs.size, _, I.laid (t' := s.toks) (o := .tup (List.replicate k.toNat xs).flatten) (fun b ob q => Heap.get?_push_of_some _ q) (Nat.le_refl _) ?_, rfl, q _ (I.hok.fresh (Nat.le_refl _))⟩
  exact ⟨by rw [PyProof.Rows.lm_len_rep_flat, sizeLine_eq]; omega, _, r.rep k.toNat, IsTup.new _ _⟩
end
/-! ## K13e -/
local macro_rules | `(tactic| kbj_are) => `(tactic| (with_reducible refine q_len ?_; with_reducible refine i_lenT (sqT (by assumption)) ?_))
/-! ### k13: a step played and due, compared; a side looked at -/
theorem ok_refT {t : Str} {l : List Int} (h : l.length ≤ 3) : (refT t (l.map Dt.int)).dep ≤ 5 ∧ (refT t (l.map Dt.int)).okd = true := by
  constructor
  · simp only [refT, Dt.dep, Dt.depL, depI]
    decide
  · have e3 : Dt.okd (.tup (l.map Dt.int)) = true := by
      simp [Dt.okd, okI]
      omega
    simp only [refT, Dt.okd, Dt.okL, Bool.and_eq_true] at e3 ⊢
    simp only [e3]
    simp
theorem ok_refS {t s : Str} : (refT t [.str s]).dep ≤ 5 ∧ (refT t [.str s]).okd = true := by
  constructor
  · simp only [refT, Dt.dep, Dt.depL]
    decide
  · simp [refT, Dt.okd, Dt.okL]
theorem Ev.shape {S S' : GS} {q : Stq} {dt : Dt} (ev : Ev S q dt S') : dt.tp = true ∧ dt.dep ≤ 5 ∧ dt.okd = true := by
  have rI : ∀ {t : Str} {l : List Int}, l.length ≤ 3 → (refT t (l.map Dt.int)).tp = true ∧ (refT t (l.map Dt.int)).dep ≤ 5 ∧ (refT t (l.map Dt.int)).okd = true := fun h => ⟨by
    simp only [refT, Dt.tp, Dt.tpL, tpI]
    rfl, ok_refT h⟩
  have dI : ∀ {d : Dt}, d.tp = true → d.dep = 0 → d.okd = true → (doneT d).tp = true ∧ (doneT d).dep ≤ 5 ∧ (doneT d).okd = true := fun t h k => ⟨by
    simp only [doneT, Dt.tp, Dt.tpL, t]
    rfl, ok_doneT h k⟩
  cases ev with
  | bg => exact dI rfl rfl rfl
  | un _ _ => exact ⟨rfl, ok_refS⟩
  | cm1 _ _ => exact dI rfl rfl rfl
  | @cut es a _ _ _ => exact rI (l := [(costOf S.ws S.hs es : Nat), a]) (by simp)
  | cm2 _ => exact dI rfl rfl rfl
  | cn _ => exact dI rfl rfl rfl
  | made _ _ _ => exact dI rfl rfl rfl
  | @dcut D a _ _ _ _ => exact rI (l := [(costL S (D.chg S) : Nat), a]) (by simp)
  | err due => exact rI (due_len due)
/-- a step keeps the image's parts -/
theorem Ev.im {S S' : GS} {q : Stq} {dt : Dt} {sn : List (List Int × List Int)} (ev : Ev S q dt S') (sp : Snap S.ws S.hs S.ds sn) (im : ImOk S.wd S.fl S.ws S.hs) (ni : ∀ x ∈ sn, ImOk S.wd S.fl x.1 x.2) (ok : q.Ok S.ws.length) : S'.wd = S.wd ∧ S'.fl = S.fl ∧ S'.ws.length = S.ws.length ∧ S'.ds.length ≤ S.ds.length + 1 ∧ ImOk S.wd S.fl S'.ws S'.hs := by
  cases ev with
  | bg => exact ⟨rfl, rfl, rfl, by simp, im⟩
  | un _ _ => exact ⟨rfl, rfl, rfl, by omega, im⟩
  | cm1 e _ => exact ⟨rfl, rfl, rfl, by simp, im⟩
  | cut e _ _ =>
    obtain ⟨sn0, e2, _⟩ := Snap.last (ds := []) (by rw [e] at sp; exact sp)
    refine ⟨rfl, rfl, restW_len, by simp, ?_⟩
    have := ni _ (by rw [e2]; exact List.mem_append_right _ (List.mem_singleton.mpr rfl))
    exact this
  | cm2 e => exact ⟨rfl, rfl, rfl, by rw [e]; simp, im⟩
  | cn e =>
    obtain ⟨sn0, e2, _⟩ := Snap.last (by rw [e] at sp; exact sp)
    refine ⟨rfl, rfl, restW_len, by rw [e]; simp; omega, ?_⟩
    have := ni _ (by rw [e2]; exact List.mem_append_right _ (List.mem_singleton.mpr rfl))
    exact this
  | made due r _ =>
    refine ⟨r.wd, r.fl, by rw [r.ws, restW_len], ?_, ?_⟩
    · rcases r.ds with ⟨_, e, _⟩ | ⟨_, _, e1, e2, _⟩
      · rw [e]; simp
      · rw [e1, e2]; simp
    · rw [r.ws, r.hs]
      exact im.deed ok
  | dcut _ _ _ _ => exact ⟨rfl, rfl, rfl, by omega, im⟩
  | err _ => exact ⟨rfl, rfl, rfl, by omega, im⟩
/-- what stays as it was of a side's ground -/
structure Kp (S S' : GS) : Prop where
  wd : S'.wd = S.wd
  fl : S'.fl = S.fl
  ln : S'.ws.length = S.ws.length
theorem core13Q {K : PySem.W.Frag} {c : Cl} {H H1 : Hp} {W : SA} {A' : GA} {S S' : GS} {sn : List (List Int × List Int)} {q : Stq} {dt : Dt} {v1 : V} {a : Addr} {fl : Int} {Q : VK} {E : XK} (D : Sd c f13 H W S sn) (ev : Ev S q dt S') (gm : GMv c H W.A A' S' H1) (hv : At H1 v1 dt) (ha : H a = some (.tup q.vs)) (ok : q.Ok S.ws.length) (efl : S.fl = fl) (hn : sn.length < 1000)
    (k : ∀ W' sn' H', Sd c f13 H' W' S' sn' → MvS W H W' H' → W'.x = W.x → Kp S S' → sn'.length ≤ sn.length + 1 → Q (.bl true) H') :
    sp_step_due13 K [.ref W.x, .int fl, .ref a] H1 (fun v2 H2 => sp_same 6 [v1, v2] H2 Q E) E := by
  obtain ⟨X1, M1⟩ := D.X.ground (F := fpA W.A) (fun _ m => m) gm.out gm.G gm.g gm.gr
  have okE : ∀ es ∈ S.ds, Chg S.ws.length es := fun es m => ⟨(D.X.G.ok es m).1, (D.X.G.ok es m).2⟩
  obtain ⟨t1, t2, t3⟩ := ev.shape
  obtain ⟨i1, i2, i3, i5, i4⟩ := ev.im D.sp D.im D.ni ok
  refine ⟨c, { W with A := A' }, S, S', S', sn, a, q, dt, by rw [efl], D.X.tupK M1 ha, ok, X1, D.sp, D.im, okE, hn, ev, fun v2 W' sn' H2 X sp M ex eA hv2 mem => ?_⟩
  refine c_same (hv.tupK (fun b xs e => X1.tupK M e) t1) hv2 t2 t3 fun H3 s3 => ?_
  refine k W' sn' H3 ⟨X.mono s3, sp, by rw [i1, i2]; exact i4, fun x m => ?_⟩ ((M1.trans M).trans (.same s3)) ex ⟨i1, i2, i3⟩ ?_
  · rw [i1, i2]
    rcases mem x m with z | z
    · exact D.ni x z
    · rw [z]
      exact D.im
  · rw [← sp.length, ← D.sp.length]
    exact i5
theorem core13 {K : PySem.W.Frag} {c : Cl} {H H1 : Hp} {W : SA} {A' : GA} {S S' : GS} {sn : List (List Int × List Int)} {q : Stq} {dt : Dt} {v1 : V} {a : Addr} {fl : Int} {Q R : VK} {E : XK} (D : Sd c f13 H W S sn) (ev : Ev S q dt S') (gm : GMv c H W.A A' S' H1) (hv : At H1 v1 dt) (ha : H a = some (.tup q.vs)) (ok : q.Ok S.ws.length) (efl : S.fl = fl) (hn : sn.length < 1000)
    (hR : ∀ v2 H2, sp_same 6 [v1, v2] H2 Q E → R v2 H2)
    (k : ∀ W' sn' H', Sd c f13 H' W' S' sn' → MvS W H W' H' → W'.x = W.x → Kp S S' → sn'.length ≤ sn.length + 1 → Q (.bl true) H') :
    sp_step_due13 K [.ref W.x, .int fl, .ref a] H1 R E := by
  obtain ⟨c', W', S1, S2, S3, sn', a', q', dt', e, h1, h2, h3, h4, h5, h6, h7, h8, h9⟩ := core13Q (K := K) (E := E) D ev gm hv ha ok efl hn k
  exact ⟨c', W', S1, S2, S3, sn', a', q', dt', e, h1, h2, h3, h4, h5, h6, h7, h8, fun v W2 sn2 H2 a1 a2 a3 a4 a5 a6 a7 => hR _ _ (h9 v W2 sn2 H2 a1 a2 a3 a4 a5 a6 a7)⟩
def sp_stands13 (K : PySem.W.Frag) (c : Cl) : Sp := fun vs H Q _ => ∃ (W : SA) (S : GS) (sn : List (List Int × List Int)), vs = [.ref W.x] ∧ Sd c f13 H W S sn ∧ GdK K c ∧ ∀ H', Same H H' → Q (.bl true) H'
def N_l_stands : List Str := ["_law_side_here", "_law_ground"]
def t_l_stands (K : PySem.W.Frag) (c : Cl) : TS := (tSeq (tAsg (tOp (rIxL K) (tVar 0) (tC (.int 0))) (gName 1))
  (tRet (tCall (sp_same 6) [] E0 (tCons (tLst (tCons (tProp c.k_Ground (sp_spent K c) [] E0 (tVar 1)) (tCons (tProp c.k_Ground (sp_depth K c) [] E0 (tVar 1)) (tCons (tProp c.k_Ground (sp_budget K c) [] E0 (tVar 1)) tNil)))) (tCons (tLst (tCons (tOp (rIxL K) (tVar 0) (tC (.int 4))) (tCons (tCB (rLen K) (tCons (tOp (rIxL K) (tVar 0) (tC (.int 3))) tNil)) (tCons (tOp (rIxL K) (tVar 0) (tC (.int 5))) tNil)))) tNil)))))
theorem pure_stands13 {K : PySem.W.Frag} {c : Cl} {vs : List V} {H : Hp} {Q : VK} {E : XK} (h : sp_stands13 K c vs H Q E) : t_l_stands K c { nx := fun _ H' => Q .non H', rt := Q } (start N_l_stands vs) H := by
  obtain ⟨W, S, sn, rfl, D, R, k⟩ := h
  have hx : H W.x = some (.lst [.ref W.A.g, .ref W.w, .ref W.h, .ref W.k, .int S.ch, odV S.al]) := D.X.L.hx
  have hk := D.X.L.hk
  have G := D.X.G
  unfold t_l_stands
  fold_lay
  refine i_prop G ?_
  refine ⟨W.A, S, rfl, G, R, ?_⟩
  fold_lay
  refine i_prop G ?_
  refine ⟨W.A, S, rfl, G, R, ?_⟩
  fold_lay
  refine i_prop G ?_
  refine ⟨W.A, S, rfl, G, R, ?_⟩
  fold_lay
  rename_i p hp q hq
  rw [List.length_map, D.X.L.hs.length, ← D.sp.length] at *
  refine c_same (E := E0) (d := .lst [.int S.ch, .int (S.ds.length : Nat), odT S.al]) (.lst (upd_keep hq upd_same) (.cons (.int _) (.cons (.int _) (.cons (at_odT _) .nil)))) (.lst upd_same (.cons (.int _) (.cons (.int _) (.cons (at_odT _) .nil)))) ?_ ?_ fun H1 s1 => ?_
  · cases S.al <;> simp [Dt.dep, Dt.depL, odT]
  · cases S.al <;> rfl
  exact k _ (((same_new hp).trans (same_new hq)).trans s1)
def sp_place_stands (K : PySem.W.Frag) (c : Cl) : Sp := fun vs H Q _ => ∃ (W : SA) (S : GS) (sn : List (List Int × List Int)) (p : Int), vs = [.ref W.x, .int p] ∧ Sd c f13 H W S sn ∧ GdE K c ∧ 0 ≤ p ∧ p < S.ws.length ∧ ∀ H', Same H H' → Q (.bl true) H'
def N_l_place_stands : List Str := ["_law_side_here", "_law_at"]
def t_l_place_stands (K : PySem.W.Frag) (c : Cl) : TS := (tRet (tCall (sp_same 6) [] E0 (tCons (tLst (tCons (tMeth c.k_Ground "word_at" (sp_word_at K c) [] E0 (tOp (rIxL K) (tVar 0) (tC (.int 0))) (tCons (tVar 1) tNil)) (tCons (tMeth c.k_Ground "holder_at" (sp_holder_at K c) [] E0 (tOp (rIxL K) (tVar 0) (tC (.int 0))) (tCons (tVar 1) tNil)) tNil))) (tCons (tLst (tCons (tOp (rIxL K) (tOp (rIxL K) (tVar 0) (tC (.int 1))) (tVar 1)) (tCons (tOp (rIxL K) (tOp (rIxL K) (tVar 0) (tC (.int 2))) (tVar 1)) tNil))) tNil))))
theorem pure_place_stands {K : PySem.W.Frag} {c : Cl} {vs : List V} {H : Hp} {Q : VK} {E : XK} (h : sp_place_stands K c vs H Q E) : t_l_place_stands K c { nx := fun _ H' => Q .non H', rt := Q } (start N_l_place_stands vs) H := by
  obtain ⟨W, S, sn, p, rfl, D, R, p0, p1, k⟩ := h
  have hx : H W.x = some (.lst [.ref W.A.g, .ref W.w, .ref W.h, .ref W.k, .int S.ch, odV S.al]) := D.X.L.hx
  have hw := D.X.L.hw
  have hh := D.X.L.hh
  have G := D.X.G
  have le := D.im.le
  unfold t_l_place_stands
  fold_lay
  refine i_meth G lkm_word_at ?_
  fold_lay
  refine ⟨W.A, S, _, "int", rfl, G, R, .int _, fun z => ?_, fun p' e _ _ => ?_⟩
  · simp [vR] at z
    omega
  cases e
  fold_lay
  refine i_meth G lkm_holder_at ?_
  fold_lay
  refine ⟨W.A, S, _, "int", rfl, G, R, .int _, fun z => ?_, fun p' e _ _ => ?_⟩
  · simp [vR] at z
    omega
  cases e
  fold_lay
  rename_i q1 hq1
  refine i_ixL (sqL (upd_keep hq1 hw)) (at_ints p0 p1) ?_
  fold_lay
  refine i_ixL (sqL (upd_keep hq1 hh)) (at_ints p0 (by omega)) ?_
  fold_lay
  rename_i q2 hq2
  refine c_same (E := E0) (d := .lst [.int (S.ws.getD p.toNat 0), .int (S.hs.getD p.toNat 0)]) (.lst (upd_keep hq2 upd_same) (.cons (.int _) (.cons (.int _) .nil))) (.lst upd_same (.cons (.int _) (.cons (.int _) .nil))) (by simp [Dt.dep, Dt.depL]) rfl fun H4 s4 => ?_
  exact k _ (((same_new hq1).trans (same_new hq2)).trans s4)
def sp_is_image_of (K : PySem.W.Frag) : Sp := fun vs H Q _ => ∃ (v : V) (lw lh : Addr) (w f : Int) (ws hs : List Int), vs = [v, .int w, .int f, .ref lw, .ref lh] ∧ At H v (imT w f ws hs) ∧ H lw = some (.lst (ws.map V.int)) ∧ H lh = some (.lst (hs.map V.int)) ∧ ∀ H', Same H H' → Q (.bl true) H'
def N_l_is_image_of : List Str := ["_law_actual", "_law_page_width", "_law_blank_here", "_law_words", "_law_holders_here", "_law_part", "_law_one"]
def t_l_is_image_of (K : PySem.W.Frag) : TS := (tSeq (tIfS (tOr (tNot (tB (tCB (rIsi K) (tCons (tVar 0) (tCons (tC (.ty "tuple")) tNil))))) (tTest (tOp rNe (tCB (rLen K) (tCons (tVar 0) tNil)) (tC (.int 4))))) (tRet (tC (.bl false))) tNext)
  (tSeq (tIfS (tNot (tB (tCall (sp_same 6) [] E0 (tCons (tSl (rSlT K) (tVar 0) tNoPart (tPart (tC (.int 2)))) (tCons (tTup (tCons (tVar 1) (tCons (tVar 2) tNil))) tNil))))) (tRet (tC (.bl false))) tNext)
  (tSeq (tFor (iTup K (tSl (rSlT K) (tVar 0) (tPart (tC (.int 2))) tNoPart)) (gName 5) (tIfS (tOr (tNot (tB (tCB (rIsi K) (tCons (tVar 5) (tCons (tC (.ty "tuple")) tNil))))) (tTest (tOp oGt (tCB (rLen K) (tCons (tLc (iTup K (tVar 5)) (gName 6) (tNot (tB (tCall (sp_is_int K) [] E0 (tCons (tVar 6) tNil)))) (tVar 6) [6]) tNil)) (tC (.int 0))))) (tRet (tC (.bl false))) tNext))
  (tRet (tAndV (tOp (rEqD K) (tOp (rIxT K) (tVar 0) (tC (.int 2))) (tCB (rTupleOf K) (tCons (tVar 3) tNil))) (tOp (rEqD K) (tOp (rIxT K) (tVar 0) (tC (.int 3))) (tCB (rTupleOf K) (tCons (tVar 4) tNil))))))))
theorem pure_is_image_of {K : PySem.W.Frag} {vs : List V} {H : Hp} {Q : VK} {E : XK} (h : sp_is_image_of K vs H Q E) : t_l_is_image_of K { nx := fun _ H' => Q .non H', rt := Q } (start N_l_is_image_of vs) H := by
  obtain ⟨v, lw, lh, w, f, ws, hs, rfl, hv, hw, hh, k⟩ := h
  obtain ⟨a, a3, a4, rfl, ha, h3, h4⟩ := imT_at hv
  clear hv
  have ty1 : Ty0 H (.ref a) "tuple" := .tup ha
  show t_l_is_image_of K _ [some (.ref a), some (.int w), some (.int f), some (.ref lw), some (.ref lh), none, none] H
  unfold t_l_is_image_of
  fold_lay
  fold_depth
  refine i_ifn (fun z => absurd rfl z) (fun _ => ?_)
  fold_lay
  fold_depth
  refine i_slT (lo := none) (hi := some 2) ha (by simp [HT.sIx]) fun p hp => ?_
  have hp1 : upd H p (.tup (cutV [.int w, .int f, .ref a3, .ref a4] none (some 2))) p = some (.tup [.int w, .int f]) := upd_same
  have s2 := same_new (o := .tup (cutV [.int w, .int f, .ref a3, .ref a4] none (some 2))) hp
  generalize upd H p (.tup (cutV [.int w, .int f, .ref a3, .ref a4] none (some 2))) = H2 at *
  fold_lay
  rename_i q hq
  have sq := same_new (o := .tup [.int w, .int f]) hq
  refine c_same (E := E0) (d := .tup [.int w, .int f]) (.tup (sq _ _ hp1) (.cons (.int _) (.cons (.int _) .nil))) (.tup upd_same (.cons (.int _) (.cons (.int _) .nil))) (by simp [Dt.dep, Dt.depL]) (by simp [Dt.okd, Dt.okL]) fun H3 s3 => ?_
  have s03 := s2.trans (sq.trans s3)
  have ha := s03 _ _ ha
  have h3 := s03 _ _ h3
  have h4 := s03 _ _ h4
  have hw := s03 _ _ hw
  have hh := s03 _ _ hh
  clear ty1 s2 sq s3 hp hp1 hq
  fold_lay
  fold_depth
  refine i_slT (lo := some 2) (hi := none) ha (by simp [HT.sIx]) fun p hp => ?_
  have hp1 : upd H3 p (.tup (cutV [.int w, .int f, .ref a3, .ref a4] (some 2) none)) p = some (.tup [.ref a3, .ref a4]) := upd_same
  have s2 := same_new (o := .tup (cutV [.int w, .int f, .ref a3, .ref a4] (some 2) none)) hp
  generalize upd H3 p (.tup (cutV [.int w, .int f, .ref a3, .ref a4] (some 2) none)) = H4 at *
  refine f_tup (sqT hp1) (l_tup (xs := [.ref a3, .ref a4]) (fun i σ' H' => Same H4 H' ∧ ∃ x y, σ' = [some (.ref a), some (.int w), some (.int f), some (.ref lw), some (.ref lh), x, y]) ⟨Same.refl _, _, _, rfl⟩ (fun i σ' H' _ h => sqT (h.1 _ _ hp1)) ?_ ?_)
  · rintro i x σ' H5 hi ⟨s5, y0, y1, rfl⟩
    obtain ⟨u, l, rfl, hu⟩ : ∃ (u : Addr) (l : List Int), x = .ref u ∧ H5 u = some (.tup (l.map V.int)) := by
      have m := List.mem_of_getElem? hi
      simp only [List.mem_cons, List.not_mem_nil, or_false] at m
      rcases m with rfl | rfl
      · exact ⟨_, _, rfl, s5 _ _ (s2 _ _ h3)⟩
      · exact ⟨_, _, rfl, s5 _ _ (s2 _ _ h4)⟩
    have ty : Ty0 H5 (.ref u) "tuple" := .tup hu
    fold_lay
    refine c_tup (sqT hu) (m_tup (xs := l.map V.int) (fun D i H' => Same H5 H' ∧ H5 D = none ∧ H' D = some (.lst [])) (fun D hD => ⟨same_new hD, hD, upd_same⟩) (fun D i H' _ h => sqT (h.1 _ _ hu)) ?_ ?_)
    · rintro D j x H6 hj ⟨s6, d0, d1⟩
      obtain ⟨t1, t2⟩ := int_ty (H := H6) (List.mem_of_getElem? hj)
      fold_lay
      refine ⟨rfl, ?_⟩
      fold_lay
      refine c_is_int t1 ?_
      rw [t2]
      fold_lay
      exact ⟨s6, d0, d1⟩
    · rintro D H6 ⟨s6, d0, d1⟩
      fold_lay
      refine i_no (by decide) ?_
      fold_lay
      exact ⟨s5.trans s6, _, _, rfl⟩
  · rintro σ' H5 ⟨s5, y0, y1, rfl⟩
    have s35 := s2.trans s5
    have ha := s35 _ _ ha
    have h3 := s35 _ _ h3
    have h4 := s35 _ _ h4
    have hw5 := s35 _ _ hw
    have hh5 := s35 _ _ hh
    clear hp hp1 s2 s5
    fold_lay
    refine ⟨lw, _, rfl, .inl ⟨sqL hw5, fun p1 hp1 => ?_⟩⟩
    refine i_eqInts (upd_keep hp1 h3) upd_same ?_
    fold_lay
    refine ⟨lh, _, rfl, .inl ⟨sqL (upd_keep hp1 hh5), fun p2 hp2 => ?_⟩⟩
    refine i_eqInts (upd_keep hp2 (upd_keep hp1 h4)) upd_same ?_
    exact k _ (s03.trans (s35.trans ((same_new hp1).trans (same_new hp2))))
def sp_image_stands (K : PySem.W.Frag) (c : Cl) : Sp := fun vs H Q _ => ∃ (W : SA) (S : GS) (sn : List (List Int × List Int)) (sz : Addr) (pg : Int), vs = [.ref W.x, .ref sz] ∧ H sz = some (.tup [.int pg, .int S.wd, .int S.fl]) ∧ Sd c f13 H W S sn ∧ GdK K c ∧ ∀ H', Same H H' → Q (.bl true) H'
def N_l_image_stands : List Str := ["_law_side_here", "_law_size"]
def t_l_image_stands (K : PySem.W.Frag) (c : Cl) : TS := (tRet (tCall (sp_is_image_of K) [] E0 (tCons (tMeth c.k_Ground "image" (sp_image K c) [] E0 (tOp (rIxL K) (tVar 0) (tC (.int 0))) tNil) (tCons (tOp (rIxT K) (tVar 1) (tC (.int 1))) (tCons (tOp (rIxT K) (tVar 1) (tC (.int 2))) (tCons (tOp (rIxL K) (tVar 0) (tC (.int 1))) (tCons (tOp (rIxL K) (tVar 0) (tC (.int 2))) tNil)))))))
theorem pure_image_stands {K : PySem.W.Frag} {c : Cl} {vs : List V} {H : Hp} {Q : VK} {E : XK} (h : sp_image_stands K c vs H Q E) : t_l_image_stands K c { nx := fun _ H' => Q .non H', rt := Q } (start N_l_image_stands vs) H := by
  obtain ⟨W, S, sn, sz, pg, rfl, hz, D, R, k⟩ := h
  have hx : H W.x = some (.lst [.ref W.A.g, .ref W.w, .ref W.h, .ref W.k, .int S.ch, odV S.al]) := D.X.L.hx
  have G := D.X.G
  unfold t_l_image_stands
  fold_lay
  refine i_meth G lkm_image ?_
  fold_lay
  refine ⟨W.A, S, rfl, G, R, fun v H1 hv s1 => ?_⟩
  have D1 := D.mono s1
  have hx1 := s1 _ _ hx
  have hz1 := s1 _ _ hz
  clear hx hz G
  fold_lay
  exact ⟨v, W.w, W.h, S.wd, S.fl, S.ws, S.hs, rfl, hv.mono nw_same, D1.X.L.hw, D1.X.L.hh, fun H2 s2 => k H2 (s1.trans s2)⟩
def sp_asked13 (K : PySem.W.Frag) (c : Cl) : Sp := fun vs H Q _ => ∃ (W : SA) (S : GS) (sn : List (List Int × List Int)) (sz a : Addr) (pg wd : Int) (q : Stq), vs = [.ref W.x, .ref sz, .ref a] ∧ H sz = some (.tup [.int pg, .int wd, .int S.fl]) ∧ H a = some (.tup q.vs) ∧ q.Ok S.ws.length ∧ Sd c f13 H W S sn ∧ K13K K c ∧ sn.length < 900 ∧
  ∀ W' S' sn' H', Sd c f13 H' W' S' sn' → MvS W H W' H' → W'.x = W.x → Kp S S' → sn'.length ≤ sn.length + 1 → Q (.bl true) H'
def N_l_asked : List Str := ["_law_side_here", "_law_size", "_law_step_here", "_law_played_here"]
def t_l_asked (K : PySem.W.Frag) (c : Cl) : TS := (tSeq (tAsg (tCall (sp_played13 K c) [] E0 (tCons (tOp (rIxL K) (tVar 0) (tC (.int 0))) (tCons (tVar 2) tNil))) (gName 3))
  (tRet (tAndV (tCall (sp_same 6) [] E0 (tCons (tVar 3) (tCons (tCall (sp_step_due13 K) [] E0 (tCons (tVar 0) (tCons (tOp (rIxT K) (tVar 1) (tC (.int 2))) (tCons (tVar 2) tNil)))) tNil))) (tCall (sp_stands13 K c) [] E0 (tCons (tVar 0) tNil)))))
theorem pure_asked13 {K : PySem.W.Frag} {c : Cl} {vs : List V} {H : Hp} {Q : VK} {E : XK} (h : sp_asked13 K c vs H Q E) : t_l_asked K c { nx := fun _ H' => Q .non H', rt := Q } (start N_l_asked vs) H := by
  obtain ⟨W, S, sn, sz, a, pg, wd, q, rfl, hz, ha, ok, D, k13, sl, k⟩ := h
  have hx : H W.x = some (.lst [.ref W.A.g, .ref W.w, .ref W.h, .ref W.k, .int S.ch, odV S.al]) := D.X.L.hx
  unfold t_l_asked
  fold_lay
  refine ⟨W.A, S, a, q, rfl, ha, ok, D.X.G, k13, by have := D.sp.length; omega, fun v dt A' S' H1 ev gm hv => ?_⟩
  have hz1 := D.X.tupK (D.X.ground (F := fpA W.A) (fun _ m => m) gm.out gm.G gm.g gm.gr).2 hz
  fold_lay
  refine core13 (E := E0) (Q := ?Q) D ev gm hv ha ok rfl (by omega) ?hR ?hk
  case hR =>
    intro v2 H2 h
    fold_lay
    exact h
  intro W' sn' H2 D2 M2 ex kp sl2
  fold_lay
  exact ⟨W', S', sn', by rw [ex]; rfl, D2, k13.ge.gk, fun H3 s3 => k W' S' sn' H3 (D2.mono s3) (M2.trans (.same s3)) ex kp sl2⟩
/-! ## K13f -/
/-! ### k13: sides made, steps drawn -/
def newS (p w f : Int) (al : Option Int) : GS := { pg := p, wd := w, fl := f, al := al, ch := 0, ws := List.replicate (p * w).toNat f, hs := List.replicate (p * w).toNat 0, ds := [] }
structure SzOk (p w f : Int) (al : Option Int) : Prop where
  p0 : 1 ≤ p
  p1 : p ≤ 256
  hw : w = 16 ∨ w = 32 ∨ w = 64
  hf : isWd f
  ha : ∀ a, al = some a → 0 ≤ a ∧ a ≤ 1000000000
theorem SzOk.im {p w f : Int} {al : Option Int} (h : SzOk p w f al) : ImOk w f (newS p w f al).ws (newS p w f al).hs := by
  obtain ⟨p0, p1, hw, hf, _⟩ := h
  refine ⟨hw, hf, ?_, ?_, ?_, ?_, fun x m => ?_, fun x m => ?_⟩
  · simp [newS]
  · simp only [newS, List.length_replicate]
    rcases hw with rfl | rfl | rfl <;> omega
  · simp only [newS, List.length_replicate]
    rcases hw with rfl | rfl | rfl <;> omega
  · simp only [newS, List.length_replicate]
    rcases hw with rfl | rfl | rfl <;> omega
  · rw [(List.mem_replicate.mp m).2]
    exact hf
  · rw [(List.mem_replicate.mp m).2]
    decide
def gv_Ground_2_fill (vs zs : List V) : List V := vs ++ zs ++ [.non]
def gv_Ground_2_fill_budget (vs zs : List V) : List V := vs ++ zs
def sp_made13 (K : PySem.W.Frag) (c : Cl) : Sp := fun vs H Q _ => ∃ (sz : Addr) (p w f : Int) (al : Option Int), vs = [.ref sz, odV al] ∧ H sz = some (.tup [.int p, .int w, .int f]) ∧ GdE K c ∧ KTup K c.x_WIDTHS [16, 32, 64] ∧ SzOk p w f al ∧
  ∀ A H', Gd c H' A (newS p w f al) → A.dd = [] → (∀ a ∈ fpA A, H a = none) → Same H H' → Q (.ref A.g) H'
def N_l_made : List Str := ["_law_size", "_law_purse"]
def t_l_made (K : PySem.W.Frag) (c : Cl) : TS := (tSeq (tIfS (tAnd (tTest (tOp oIsN (tVar 1) (tC .non))) (tTest (tOp rEq (tOp (rIxT K) (tVar 0) (tC (.int 2))) (tC (.int 0))))) (tRet (tMake c.k_Ground (sp_ground_init K c) [(.int 0), .non] E0 (tCons (tOp (rIxT K) (tVar 0) (tC (.int 0))) (tCons (tOp (rIxT K) (tVar 0) (tC (.int 1))) tNil)))) tNext)
  (tSeq (tIfS (tTest (tOp oIsN (tVar 1) (tC .non))) (tRet (tMakeK c.k_Ground 2 1 (sp_ground_init K c) (gv_Ground_2_fill) E0 (tCons (tOp (rIxT K) (tVar 0) (tC (.int 0))) (tCons (tOp (rIxT K) (tVar 0) (tC (.int 1))) tNil)) (tCons (tOp (rIxT K) (tVar 0) (tC (.int 2))) tNil))) tNext)
  (tRet (tMakeK c.k_Ground 2 2 (sp_ground_init K c) (gv_Ground_2_fill_budget) E0 (tCons (tOp (rIxT K) (tVar 0) (tC (.int 0))) (tCons (tOp (rIxT K) (tVar 0) (tC (.int 1))) tNil)) (tCons (tOp (rIxT K) (tVar 0) (tC (.int 2))) (tCons (tVar 1) tNil))))))
theorem pure_made13 {K : PySem.W.Frag} {c : Cl} {vs : List V} {H : Hp} {Q : VK} {E : XK} (h : sp_made13 K c vs H Q E) : t_l_made K c { nx := fun _ H' => Q .non H', rt := Q } (start N_l_made vs) H := by
  obtain ⟨sz, p, w, f, al, rfl, hz, R, hT, ⟨p0, p1, hw, hf, ha⟩, k⟩ := h
  show t_l_made K c _ [some (.ref sz), some (odV al)] H
  unfold t_l_made
  cases al with
  | none =>
    fold_lay
    fold_depth
    refine i_ifd (fun _ => ?_) (fun z => absurd rfl z)
    by_cases f0 : f = 0
    · subst f0
      fold_lay
      refine i_ifd (fun _ => ?_) (fun z => absurd rfl z)
      fold_lay
      exact mk_ground R hT p0 p1 hw hf (al := none) (fun _ z => by cases z) fun A H2 G eA nA s2 => k A H2 G eA nA s2
    · fold_lay
      refine i_ifd (fun z => absurd z f0) (fun _ => ?_)
      fold_lay
      fold_depth
      refine i_ifd (fun _ => ?_) (fun z => absurd rfl z)
      fold_lay
      exact ⟨rfl, rfl, mk_ground R hT p0 p1 hw hf (al := none) (fun _ z => by cases z) fun A H2 G eA nA s2 => k A H2 G eA nA s2⟩
  | some a =>
    fold_lay
    fold_depth
    refine i_ifd (fun z => by cases z) (fun _ => ?_)
    fold_lay
    fold_depth
    refine i_ifd (fun z => by cases z) (fun _ => ?_)
    fold_lay
    exact ⟨rfl, rfl, mk_ground R hT p0 p1 hw hf (al := some a) ha fun A H2 G eA nA s2 => k A H2 G eA nA s2⟩
def sp_side (K : PySem.W.Frag) (c : Cl) : Sp := fun vs H Q _ => ∃ (sz : Addr) (p w f : Int) (al : Option Int), vs = [.ref sz, odV al] ∧ H sz = some (.tup [.int p, .int w, .int f]) ∧ GdE K c ∧ KTup K c.x_WIDTHS [16, 32, 64] ∧ SzOk p w f al ∧
  ∀ W H', Sd c f13 H' W (newS p w f al) [] → (∀ a ∈ fpS W, H a = none) → Same H H' → Q (.ref W.x) H'
def N_l_side : List Str := ["_law_size", "_law_purse", "_law_many"]
def t_l_side (K : PySem.W.Frag) (c : Cl) : TS := (tSeq (tAsg (tOp oMul (tOp (rIxT K) (tVar 0) (tC (.int 0))) (tOp (rIxT K) (tVar 0) (tC (.int 1)))) (gName 2))
  (tRet (tLst (tCons (tCall (sp_made13 K c) [] E0 (tCons (tVar 0) (tCons (tVar 1) tNil))) (tCons (tOp rRep (tLst (tCons (tOp (rIxT K) (tVar 0) (tC (.int 2))) tNil)) (tVar 2)) (tCons (tOp rRep (tLst (tCons (tC (.int 0)) tNil)) (tVar 2)) (tCons (tLst tNil) (tCons (tC (.int 0)) (tCons (tVar 1) tNil)))))))))
theorem pure_side {K : PySem.W.Frag} {c : Cl} {vs : List V} {H : Hp} {Q : VK} {E : XK} (h : sp_side K c vs H Q E) : t_l_side K c { nx := fun _ H' => Q .non H', rt := Q } (start N_l_side vs) H := by
  obtain ⟨sz, p, w, f, al, rfl, hz, R, hT, ok, k⟩ := h
  obtain ⟨p0, p1, hw, hf, ha⟩ := ok
  have pw0 : 16 ≤ p * w := by rcases hw with rfl | rfl | rfl <;> omega
  have pw1 : p * w ≤ 16384 := by rcases hw with rfl | rfl | rfl <;> omega
  have cm : CMul p w := by rcases hw with rfl | rfl | rfl <;> exact cmul_r (by omega) (by omega)
  show t_l_side K c _ [some (.ref sz), some (odV al), none] H
  unfold t_l_side
  fold_lay
  refine ⟨sz, p, w, f, al, rfl, hz, R, hT, ⟨p0, p1, hw, hf, ha⟩, fun A H1 G eA nA s1 => ?_⟩
  have hz1 := s1 _ _ hz
  fold_lay
  rename_i q1 hq1
  refine i_rep upd_same (by omega) (by omega) fun lw hlw => ?_
  rw [rep_map] at *
  fold_lay
  rename_i q2 hq2
  refine i_rep upd_same (by omega) (by omega) fun lh hlh => ?_
  rw [rep_map] at *
  fold_lay
  rename_i lk hlk x hx
  have e1 : lw ≠ q1 := Ne.symm (ne_of_none upd_same hlw)
  have lA : ∀ b ∈ fpA A, ∃ o, H1 b = some o := fun b m => (G.live b m).elim fun o e => ⟨o, e.1⟩
  have s2 := (same_new (o := .lst [.int f]) hq1)
  have s3 := s2.trans (same_new (o := .lst ((List.replicate (p * w).toNat f).map V.int)) hlw)
  have s4 := s3.trans (same_new (o := .lst [.int 0]) hq2)
  have s5 := s4.trans (same_new (o := .lst ((List.replicate (p * w).toNat 0).map V.int)) hlh)
  have s6 := s5.trans (same_new (o := .lst []) hlk)
  have s7 := s6.trans (same_new (o := .lst [.ref A.g, .ref lw, .ref lh, .ref lk, .int 0, odV al]) hx)
  have gw : upd (upd (upd (upd (upd (upd H1 q1 (.lst [.int f])) lw (.lst ((List.replicate (p * w).toNat f).map V.int))) q2 (.lst [.int 0])) lh (.lst ((List.replicate (p * w).toNat 0).map V.int))) lk (.lst [])) x (.lst [.ref A.g, .ref lw, .ref lh, .ref lk, .int 0, odV al]) lw = some (.lst ((List.replicate (p * w).toNat f).map V.int)) := upd_keep hx (upd_keep hlk (upd_keep hlh (upd_keep hq2 upd_same)))
  have gh : upd (upd (upd (upd (upd (upd H1 q1 (.lst [.int f])) lw (.lst ((List.replicate (p * w).toNat f).map V.int))) q2 (.lst [.int 0])) lh (.lst ((List.replicate (p * w).toNat 0).map V.int))) lk (.lst [])) x (.lst [.ref A.g, .ref lw, .ref lh, .ref lk, .int 0, odV al]) lh = some (.lst ((List.replicate (p * w).toNat 0).map V.int)) := upd_keep hx (upd_keep hlk upd_same)
  have gk : upd (upd (upd (upd (upd (upd H1 q1 (.lst [.int f])) lw (.lst ((List.replicate (p * w).toNat f).map V.int))) q2 (.lst [.int 0])) lh (.lst ((List.replicate (p * w).toNat 0).map V.int))) lk (.lst [])) x (.lst [.ref A.g, .ref lw, .ref lh, .ref lk, .int 0, odV al]) lk = some (.lst []) := upd_keep hx upd_same
  have gx : upd (upd (upd (upd (upd (upd H1 q1 (.lst [.int f])) lw (.lst ((List.replicate (p * w).toNat f).map V.int))) q2 (.lst [.int 0])) lh (.lst ((List.replicate (p * w).toNat 0).map V.int))) lk (.lst [])) x (.lst [.ref A.g, .ref lw, .ref lh, .ref lk, .int 0, odV al]) x = some (.lst [.ref A.g, .ref lw, .ref lh, .ref lk, .int 0, odV al]) := upd_same
  have w1 : H1 lw = none := free2 hlw s2
  have w2 : H1 lh = none := free2 hlh s4
  have w3 : H1 lk = none := free2 hlk s5
  have w4 : H1 x = none := free2 hx s6
  have e21 : lh ≠ lw := Ne.symm (ne_of_none (upd_keep hq2 upd_same) hlh)
  have e32 : lk ≠ lh := Ne.symm (ne_of_none upd_same hlk)
  have e31 : lk ≠ lw := Ne.symm (ne_of_none (upd_keep hlh (upd_keep hq2 upd_same)) hlk)
  have e43 : x ≠ lk := Ne.symm (ne_of_none upd_same hx)
  have e42 : x ≠ lh := Ne.symm (ne_of_none (upd_keep hlk upd_same) hx)
  have e41 : x ≠ lw := Ne.symm (ne_of_none (upd_keep hlk (upd_keep hlh (upd_keep hq2 upd_same))) hx)
  generalize upd (upd (upd (upd (upd (upd H1 q1 (.lst [.int f])) lw (.lst ((List.replicate (p * w).toNat f).map V.int))) q2 (.lst [.int 0])) lh (.lst ((List.replicate (p * w).toNat 0).map V.int))) lk (.lst [])) x (.lst [.ref A.g, .ref lw, .ref lh, .ref lk, .int 0, odV al]) = H2 at *
  have dead : ∀ {b}, H1 b = none → b ∉ fpA A := fun e m => by
    obtain ⟨o, q⟩ := lA _ m
    rw [e] at q
    cases q
  refine k ⟨x, lw, lh, lk, A, []⟩ H2 ⟨⟨⟨gx, gw, gh, gk, .nil⟩, G.mono s7, by simp [fpT, e21, e32, e31, e43, e42, e41, Ne.symm e21, Ne.symm e32, Ne.symm e31], fun b m => ?_⟩, .nil, SzOk.im ⟨p0, p1, hw, hf, ha⟩, fun x m => by cases m⟩ (fun b m => ?_) (s1.trans s7)
  · simp only [fpSL, fpT, List.flatMap_nil, List.mem_cons, List.not_mem_nil, or_false] at m
    rcases m with rfl | rfl | rfl | rfl
    · exact dead w4
    · exact dead w1
    · exact dead w2
    · exact dead w3
  · rcases List.mem_append.mp m with m | m
    · simp only [fpSL, fpT, List.flatMap_nil, List.mem_cons, List.not_mem_nil, or_false] at m
      rcases m with rfl | rfl | rfl | rfl
      · exact free2 w4 s1
      · exact free2 w1 s1
      · exact free2 w2 s1
      · exact free2 w3 s1
    · exact nA b m
theorem SksT.get {H : Hp} : ∀ {ks : List (Addr × Addr × Addr)} {sn : List (List Int × List Int)} {i : Nat}, SksT H ks sn → i < ks.length → ∃ e x, ks[i]? = some e ∧ x ∈ sn ∧ H e.1 = some (.tup [.ref e.2.1, .ref e.2.2]) ∧ H e.2.1 = some (.lst (x.1.map V.int)) ∧ H e.2.2 = some (.lst (x.2.map V.int))
  | _, _, 0, .cons h1 h2 h3 r, _ => ⟨_, _, rfl, List.mem_cons_self, h1, h2, h3⟩
  | _, _, i + 1, .cons h1 h2 h3 r, l => by
    obtain ⟨e, x, a, b, z⟩ := SksT.get (i := i) r (Nat.lt_of_succ_lt_succ l)
    exact ⟨e, x, a, List.mem_cons_of_mem _ b, z⟩
theorem diff_mem {ws hs w0 h0 : List Int} {j : Nat} (h : j ∈ diffL ws hs w0 h0) : j < ws.length := by
  unfold diffL at h
  exact List.mem_range.mp (List.mem_filter.mp h).1
theorem diff_len {ws hs w0 h0 : List Int} : (diffL ws hs w0 h0).length ≤ ws.length := by
  unfold diffL
  have := List.length_filter_le (dif ws hs w0 h0) (List.range ws.length)
  rwa [List.length_range] at this
def sp_back_step (K : PySem.W.Frag) : Sp := fun vs H Q _ => ∃ (c : Cl) (d s : Addr) (W : SA) (S : GS) (sn : List (List Int × List Int)), vs = [.ref d, .ref W.x] ∧ Dr d s H ∧ Off d s (fpS W) H ∧ Sd c f13 H W S sn ∧ sn.length < 2000 ∧
  (∀ H', Dr d s H' → Same (hid s H) (hid s H') → Q .non H') ∧ ∀ a (q : Deed) H', H' a = some (.tup q.vs) → q.Ok S.ws.length → Dr d s H' → Same (hid s H) (hid s H') → Q (.ref a) H'
def N_l_back_step : List Str := ["_law_draws_here", "_law_side_here", "_law_old", "_law_rest", "_law_at"]
def t_l_back_step (K : PySem.W.Frag) : TS := (tSeq (tIfS (tTest (tOp rEq (tCB (rLen K) (tCons (tOp (rIxL K) (tVar 1) (tC (.int 3))) tNil)) (tC (.int 0)))) (tRet (tC .non)) tNext)
  (tSeq (tAsg (tOp (rIxL K) (tOp (rIxL K) (tVar 1) (tC (.int 3))) (tOp oMul (tCall sp_take [] E0 (tCons (tVar 0) (tCons (tC (.int 2)) tNil))) (tOp oSub (tCB (rLen K) (tCons (tOp (rIxL K) (tVar 1) (tC (.int 3))) tNil)) (tC (.int 1))))) (gName 2))
  (tSeq (tAsg (tCall (sp_differing K) [] E0 (tCons (tVar 2) (tCons (tVar 1) tNil))) (gName 3))
  (tSeq (tIfS (tTest (tOp rEq (tCB (rLen K) (tCons (tVar 3) tNil)) (tC (.int 0)))) (tRet (tC .non)) tNext)
  (tSeq (tAsg (tCall (sp_among K) [] E0 (tCons (tVar 0) (tCons (tVar 3) tNil))) (gName 4))
  (tSeq (tIfS (tTest (tOp rNe (tOp (rIxL K) (tOp (rIxL K) (tVar 1) (tC (.int 2))) (tVar 4)) (tOp (rIxL K) (tOp (rIxT K) (tVar 2) (tC (.int 1))) (tVar 4)))) (tRet (tTup (tCons (tC (.str "pass_on")) (tCons (tVar 4) (tCons (tC (.int 1)) (tCons (tOp (rIxL K) (tOp (rIxL K) (tVar 1) (tC (.int 2))) (tVar 4)) (tCons (tOp (rIxL K) (tOp (rIxT K) (tVar 2) (tC (.int 1))) (tVar 4)) tNil))))))) tNext)
  (tRet (tTup (tCons (tC (.str "poke")) (tCons (tVar 4) (tCons (tOp (rIxL K) (tOp (rIxT K) (tVar 2) (tC (.int 0))) (tVar 4)) tNil)))))))))))
theorem pure_back_step {K : PySem.W.Frag} {vs : List V} {H : Hp} {Q : VK} {E : XK} (h : sp_back_step K vs H Q E) : t_l_back_step K { nx := fun _ H' => Q .non H', rt := Q } (start N_l_back_step vs) H := by
  obtain ⟨c, d, s, W, S, sn, rfl, hD, hO, D, sl, kN, kD⟩ := h
  have hx : H W.x = some (.lst [.ref W.A.g, .ref W.w, .ref W.h, .ref W.k, .int S.ch, odV S.al]) := D.X.L.hx
  have hk := D.X.L.hk
  have kl := D.X.L.hs.length
  obtain ⟨l0, l1⟩ := D.im.len
  have le := D.im.le
  show t_l_back_step K _ [some (.ref d), some (.ref W.x), none, none, none] H
  unfold t_l_back_step
  fold_lay
  fold_depth
  rw [List.length_map, kl]
  refine i_ifd (fun z => ?_) (fun z => ?_)
  · fold_lay
    exact kN H hD (Same.refl _)
  fold_lay
  refine ⟨d, s, 2, rfl, hD, by omega, fun v H1 v0 v1 hD1 s1 => ?_⟩
  have D1 : Sd c f13 H1 W S sn := (wS c f13).keep (w := ⟨W, S, sn⟩) D (KeepOn.hid s1 hD.nt hO.1)
  have hx1 : H1 W.x = some (.lst [.ref W.A.g, .ref W.w, .ref W.h, .ref W.k, .int S.ch, odV S.al]) := D1.X.L.hx
  have hk1 := D1.X.L.hk
  clear hx hk
  fold_lay
  rw [List.length_map, kl]
  have z0 : 0 < sn.length := by omega
  have vi : v = 0 ∨ v = 1 := by omega
  have ix : ∃ i : Nat, v * ((sn.length : Int) - 1) = i ∧ i < W.ks.length := by
    rcases vi with rfl | rfl
    · exact ⟨0, by omega, by omega⟩
    · exact ⟨sn.length - 1, by omega, by omega⟩
  obtain ⟨i, ei, il⟩ := ix
  obtain ⟨e, x, ek, xm, g1, g2, g3⟩ := D1.X.L.hs.get il
  rw [ei]
  refine i_ixL (sqL hk1) (at_of (j := i) (v := .ref e.1) rfl (by rw [List.getElem?_map, ek]; rfl)) ?_
  have hw1 := D1.X.L.hw
  have hh1 := D1.X.L.hh
  obtain ⟨lx1, lx2⟩ := D.sp.len x xm
  have imx := D.ni x xm
  fold_lay
  refine ⟨e.1, W.x, e.2.1, e.2.2, W.w, W.h, .ref W.A.g, _, S.ws, S.hs, x.1, x.2, rfl, g1, hx1, hw1, hh1, g2, g3, le.symm, lx1, by omega, by omega, fun l H2 hl0 hl s2 => ?_⟩
  have hx2 := s2 _ _ hx1
  have hw2 := s2 _ _ hw1
  have hh2 := s2 _ _ hh1
  have g12 := s2 _ _ g1
  have g22 := s2 _ _ g2
  have g32 := s2 _ _ g3
  have hD2 := hD1.same s2
  have s12 := s1.trans (hid_mono s2)
  clear hx1 hw1 hh1 g1 g2 g3 hk1
  fold_lay
  fold_depth
  rw [List.length_map]
  refine i_ifd (fun z => ?_) (fun z => ?_)
  · fold_lay
    exact kN H2 hD2 s12
  fold_lay
  have nls : l ≠ s := fun z => by
    obtain ⟨_, ⟨o2, e2⟩, _⟩ := hD1.live
    rw [z, e2] at hl0
    cases hl0
  refine c_among hD2 hl nls (by rw [List.length_map]; omega) (by rw [List.length_map]; have := diff_len (ws := S.ws) (hs := S.hs) (w0 := x.1) (h0 := x.2); omega) fun v H3 hv hD3 s3 => ?_
  obtain ⟨j, jm, rfl⟩ := List.mem_map.mp hv
  have jl := diff_mem jm
  have D2 := D1.mono s2
  have D3 : Sd c f13 H3 W S sn := (wS c f13).keep (w := ⟨W, S, sn⟩) D2 (KeepOn.hid s3 hD2.nt hO.1)
  obtain ⟨e', x', ek', xm', h1, h2, h3⟩ := D3.X.L.hs.get il
  obtain rfl : e = e' := Option.some.inj (ek.symm.trans ek')
  have hx3 : H3 W.x = some (.lst [.ref W.A.g, .ref W.w, .ref W.h, .ref W.k, .int S.ch, odV S.al]) := D3.X.L.hx
  have hh3 := D3.X.L.hh
  obtain ⟨lx1', lx2'⟩ := D.sp.len x' xm'
  have imx' := D.ni x' xm'
  have s13 := s12.trans s3
  have ah : atI (S.hs.map V.int) (j : Int) = some (.int (S.hs.getD j 0)) := at_ints (by omega) (by omega)
  have ax : atI (x'.2.map V.int) (j : Int) = some (.int (x'.2.getD j 0)) := at_ints (by omega) (by omega)
  have aw : atI (x'.1.map V.int) (j : Int) = some (.int (x'.1.getD j 0)) := at_ints (by omega) (by omega)
  clear hx2 hw2 hh2 g12 g22 g32 hl
  fold_lay
  fold_depth
  refine i_ixL (sqL hh3) ah ?_
  fold_lay
  refine i_ixL (sqL h3) ax ?_
  fold_lay
  refine i_ifn (fun _ => ?_) (fun _ => ?_)
  · fold_lay
    refine i_ixL (sqL hh3) ah ?_
    fold_lay
    refine i_ixL (sqL h3) ax ?_
    fold_lay
    rename_i p hp
    exact kD p (.ps j 1 (S.hs.getD j 0) (x'.2.getD j 0)) _ upd_same ⟨by omega, by omega, by omega, getD_of D.im.ah (by decide), getD_of imx'.ah (by decide)⟩ (hD3.same (same_new hp)) (s13.trans (hid_mono (same_new hp)))
  · fold_lay
    refine i_ixL (sqL h2) aw ?_
    fold_lay
    rename_i p hp
    exact kD p (.pk j (x'.1.getD j 0)) _ upd_same ⟨by omega, by omega, getD_of imx'.aw (by decide)⟩ (hD3.same (same_new hp)) (s13.trans (hid_mono (same_new hp)))
def sp_step (K : PySem.W.Frag) : Sp := fun vs H Q _ => ∃ (c : Cl) (d s : Addr) (W : SA) (S : GS) (sn : List (List Int × List Int)), vs = [.ref d, .ref W.x, .int S.fl] ∧ Dr d s H ∧ Off d s (fpS W) H ∧ Sd c f13 H W S sn ∧ sn.length < 2000 ∧
  ∀ a (q : Stq) H', H' a = some (.tup q.vs) → q.Ok S.ws.length → Dr d s H' → Same (hid s H) (hid s H') → Q (.ref a) H'
def N_l_step : List Str := ["_law_draws_here", "_law_side_here", "_law_blank_here", "_law_kind", "_law_step_here"]
def t_l_step (K : PySem.W.Frag) : TS := (tSeq (tAsg (tCall sp_take [] E0 (tCons (tVar 0) (tCons (tC (.int 12)) tNil))) (gName 3))
  (tSeq (tIfS (tTest (tOp oLt (tVar 3) (tC (.int 2)))) (tRet (tTup (tCons (tC (.str "begin")) tNil))) tNext)
  (tSeq (tIfS (tOr (tTest (tOp rEq (tVar 3) (tC (.int 2)))) (tTest (tOp rEq (tVar 3) (tC (.int 3))))) (tRet (tTup (tCons (tC (.str "commit")) tNil))) tNext)
  (tSeq (tIfS (tTest (tOp rEq (tVar 3) (tC (.int 4)))) (tRet (tTup (tCons (tC (.str "cancel")) tNil))) tNext)
  (tSeq (tIfS (tTest (tOp oLt (tVar 3) (tC (.int 7)))) (tSeq (tAsg (tCall (sp_back_step K) [] E0 (tCons (tVar 0) (tCons (tVar 1) tNil))) (gName 4))
  (tIfS (tTest (tOp oNotN (tVar 4) (tC .non))) (tRet (tVar 4)) tNext)) tNext)
  (tRet (tCall (sp_ground_deed K) [] E0 (tCons (tVar 0) (tCons (tOp (rIxL K) (tVar 1) (tC (.int 1))) (tCons (tOp (rIxL K) (tVar 1) (tC (.int 2))) (tCons (tVar 2) tNil)))))))))))
theorem pure_step13 {K : PySem.W.Frag} {vs : List V} {H : Hp} {Q : VK} {E : XK} (h : sp_step K vs H Q E) : t_l_step K { nx := fun _ H' => Q .non H', rt := Q } (start N_l_step vs) H := by
  obtain ⟨c, d, s, W, S, sn, rfl, hD, hO, D, sl, k⟩ := h
  obtain ⟨l0, l1⟩ := D.im.len
  have nw : W.w ≠ s := fun z => hO.1 (by rw [← z]; simp [fpS, fpSL])
  have nh : W.h ≠ s := fun z => hO.1 (by rw [← z]; simp [fpS, fpSL])
  show t_l_step K _ [some (.ref d), some (.ref W.x), some (.int S.fl), none, none] H
  unfold t_l_step
  fold_lay
  refine c_take hD (by omega) fun v H1 v0 v1 hD1 s1 => ?_
  have D1 : Sd c f13 H1 W S sn := (wS c f13).keep (w := ⟨W, S, sn⟩) D (KeepOn.hid s1 hD.nt hO.1)
  have X := D1.X
  fold_lay
  fold_depth
  refine i_ifd (fun z => ?_) (fun z => ?_)
  · fold_lay
    rename_i p hp
    exact k p .bg _ upd_same trivial (hD1.same (same_new hp)) (s1.trans (hid_mono (same_new hp)))
  fold_lay
  fold_depth
  have fin : ∀ p H', H1 p = none → H' = upd H1 p (.tup [.str "commit"]) → Q (.ref p) H' := fun p H' hp e => by
    rw [e]
    exact k p .cm _ upd_same trivial (hD1.same (same_new hp)) (s1.trans (hid_mono (same_new hp)))
  refine i_ifd (fun z2 => ?_) (fun z2 => ?_)
  · fold_lay
    rename_i p hp
    exact fin p _ hp rfl
  fold_lay
  refine i_ifd (fun z3 => ?_) (fun z3 => ?_)
  · fold_lay
    rename_i p hp
    exact fin p _ hp rfl
  fold_lay
  fold_depth
  refine i_ifd (fun z4 => ?_) (fun z4 => ?_)
  · fold_lay
    rename_i p hp
    exact k p .cn _ upd_same trivial (hD1.same (same_new hp)) (s1.trans (hid_mono (same_new hp)))
  fold_lay
  fold_depth
  have last : sp_ground_deed K [.ref d, .ref W.w, .ref W.h, .int S.fl] H1 Q E0 := ⟨d, s, W.w, W.h, S.ws, S.hs, S.fl, rfl, hD1, X.L.hw, X.L.hh, nw, nh, D.im.le, by omega, by omega, D.im.kf, D.im.ah, fun a Dd H2 ha _ ok hD2 s2 => k a (.dd Dd) H2 ha ok hD2 (s1.trans s2)⟩
  have hx : H1 W.x = some (.lst [.ref W.A.g, .ref W.w, .ref W.h, .ref W.k, .int S.ch, odV S.al]) := X.L.hx
  refine i_ifd (fun z5 => ?_) (fun z5 => ?_)
  · fold_lay
    refine ⟨c, d, s, W, S, sn, rfl, hD1, hO.hid hD s1, D1, sl, fun H2 hD2 s2 => ?_, fun a q H2 ha ok hD2 s2 => ?_⟩
    · have D2 : Sd c f13 H2 W S sn := (wS c f13).keep (w := ⟨W, S, sn⟩) D1 (KeepOn.hid s2 hD1.nt hO.1)
      have X2 := D2.X
      have hx2 : H2 W.x = some (.lst [.ref W.A.g, .ref W.w, .ref W.h, .ref W.k, .int S.ch, odV S.al]) := X2.L.hx
      clear hx last
      fold_lay
      refine i_ifn (fun z => absurd rfl z) (fun _ => ?_)
      fold_lay
      exact ⟨d, s, W.w, W.h, S.ws, S.hs, S.fl, rfl, hD2, X2.L.hw, X2.L.hh, nw, nh, D.im.le, by omega, by omega, D.im.kf, D.im.ah, fun a Dd H3 ha _ ok hD3 s3 => k a (.dd Dd) H3 ha ok hD3 (s1.trans (s2.trans s3))⟩
    · fold_lay
      refine i_ifn (fun _ => ?_) (fun z => by cases z)
      fold_lay
      exact k a (.dd q) H2 ha ok hD2 (s1.trans s2)
  · fold_lay
    exact last
/-! ## K13g -/
/-! ### k13, k14: two sides -/
structure Fz (w f : Int) (N n : Nat) (y : SW) : Prop where
  wd : y.S.wd = w
  fl : y.S.fl = f
  ln : y.S.ws.length = N
  sn : y.sn.length ≤ n
theorem Fz.up {w f : Int} {N n m : Nat} {y : SW} (h : Fz w f N n y) (l : n ≤ m) : Fz w f N m y := ⟨h.wd, h.fl, h.ln, Nat.le_trans h.sn l⟩
theorem Fz.step {w f : Int} {N n : Nat} {y : SW} {W' : SA} {S' : GS} {sn' : List (List Int × List Int)} (h : Fz w f N n y) (k : Kp y.S S') (l : sn'.length ≤ y.sn.length + 1) : Fz w f N (n + 1) ⟨W', S', sn'⟩ := ⟨k.wd.trans h.wd, k.fl.trans h.fl, k.ln.trans h.ln, by have := h.sn; show sn'.length ≤ n + 1; omega⟩
/-- a side made, beside the list -/
structure In1 (c : Cl) (d s lw : Addr) (w f : Int) (N n : Nat) (y : SW) (H : Hp) : Prop where
  D : Sd c f13 H y.W y.S y.sn
  off : Off d s (fpS y.W) H
  nl : lw ∉ fpS y.W
  fz : Fz w f N n y
section
variable {c : Cl} {d s lw : Addr} {w f : Int} {N n : Nat} {y : SW} {H H' : Hp}
theorem In1.draw (h : In1 c d s lw w f N n y H) (D : Dr d s H) (k : Same (hid s H) (hid s H')) : In1 c d s lw w f N n y H' := ⟨(wS c f13).keep (w := y) h.D (KeepOn.hid k D.nt h.off.1), h.off.hid D k, h.nl, h.fz⟩
theorem In1.put {xs : List V} (h : In1 c d s lw w f N n y H) (D : Dr d s H) (ol : Off d s [lw] H) (hl : H lw = some (.lst xs)) (O : Out [lw] H H') : In1 c d s lw w f N n y H' := by
  have nt : NoT [lw] H := fun a m ys z => by
    rw [List.mem_singleton.mp m, hl] at z
    cases z
  refine ⟨(wS c f13).keep (w := y) h.D (KeepOn.out O nt fun a m z => h.nl (by rw [← List.mem_singleton.mp z]; exact m)), h.off.grow D Grow.refl fun o e => O d o ol.2.1 e, h.nl, h.fz⟩
end
/-- the list of the sides -/
structure Base (d s lw a : Addr) (p w f : Int) (xs : List V) (H : Hp) : Prop where
  D : Dr d s H
  ol : Off d s [lw] H
  hl : H lw = some (.lst xs)
  ha : H a = some (.tup [.int p, .int w, .int f])
section
variable {d s lw a : Addr} {p w f : Int} {xs ys : List V} {H H' : Hp}
theorem Base.ls (b : Base d s lw a p w f xs H) : lw ≠ s := fun z => b.ol.1 (by rw [z]; simp)
theorem Base.draw (b : Base d s lw a p w f xs H) (D : Dr d s H') (k : Same (hid s H) (hid s H')) : Base d s lw a p w f xs H' := ⟨D, b.ol.hid b.D k, hget k b.ls b.hl, hidTup b.D k _ _ b.ha⟩
theorem Base.put (b : Base d s lw a p w f xs H) (hl : H' lw = some (.lst ys)) (O : Out [lw] H H') : Base d s lw a p w f ys H' := ⟨b.D.out b.ol O, b.ol.out b.D Grow.refl O, hl, O _ _ (fun m => by
  have z := List.mem_singleton.mp m
  have e := b.ha
  rw [z, b.hl] at e
  cases e) b.ha⟩
end
/-- both sides, and the list of them -/
structure Two13 (c : Cl) (d s lw x1 x2 a : Addr) (p w f : Int) (N n : Nat) (H : Hp) (y u : SW) : Prop where
  T : Duo (wS c f13) (wS c f13) d s lw (.lst [.ref x1, .ref x2]) H y u
  e1 : y.W.x = x1
  e2 : u.W.x = x2
  f1 : Fz w f N n y
  f2 : Fz w f N n u
  ha : H a = some (.tup [.int p, .int w, .int f])
def xo (x1 x2 : Addr) : Nat → Addr
  | 0 => x1
  | _ => x2
section
variable {c : Cl} {d s lw x1 x2 a : Addr} {p w f : Int} {N n : Nat} {H H' : Hp} {y u : SW}
theorem Two13.of (b : Base d s lw a p w f [.ref y.W.x, .ref u.W.x] H) (h1 : In1 c d s lw w f N n y H) (h2 : In1 c d s lw w f N n u H) (dj : ∀ b ∈ fpS u.W, b ∉ fpS y.W) : Two13 c d s lw y.W.x u.W.x a p w f N n H y u := ⟨⟨h1.D, h2.D, b.D, h1.off, h2.off, dj, b.hl, h1.nl, h2.nl, b.ls⟩, rfl, rfl, h1.fz, h2.fz, b.ha⟩
theorem Two13.draw (t : Two13 c d s lw x1 x2 a p w f N n H y u) (D : Dr d s H') (k : Same (hid s H) (hid s H')) : Two13 c d s lw x1 x2 a p w f N n H' y u := ⟨t.T.draw D k, t.e1, t.e2, t.f1, t.f2, hidTup t.T.D k _ _ t.ha⟩
theorem Two13.same (t : Two13 c d s lw x1 x2 a p w f N n H y u) (k : Same H H') : Two13 c d s lw x1 x2 a p w f N n H' y u := ⟨t.T.same k, t.e1, t.e2, t.f1, t.f2, k _ _ t.ha⟩
theorem Two13.up {m : Nat} (t : Two13 c d s lw x1 x2 a p w f N n H y u) (l : n ≤ m) : Two13 c d s lw x1 x2 a p w f N m H y u := ⟨t.T, t.e1, t.e2, t.f1.up l, t.f2.up l, t.ha⟩
/-- the side at i -/
theorem Two13.pick (t : Two13 c d s lw x1 x2 a p w f N n H y u) (i : Nat) (hi : i < 2) : [V.ref x1, V.ref x2][i]? = some (.ref (xo x1 x2 i)) ∧ ∃ z : SW, z.W.x = xo x1 x2 i ∧ Sd c f13 H z.W z.S z.sn ∧ Off d s (fpS z.W) H ∧ Fz w f N n z ∧
    ∀ W' S' sn' H', Sd c f13 H' W' S' sn' → MvS z.W H W' H' → W'.x = z.W.x → Kp z.S S' → sn'.length ≤ z.sn.length + 1 → ∃ y' u', Two13 c d s lw x1 x2 a p w f N (n + 1) H' y' u' := by
  match i, hi with
  | 0, _ =>
    refine ⟨rfl, y, t.e1, t.T.p1, t.T.o1, t.f1, fun W' S' sn' H' h M ex kp l => ⟨⟨W', S', sn'⟩, u, ?_, ex.trans t.e1, t.e2, t.f1.step kp l, t.f2.up (Nat.le_succ _), ?_⟩⟩
    · exact t.T.first (t.T.go.move (M := wS c f13) (w' := ⟨W', S', sn'⟩) h ⟨M.out, M.gr⟩)
    · exact (show Sd c f13 H y.W y.S y.sn from t.T.p1).X.tupK M t.ha
  | 1, _ =>
    refine ⟨rfl, u, t.e2, t.T.p2, t.T.o2, t.f2, fun W' S' sn' H' h M ex kp l => ⟨y, ⟨W', S', sn'⟩, ?_, t.e1, ex.trans t.e2, t.f1.up (Nat.le_succ _), t.f2.step kp l, ?_⟩⟩
    · exact (t.T.symm.first (t.T.symm.go.move (M := wS c f13) (w' := ⟨W', S', sn'⟩) h ⟨M.out, M.gr⟩)).symm
    · exact (show Sd c f13 H u.W u.S u.sn from t.T.p2).X.tupK M t.ha
end
/-- a side made, put onto the list -/
theorem side_put {c : Cl} {d s lw a : Addr} {p w f : Int} {N n : Nat} {z : SW} {ys : List SW} {H1 H2 : Hp} (b : Base d s lw a p w f (ys.map fun y => V.ref y.W.x) H1) (ins : ∀ y ∈ ys, In1 c d s lw w f N n y H1) (h : Sd c f13 H2 z.W z.S z.sn) (fr : ∀ m ∈ fpS z.W, H1 m = none) (sm : Same H1 H2) (fz : Fz w f N n z) :
    Base d s lw a p w f ((ys ++ [z]).map fun y => V.ref y.W.x) (upd H2 lw (.lst ((ys.map fun y => V.ref y.W.x) ++ [.ref z.W.x]))) ∧ (∀ y ∈ ys ++ [z], In1 c d s lw w f N n y (upd H2 lw (.lst ((ys.map fun y => V.ref y.W.x) ++ [.ref z.W.x])))) ∧ ∀ y ∈ ys, ∀ m ∈ fpS z.W, m ∉ fpS y.W := by
  have b2 := b.draw (b.D.same sm) (hid_mono sm)
  have O : Out [lw] H2 (upd H2 lw (.lst ((ys.map fun y => V.ref y.W.x) ++ [.ref z.W.x]))) := out_upd (by simp)
  refine ⟨b2.put (by rw [upd_same, List.map_append]; rfl) O, fun y m => ?_, fun y m q z1 z2 => ?_⟩
  · rcases List.mem_append.mp m with m | m
    · exact ((ins y m).draw b.D (hid_mono sm)).put b2.D b2.ol b2.hl O
    · rw [List.mem_singleton.mp m]
      have : In1 c d s lw w f N n z H2 := ⟨h, Off.new b.D fr (hid_mono sm), (fun q => by
        have := fr _ q
        rw [b.hl] at this
        cases this), fz⟩
      exact this.put b2.D b2.ol b2.hl O
  · obtain ⟨o, e, _⟩ := (wS c f13).live (w := y) (ins y m).D q z2
    rw [fr q z1] at e
    cases e
/-- the place of a deed -/
theorem Deed.at1 {D : Deed} {N : Nat} (h : D.Ok N) : ∃ (t : V) (p : Int) (r : List V), D.vs = t :: .int p :: r ∧ 0 ≤ p ∧ p < N := by
  cases D with
  | wr p w h1 => exact ⟨_, _, _, rfl, h.1, h.2.1⟩
  | pk p w => exact ⟨_, _, _, rfl, h.1, h.2.1⟩
  | ps s m g t => exact ⟨_, _, _, rfl, h.1, by have := h.2.1; have := h.2.2.1; omega⟩
/-! ## K14a -/
/-! ### k14: steps drawn; a step kept or cut -/
def sp_other_word : Sp := fun vs H Q _ => ∃ (d s : Addr) (w : Int), vs = [.ref d, .int w] ∧ Dr d s H ∧ isWd w ∧ ∀ (i : Int) H', isWd i → Dr d s H' → Same (hid s H) (hid s H') → Q (.int i) H'
def N_l_other_word : List Str := ["_law_draws_here", "_law_word_here"]
def t_l_other_word (K : PySem.W.Frag) : TS := (tRet (tOp oMod (tCB rInt1 (tCons (tOp oAdd (tOp oAdd (tVar 1) (tC (.int 1))) (tCall sp_take [] E0 (tCons (tVar 0) (tCons (tC (.int 65535)) tNil)))) tNil)) (tC (.int 65536))))
theorem pure_other_word {K : PySem.W.Frag} {vs : List V} {H : Hp} {Q : VK} {E : XK} (h : sp_other_word vs H Q E) : t_l_other_word K { nx := fun _ H' => Q .non H', rt := Q } (start N_l_other_word vs) H := by
  obtain ⟨d, s, w, rfl, hD, hw, k⟩ := h
  unfold t_l_other_word
  fold_lay
  refine c_take hD (by omega) fun v H' v0 v1 hD1 s1 => ?_
  fold_lay
  exact k _ H' ⟨by omega, by omega⟩ hD1 s1
def sp_step14 (K : PySem.W.Frag) : Sp := fun vs H Q _ => ∃ (c : Cl) (d s : Addr) (W : SA) (S : GS) (sn : List (List Int × List Int)), vs = [.ref d, .ref W.x, .int S.fl] ∧ Dr d s H ∧ Off d s (fpS W) H ∧ Sd c f13 H W S sn ∧
  ∀ a (q : Stq) H', H' a = some (.tup q.vs) → q.Ok S.ws.length → Dr d s H' → Same (hid s H) (hid s H') → Q (.ref a) H'
def N_l_step14 : List Str := ["_law_draws_here", "_law_side_here", "_law_blank_here", "_law_kind"]
def t_l_step14 (K : PySem.W.Frag) : TS := (tSeq (tAsg (tCall sp_take [] E0 (tCons (tVar 0) (tCons (tC (.int 12)) tNil))) (gName 3))
  (tSeq (tIfS (tTest (tOp oLt (tVar 3) (tC (.int 2)))) (tRet (tTup (tCons (tC (.str "begin")) tNil))) tNext)
  (tSeq (tIfS (tOr (tTest (tOp rEq (tVar 3) (tC (.int 2)))) (tTest (tOp rEq (tVar 3) (tC (.int 3))))) (tRet (tTup (tCons (tC (.str "commit")) tNil))) tNext)
  (tSeq (tIfS (tTest (tOp rEq (tVar 3) (tC (.int 4)))) (tRet (tTup (tCons (tC (.str "cancel")) tNil))) tNext)
  (tRet (tCall (sp_ground_deed K) [] E0 (tCons (tVar 0) (tCons (tOp (rIxL K) (tVar 1) (tC (.int 1))) (tCons (tOp (rIxL K) (tVar 1) (tC (.int 2))) (tCons (tVar 2) tNil))))))))))
theorem pure_step14 {K : PySem.W.Frag} {vs : List V} {H : Hp} {Q : VK} {E : XK} (h : sp_step14 K vs H Q E) : t_l_step14 K { nx := fun _ H' => Q .non H', rt := Q } (start N_l_step14 vs) H := by
  obtain ⟨c, d, s, W, S, sn, rfl, hD, hO, D, k⟩ := h
  obtain ⟨l0, l1⟩ := D.im.len
  have nw : W.w ≠ s := fun z => hO.1 (by rw [← z]; simp [fpS, fpSL])
  have nh : W.h ≠ s := fun z => hO.1 (by rw [← z]; simp [fpS, fpSL])
  show t_l_step14 K _ [some (.ref d), some (.ref W.x), some (.int S.fl), none] H
  unfold t_l_step14
  fold_lay
  refine c_take hD (by omega) fun v H1 v0 v1 hD1 s1 => ?_
  have D1 : Sd c f13 H1 W S sn := (wS c f13).keep (w := ⟨W, S, sn⟩) D (KeepOn.hid s1 hD.nt hO.1)
  have X := D1.X
  fold_lay
  fold_depth
  refine i_ifd (fun z => ?_) (fun z => ?_)
  · fold_lay
    rename_i p hp
    exact k p .bg _ upd_same trivial (hD1.same (same_new hp)) (s1.trans (hid_mono (same_new hp)))
  fold_lay
  fold_depth
  have fin : ∀ p H', H1 p = none → H' = upd H1 p (.tup [.str "commit"]) → Q (.ref p) H' := fun p H' hp e => by
    rw [e]
    exact k p .cm _ upd_same trivial (hD1.same (same_new hp)) (s1.trans (hid_mono (same_new hp)))
  refine i_ifd (fun z2 => ?_) (fun z2 => ?_)
  · fold_lay
    rename_i p hp
    exact fin p _ hp rfl
  fold_lay
  refine i_ifd (fun z3 => ?_) (fun z3 => ?_)
  · fold_lay
    rename_i p hp
    exact fin p _ hp rfl
  fold_lay
  fold_depth
  refine i_ifd (fun z4 => ?_) (fun z4 => ?_)
  · fold_lay
    rename_i p hp
    exact k p .cn _ upd_same trivial (hD1.same (same_new hp)) (s1.trans (hid_mono (same_new hp)))
  have hx : H1 W.x = some (.lst [.ref W.A.g, .ref W.w, .ref W.h, .ref W.k, .int S.ch, odV S.al]) := X.L.hx
  fold_lay
  exact ⟨d, s, W.w, W.h, S.ws, S.hs, S.fl, rfl, hD1, X.L.hw, X.L.hh, nw, nh, D.im.le, by omega, by omega, D.im.kf, D.im.ah, fun a Dd H2 ha _ ok hD2 s2 => k a (.dd Dd) H2 ha ok hD2 (s1.trans s2)⟩
def sp_near_step (K : PySem.W.Frag) : Sp := fun vs H Q _ => ∃ (c : Cl) (d s : Addr) (W : SA) (S : GS) (sn : List (List Int × List Int)), vs = [.ref d, .ref W.x] ∧ Dr d s H ∧ Off d s (fpS W) H ∧ Sd c f13 H W S sn ∧ 0 < sn.length ∧
  ∀ a (q : Stq) H', H' a = some (.tup q.vs) → q.Ok S.ws.length → Dr d s H' → Same (hid s H) (hid s H') → Q (.ref a) H'
def N_l_near_step : List Str := ["_law_draws_here", "_law_side_here", "_law_old", "_law_cost", "_law_same_here", "_law_at", "_law_k"]
def t_l_near_step (K : PySem.W.Frag) : TS := (tSeq (tAsg (tOp (rIxL K) (tOp (rIxL K) (tVar 1) (tC (.int 3))) (tC (.int 0))) (gName 2))
  (tSeq (tAsg (tCB (rLen K) (tCons (tCall (sp_differing K) [] E0 (tCons (tVar 2) (tCons (tVar 1) tNil))) tNil)) (gName 3))
  (tSeq (tIfS (tOr (tTest (tOp oIsN (tOp (rIxL K) (tVar 1) (tC (.int 5))) (tC .non))) (tTest (tOp oGe (tVar 3) (tOp oAdd (tOp (rIxL K) (tVar 1) (tC (.int 5))) (tCall sp_take [] E0 (tCons (tVar 0) (tCons (tC (.int 2)) tNil))))))) (tRet (tTup (tCons (tC (.str "commit")) tNil))) tNext)
  (tSeq (tAsg (tLc (iRng1 (tCons (tCB (rLen K) (tCons (tOp (rIxT K) (tVar 2) (tC (.int 0))) tNil)) tNil)) (gName 6) (tAnd (tTest (tOp rEq (tOp (rIxL K) (tOp (rIxT K) (tVar 2) (tC (.int 0))) (tVar 6)) (tOp (rIxL K) (tOp (rIxL K) (tVar 1) (tC (.int 1))) (tVar 6)))) (tTest (tOp rEq (tOp (rIxL K) (tOp (rIxT K) (tVar 2) (tC (.int 1))) (tVar 6)) (tOp (rIxL K) (tOp (rIxL K) (tVar 1) (tC (.int 2))) (tVar 6))))) (tVar 6) [6]) (gName 4))
  (tSeq (tIfS (tOr (tTest (tOp rEq (tCB (rLen K) (tCons (tVar 4) tNil)) (tC (.int 0)))) (tTest (tOp oGt (tOp oSub (tOp (rIxL K) (tVar 1) (tC (.int 5))) (tVar 3)) (tC (.int 12))))) (tRet (tTup (tCons (tC (.str "commit")) tNil))) tNext)
  (tSeq (tAsg (tCall (sp_among K) [] E0 (tCons (tVar 0) (tCons (tVar 4) tNil))) (gName 5))
  (tRet (tTup (tCons (tC (.str "poke")) (tCons (tVar 5) (tCons (tCall sp_other_word [] E0 (tCons (tVar 0) (tCons (tOp (rIxL K) (tOp (rIxL K) (tVar 1) (tC (.int 1))) (tVar 5)) tNil))) tNil)))))))))))
theorem pure_near_step {K : PySem.W.Frag} {vs : List V} {H : Hp} {Q : VK} {E : XK} (h : sp_near_step K vs H Q E) : t_l_near_step K { nx := fun _ H' => Q .non H', rt := Q } (start N_l_near_step vs) H := by
  obtain ⟨c, d, s, W, S, sn, rfl, hD, hO, D, n0, k⟩ := h
  obtain ⟨l0, l1⟩ := D.im.len
  have le := D.im.le
  have hx : H W.x = some (.lst [.ref W.A.g, .ref W.w, .ref W.h, .ref W.k, .int S.ch, odV S.al]) := D.X.L.hx
  have hw := D.X.L.hw
  have hh := D.X.L.hh
  have hk := D.X.L.hk
  have kl := D.X.L.hs.length
  obtain ⟨e, x, ek, xm, g1, g2, g3⟩ := D.X.L.hs.get (i := 0) (by omega)
  obtain ⟨lx1, lx2⟩ := D.sp.len x xm
  show t_l_near_step K _ [some (.ref d), some (.ref W.x), none, none, none, none, none] H
  unfold t_l_near_step
  fold_lay
  refine i_ixL (sqL hk) (at_of (j := 0) (v := .ref e.1) rfl (by rw [List.getElem?_map, ek]; rfl)) ?_
  fold_lay
  refine ⟨e.1, W.x, e.2.1, e.2.2, W.w, W.h, .ref W.A.g, _, S.ws, S.hs, x.1, x.2, rfl, g1, hx, hw, hh, g2, g3, le.symm, lx1, by omega, by omega, fun l H1 hl0 hl s1 => ?_⟩
  have D1 := D.mono s1
  have hD1 := hD.same s1
  have hO1 := hO.same hD s1
  have h01 := hid_mono (s := s) s1
  have g11 := s1 _ _ g1
  have g21 := s1 _ _ g2
  have g31 := s1 _ _ g3
  have hx1 : H1 W.x = some (.lst [.ref W.A.g, .ref W.w, .ref W.h, .ref W.k, .int S.ch, odV S.al]) := D1.X.L.hx
  clear hx hw hh hk g1 g2 g3
  fold_lay
  rw [List.length_map] at *
  generalize (diffL S.ws S.hs x.1 x.2).length = cost at *
  have fin : ∀ {Hc : Hp}, Dr d s Hc → Same (hid s H) (hid s Hc) → ∀ p, Hc p = none → Q (.ref p) (upd Hc p (.tup [.str "commit"])) := fun hDc sc p hp =>
    k p .cm _ upd_same trivial (hDc.same (same_new hp)) (sc.trans (hid_mono (same_new hp)))
  cases ea : S.al with
  | none =>
    rw [ea] at hx1
    replace hx1 : H1 W.x = some (.lst [.ref W.A.g, .ref W.w, .ref W.h, .ref W.k, .int S.ch, .non]) := hx1
    fold_depth
    rename_i p hp
    exact fin hD1 h01 p hp
  | some al =>
    rw [ea] at hx1
    replace hx1 : H1 W.x = some (.lst [.ref W.A.g, .ref W.w, .ref W.h, .ref W.k, .int S.ch, .int al]) := hx1
    fold_depth
    refine ⟨d, s, 2, rfl, hD1, by omega, fun v H2 v0 v1 hD2 s2 => ?_⟩
    have D2 : Sd c f13 H2 W S sn := (wS c f13).keep (w := ⟨W, S, sn⟩) D1 (KeepOn.hid s2 hD1.nt hO1.1)
    have hO2 := hO1.hid hD1 s2
    have h02 := h01.trans s2
    have hx2 : H2 W.x = some (.lst [.ref W.A.g, .ref W.w, .ref W.h, .ref W.k, .int S.ch, .int al]) := by
      have := D2.X.L.hx
      unfold f13 at this
      rw [ea] at this
      exact this
    have hw2 := D2.X.L.hw
    have hh2 := D2.X.L.hh
    obtain ⟨e', x', ek', xm', g12, g22, g32⟩ := D2.X.L.hs.get (i := 0) (by omega)
    obtain rfl : e = e' := Option.some.inj (ek.symm.trans ek')
    obtain ⟨ly1, ly2⟩ := D.sp.len x' xm'
    clear hx1 g11 g21 g31 hl hl0 s2
    fold_lay
    refine i_ifd (fun _ => ?_) (fun _ => ?_)
    · fold_lay
      rename_i p hp
      exact fin hD2 h02 p hp
    fold_lay
    refine c_rng1 (by rw [List.length_map]; omega) (by rw [List.length_map]; omega) (m_rng (fun Da i H' => Same H2 H' ∧ H2 Da = none ∧ ∃ acc : List Nat, H' Da = some (.lst (acc.map fun j : Nat => V.int j)) ∧ acc.length ≤ i ∧ ∀ j ∈ acc, j < S.ws.length) ?_ ?_ ?_)
    · exact fun Da hDa => ⟨same_new hDa, hDa, [], upd_same, Nat.le_refl _, fun j m => by cases m⟩
    · rintro Da i H3 hi ⟨s3, d0, acc, d1, d2, d3⟩
      have hi : i < S.ws.length := by simpa [ly1] using hi
      have hx3 := s3 _ _ hx2
      have hw3 := s3 _ _ hw2
      have hh3 := s3 _ _ hh2
      have g13 := s3 _ _ g12
      have g23 := s3 _ _ g22
      have g33 := s3 _ _ g32
      fold_lay
      refine ⟨rfl, ?_⟩
      fold_lay
      refine i_ixL (sqL g23) (at_nat (l := x'.1) (by omega)) ?_
      fold_lay
      refine i_ixL (sqL hw3) (at_nat (l := S.ws) (by omega)) ?_
      fold_lay
      refine i_ifd (fun _ => ?_) (fun _ => ?_)
      · fold_lay
        refine i_ixL (sqL g33) (at_nat (l := x'.2) (by omega)) ?_
        fold_lay
        refine i_ixL (sqL hh3) (at_nat (l := S.hs) (by omega)) ?_
        fold_lay
        refine i_ifd (fun _ => ?_) (fun _ => ?_)
        · fold_lay
          refine ⟨_, d1, szl ?_, same_step d0 s3, d0, acc ++ [i], ?_, ?_, fun j m => ?_⟩
          · rw [List.length_map]
            omega
          · rw [upd_same, List.map_append]
            simp
          · rw [List.length_append]
            exact Nat.succ_le_succ d2
          · rcases List.mem_append.mp m with m | m
            · exact d3 j m
            · rw [List.mem_singleton.mp m]
              exact hi
        · exact ⟨s3, d0, acc, d1, by omega, d3⟩
      · fold_lay
        exact ⟨s3, d0, acc, d1, by omega, d3⟩
    · rintro Da H3 ⟨s3, d0, acc, d1, d2, d3⟩
      have el : ((x'.1.map V.int).length : Int).toNat = S.ws.length := by simp [ly1]
      rw [el] at d2
      have hD3 := hD2.same s3
      have h03 := h02.trans (hid_mono s3)
      have hx3 := s3 _ _ hx2
      have D3 := D2.mono s3
      have nda : Da ≠ s := hD2.ne d0
      clear hx2 hw2 hh2 g12 g22 g32
      fold_lay
      fold_depth
      rw [List.length_map]
      refine i_ifd (fun _ => ?_) (fun z1 => ?_)
      · fold_lay
        rename_i p hp
        exact fin hD3 h03 p hp
      fold_lay
      refine i_ifd (fun _ => ?_) (fun _ => ?_)
      · fold_lay
        rename_i p hp
        exact fin hD3 h03 p hp
      fold_lay
      refine c_among hD3 d1 nda (by rw [List.length_map]; omega) (by rw [List.length_map]; omega) fun vv H4 hv hD4 s4 => ?_
      obtain ⟨j, jm, rfl⟩ := List.mem_map.mp hv
      have jl := d3 j jm
      have D4 : Sd c f13 H4 W S sn := (wS c f13).keep (w := ⟨W, S, sn⟩) D3 (KeepOn.hid s4 hD3.nt (hO2.same hD2 s3).1)
      have hx4 : H4 W.x = some (.lst [.ref W.A.g, .ref W.w, .ref W.h, .ref W.k, .int S.ch, odV S.al]) := D4.X.L.hx
      have hw4 := D4.X.L.hw
      have h04 := h03.trans s4
      clear hx3 d1
      fold_lay
      refine i_ixL (sqL hw4) (at_ints (l := S.ws) (p := (j : Int)) (by omega) (by omega)) ?_
      fold_lay
      refine ⟨d, s, _, rfl, hD4, getD_of D.im.aw (by decide), fun i H5 hi hD5 s5 => ?_⟩
      fold_lay
      rename_i p hp
      exact k p (.dd (.pk j i)) _ upd_same ⟨by omega, by omega, hi⟩ (hD5.same (same_new hp)) (h04.trans (s5.trans (hid_mono (same_new hp))))
/-- as core13, with what is due handed on -/
theorem core14 {K : PySem.W.Frag} {c : Cl} {H H1 : Hp} {W : SA} {A' : GA} {S S' : GS} {sn : List (List Int × List Int)} {q : Stq} {dt : Dt} {v1 : V} {a : Addr} {fl : Int} {Q : V → VK} {R : VK} {E : XK} (D : Sd c f13 H W S sn) (ev : Ev S q dt S') (gm : GMv c H W.A A' S' H1) (hv : At H1 v1 dt) (ha : H a = some (.tup q.vs)) (ok : q.Ok S.ws.length) (efl : S.fl = fl) (hn : sn.length < 1000)
    (hR : ∀ v2 H2, sp_same 6 [v1, v2] H2 (Q v2) E → R v2 H2)
    (k : ∀ v2 W' sn' H', Sd c f13 H' W' S' sn' → MvS W H W' H' → W'.x = W.x → Kp S S' → sn'.length ≤ sn.length + 1 → At H' v2 dt → Q v2 (.bl true) H') :
    sp_step_due13 K [.ref W.x, .int fl, .ref a] H1 R E := by
  obtain ⟨X1, M1⟩ := D.X.ground (F := fpA W.A) (fun _ m => m) gm.out gm.G gm.g gm.gr
  have okE : ∀ es ∈ S.ds, Chg S.ws.length es := fun es m => ⟨(D.X.G.ok es m).1, (D.X.G.ok es m).2⟩
  obtain ⟨t1, t2, t3⟩ := ev.shape
  obtain ⟨i1, i2, i3, i5, i4⟩ := ev.im D.sp D.im D.ni ok
  refine ⟨c, { W with A := A' }, S, S', S', sn, a, q, dt, by rw [efl], D.X.tupK M1 ha, ok, X1, D.sp, D.im, okE, hn, ev, fun v2 W' sn' H2 X sp M ex eA hv2 mem => hR _ _ ?_⟩
  refine c_same (hv.tupK (fun b xs e => X1.tupK M e) t1) hv2 t2 t3 fun H3 s3 => ?_
  refine k v2 W' sn' H3 ⟨X.mono s3, sp, by rw [i1, i2]; exact i4, fun x m => ?_⟩ ((M1.trans M).trans (.same s3)) ex ⟨i1, i2, i3⟩ ?_ (hv2.mono s3)
  · rw [i1, i2]
    rcases mem x m with z | z
    · exact D.ni x z
    · rw [z]
      exact D.im
  · rw [← sp.length, ← D.sp.length]
    exact i5
theorem Ev.head {S S' : GS} {q : Stq} {dt : Dt} (ev : Ev S q dt S') : ∃ (t : Str) (r : List Dt), dt = .tup (.str t :: r) := by
  cases ev <;> exact ⟨_, _, rfl⟩
theorem at_head {H : Hp} {v : V} {t : Str} {r : List Dt} (h : At H v (.tup (.str t :: r))) : ∃ (a : Addr) (xs : List V), v = .ref a ∧ H a = some (.tup (.str t :: xs)) := by
  cases h with
  | tup hr hrs =>
    cases hrs with
    | cons b1 _ =>
      cases b1
      exact ⟨_, _, rfl, hr⟩
def sp_kept14 (K : PySem.W.Frag) (c : Cl) : Sp := fun vs H Q _ => ∃ (W : SA) (S : GS) (sn : List (List Int × List Int)) (sz a : Addr) (pg : Int) (q : Stq), vs = [.ref W.x, .ref sz, .ref a] ∧ H sz = some (.tup [.int pg, .int S.wd, .int S.fl]) ∧ H a = some (.tup q.vs) ∧ q.Ok S.ws.length ∧ Sd c f13 H W S sn ∧ K13K K c ∧ sn.length < 900 ∧
  ∀ W' S' sn' H', Sd c f13 H' W' S' sn' → MvS W H W' H' → W'.x = W.x → Kp S S' → sn'.length ≤ sn.length + 1 → Q (.bl true) H'
def N_l_kept : List Str := ["_law_side_here", "_law_size", "_law_step_here", "_law_played_here", "_law_due"]
def t_l_kept (K : PySem.W.Frag) (c : Cl) : TS := (tSeq (tAsg (tCall (sp_played13 K c) [] E0 (tCons (tOp (rIxL K) (tVar 0) (tC (.int 0))) (tCons (tVar 2) tNil))) (gName 3))
  (tSeq (tAsg (tCall (sp_step_due13 K) [] E0 (tCons (tVar 0) (tCons (tOp (rIxT K) (tVar 1) (tC (.int 2))) (tCons (tVar 2) tNil)))) (gName 4))
  (tSeq (tIfS (tOr (tNot (tB (tCall (sp_same 6) [] E0 (tCons (tVar 3) (tCons (tVar 4) tNil))))) (tNot (tB (tCall (sp_stands13 K c) [] E0 (tCons (tVar 0) tNil))))) (tRet (tC (.bl false))) tNext)
  (tSeq (tIfS (tAnd (tTest (tOp rEq (tOp (rIxT K) (tVar 4) (tC (.int 0))) (tC (.str "done")))) (tTest (tOp oGt (tCB (rLen K) (tCons (tOp (rIxL K) (tVar 0) (tC (.int 3))) tNil)) (tC (.int 0))))) (tRet (tC (.bl true))) tNext)
  (tRet (tCall (sp_image_stands K c) [] E0 (tCons (tVar 0) (tCons (tVar 1) tNil))))))))
theorem pure_kept14 {K : PySem.W.Frag} {c : Cl} {vs : List V} {H : Hp} {Q : VK} {E : XK} (h : sp_kept14 K c vs H Q E) : t_l_kept K c { nx := fun _ H' => Q .non H', rt := Q } (start N_l_kept vs) H := by
  obtain ⟨W, S, sn, sz, a, pg, q, rfl, hz, ha, ok, D, k13, sl, k⟩ := h
  have hx : H W.x = some (.lst [.ref W.A.g, .ref W.w, .ref W.h, .ref W.k, .int S.ch, odV S.al]) := D.X.L.hx
  show t_l_kept K c _ [some (.ref W.x), some (.ref sz), some (.ref a), none, none] H
  unfold t_l_kept
  fold_lay
  refine ⟨W.A, S, a, q, rfl, ha, ok, D.X.G, k13, by have := D.sp.length; omega, fun v dt A' S' H1 ev gm hv => ?_⟩
  have hz1 := D.X.tupK (D.X.ground (F := fpA W.A) (fun _ m => m) gm.out gm.G gm.g gm.gr).2 hz
  fold_lay
  refine core14 (E := E0) (Q := ?Q) D ev gm hv ha ok rfl (by omega) ?hR ?hk
  case hR =>
    intro v2 H2 h
    fold_lay
    fold_depth
    exact h
  intro v2 W' sn' H2 D2 M2 ex kp sl2 hv2
  have hz2 := D.X.tupK M2 hz
  have hx2 : H2 W.x = some (.lst [.ref W'.A.g, .ref W'.w, .ref W'.h, .ref W'.k, .int S'.ch, odV S'.al]) := ex ▸ D2.X.L.hx
  have hk2 := D2.X.L.hk
  obtain ⟨t, r, rfl⟩ := ev.head
  obtain ⟨b, xs, rfl, hb⟩ := at_head hv2
  clear hz1 hx hv hv2
  fold_lay
  refine ⟨W', S', sn', by rw [ex]; rfl, D2, k13.ge.gk, fun H3 s3 => ?_⟩
  have D3 := D2.mono s3
  have M3 := M2.trans (.same s3)
  have hz3 := s3 _ _ hz2
  have hx3 := s3 _ _ hx2
  have hk3 := s3 _ _ hk2
  have hb3 := s3 _ _ hb
  have done : ∀ H4, Same H3 H4 → Q (.bl true) H4 := fun H4 s4 => k W' S' sn' H4 (D3.mono s4) (M3.trans (.same s4)) ex kp sl2
  have img : ∀ H4, H4 = H3 → sp_image_stands K c [.ref W.x, .ref sz] H4 Q E0 := fun H4 e => by
    subst e
    exact ⟨W', S', sn', sz, pg, by rw [ex], by rw [kp.wd, kp.fl]; exact hz3, D3, k13.ge.gk, done⟩
  clear hx2 hk2 hb hz2
  fold_lay
  fold_depth
  refine i_ixT (sqT hb3) (at_of (j := 0) (v := .str t) (by omega) rfl) ?_
  fold_lay
  by_cases td : t = "done"
  · refine i_yes td ?_
    fold_lay
    refine i_ifd (fun _ => ?_) (fun _ => ?_)
    · fold_lay
      exact done H3 (Same.refl _)
    · fold_lay
      exact img H3 rfl
  · refine i_no td ?_
    fold_lay
    exact img H3 rfl
/-! ## K14b -/
/-! ### k14: the law -/
def sp_law14 (K : PySem.W.Frag) (c : Cl) : Sp := fun vs H Q _ => ∃ (x : Addr) (ns : List Int), vs = [.ref x] ∧ SqL K H x (ns.map V.int) ∧ ns.length ≤ 63 ∧ K13K K c ∧ ∀ H', Q (.bl true) H'
def N_l_law : List Str := ["_law_script", "_law_draws_here", "_law_size", "_law_sides", "_law_k", "_law_purse", "_law_many", "_law_side_here", "_law_step_here"]
def t_l_law (K : PySem.W.Frag) (c : Cl) : TS := (tSeq (tAsg (tCall (sp_draws K) [] E0 (tCons (tVar 0) tNil)) (gName 1))
  (tSeq (tAsg (tCall (sp_ground_args K) [] E0 (tCons (tVar 1) tNil)) (gName 2))
  (tSeq (tAsg (tLst tNil) (gName 3))
  (tSeq (tFor (iRng1 (tCons (tC (.int 2)) tNil)) (gName 4) (tSeq (tAsg (tOp (rIxL K) (tLst (tCons (tC (.int 0)) (tCons (tC (.int 1)) (tCons (tCall sp_take [] E0 (tCons (tVar 1) (tCons (tC (.int 8)) tNil))) (tCons (tCall sp_take [] E0 (tCons (tVar 1) (tCons (tC (.int 40)) tNil))) (tCons (tOp oPow (tC (.int 10)) (tC (.int 9))) (tCons (tC .non) tNil))))))) (tCall sp_take [] E0 (tCons (tVar 1) (tCons (tC (.int 6)) tNil)))) (gName 5))
  (tDrop (tBM K "list" rAppend (tVar 3) (tCons (tCall (sp_side K c) [] E0 (tCons (tVar 2) (tCons (tVar 5) tNil))) tNil)))))
  (tSeq (tAsg (tOp oAdd (tC (.int 1)) (tCall sp_count [] E0 (tCons (tVar 1) (tCons (tC (.int 14)) (tCons (tC (.int 40)) tNil))))) (gName 6))
  (tSeq (tIfS (tTest (tOp oGt (tOp (rIxT K) (tVar 2) (tC (.int 0))) (tC (.int 40)))) (tAsg (tCB rMin2 (tCons (tVar 6) (tCons (tC (.int 8)) tNil))) (gName 6)) tNext)
  (tSeq (tFor (iRng1 (tCons (tVar 6) tNil)) (gName 4) (tSeq (tAsg (tOp (rIxL K) (tVar 3) (tOp (rIxL K) (tLst (tCons (tC (.int 0)) (tCons (tC (.int 0)) (tCons (tC (.int 1)) tNil)))) (tCall sp_take [] E0 (tCons (tVar 1) (tCons (tC (.int 3)) tNil))))) (gName 7))
  (tSeq (tAsg (tCall (sp_step14 K) [] E0 (tCons (tVar 1) (tCons (tVar 7) (tCons (tOp (rIxT K) (tVar 2) (tC (.int 2))) tNil)))) (gName 8))
  (tSeq (tIfS (tAnd (tTest (tOp rEq (tCB (rLen K) (tCons (tOp (rIxL K) (tVar 7) (tC (.int 3))) tNil)) (tC (.int 1)))) (tTest (tOp oGt (tCall sp_take [] E0 (tCons (tVar 1) (tCons (tC (.int 3)) tNil))) (tC (.int 0))))) (tAsg (tCall (sp_near_step K) [] E0 (tCons (tVar 1) (tCons (tVar 7) tNil))) (gName 8)) tNext)
  (tIfS (tNot (tB (tCall (sp_kept14 K c) [] E0 (tCons (tVar 7) (tCons (tVar 2) (tCons (tVar 8) tNil)))))) (tRet (tC (.bl false))) tNext)))))
  (tSeq (tFor (iList K (tVar 3)) (gName 7) (tSeq (tFor (iRng1 (tCons (tOp oAdd (tCB (rLen K) (tCons (tOp (rIxL K) (tVar 7) (tC (.int 3))) tNil)) (tC (.int 1))) tNil)) (gName 4) (tIfS (tNot (tB (tCall (sp_kept14 K c) [] E0 (tCons (tVar 7) (tCons (tVar 2) (tCons (tTup (tCons (tC (.str "commit")) tNil)) tNil)))))) (tRet (tC (.bl false))) tNext))
  (tIfS (tNot (tB (tCall (sp_kept14 K c) [] E0 (tCons (tVar 7) (tCons (tVar 2) (tCons (tTup (tCons (tC (.str "poke")) (tCons (tC (.int 0)) (tCons (tCall sp_other_word [] E0 (tCons (tVar 1) (tCons (tOp (rIxL K) (tOp (rIxL K) (tVar 7) (tC (.int 1))) (tC (.int 0))) tNil))) tNil)))) tNil)))))) (tRet (tC (.bl false))) tNext)))
  (tRet (tAndV (tCall (sp_image_stands K c) [] E0 (tCons (tOp (rIxL K) (tVar 3) (tC (.int 0))) (tCons (tVar 2) tNil))) (tCall (sp_image_stands K c) [] E0 (tCons (tOp (rIxL K) (tVar 3) (tC (.int 1))) (tCons (tVar 2) tNil)))))))))))))
theorem pure_law14 {K : PySem.W.Frag} {c : Cl} {vs : List V} {H : Hp} {Q : VK} {E : XK} (h : sp_law14 K c vs H Q E) : t_l_law K c { nx := fun _ H' => Q .non H', rt := Q } (start N_l_law vs) H := by
  obtain ⟨x, ns, rfl, hx, hl, k13, k⟩ := h
  show t_l_law K c _ [some (.ref x), none, none, none, none, none, none, none, none] H
  unfold t_l_law
  fold_lay
  refine ⟨x, ns, rfl, hx, by omega, fun d s H1 hD1 k1 _ _ => ?_⟩
  fold_lay
  refine ⟨d, s, rfl, hD1, fun p w f a H2 p0 p1 hw hf ha ha0 hD2 s2 => ?_⟩
  have pw0 : 16 ≤ p * w := by rcases hw with rfl | rfl | rfl <;> omega
  have pw1 : p * w ≤ 16384 := by rcases hw with rfl | rfl | rfl <;> omega
  fold_lay
  rename_i lw hlw
  have sl := same_new (o := .lst []) hlw
  have B0 : Base d s lw a p w f (([] : List SW).map fun y => V.ref y.W.x) (upd H2 lw (.lst [])) := ⟨hD2.same sl, Off.new hD2 (fun b m => by rw [List.mem_singleton.mp m]; exact hlw) (hid_mono sl), upd_same, sl _ _ ha⟩
  generalize upd H2 lw (.lst []) = H3 at *
  clear hx k1 hD1 ha ha0 hD2 s2 hlw sl
  refine i_cut (fun σ' H' => ∃ y u y4 y5, Two13 c d s lw y.W.x u.W.x a p w f (p * w).toNat 0 H' y u ∧ σ' = [some (.ref x), some (.ref d), some (.ref a), some (.ref lw), y4, y5, none, none, none]) ?_ (fun nx key => ?_)
  rotate_left
  · fold_lay
    refine f_rng1 (by omega) (by omega) (l_rng (fun i σ' H' => ∃ (ys : List SW) (y4 y5 : Option V), ys.length = i ∧ Base d s lw a p w f (ys.map fun y => V.ref y.W.x) H' ∧ (∀ y ∈ ys, In1 c d s lw w f (p * w).toNat 0 y H') ∧ ys.Pairwise (fun y u => ∀ b ∈ fpS u.W, b ∉ fpS y.W) ∧ σ' = [some (.ref x), some (.ref d), some (.ref a), some (.ref lw), y4, y5, none, none, none]) ⟨[], _, _, rfl, B0, fun y m => (by cases m), .nil, rfl⟩ ?_ ?_)
    · rintro i σ' H4 hi ⟨ys, y4, y5, ly, B4, ins4, pw4, rfl⟩
      fold_lay
      refine ⟨d, s, 8, rfl, B4.D, by omega, fun v8 H5 v80 v81 hD5 s5 => ?_⟩
      have B5 := B4.draw hD5 s5
      have ins5 : ∀ y ∈ ys, In1 c d s lw w f (p * w).toNat 0 y H5 := fun y m => (ins4 y m).draw B4.D s5
      clear B4 ins4 hD5 s5
      fold_lay
      refine ⟨d, s, 40, rfl, B5.D, by omega, fun v40 H6 v400 v401 hD6 s6 => ?_⟩
      have B6 := B5.draw hD6 s6
      have ins6 : ∀ y ∈ ys, In1 c d s lw w f (p * w).toNat 0 y H6 := fun y m => (ins5 y m).draw B5.D s6
      clear B5 ins5 hD6 s6
      fold_lay
      rename_i q hq
      have sq := same_new (o := .lst [.int 0, .int 1, .int v8, .int v40, .int (10 ^ Int.toNat 9), .non]) hq
      have B7 := B6.draw (B6.D.same sq) (hid_mono sq)
      have ins7 : ∀ y ∈ ys, In1 c d s lw w f (p * w).toNat 0 y _ := fun y m => (ins6 y m).draw B6.D (hid_mono sq)
      have hq7 : upd H6 q (.lst [.int 0, .int 1, .int v8, .int v40, .int (10 ^ Int.toNat 9), .non]) q = some (.lst [.int 0, .int 1, .int v8, .int v40, .int (10 ^ Int.toNat 9), .non]) := upd_same
      have nq := B6.D.ne hq
      generalize upd H6 q (.lst [.int 0, .int 1, .int v8, .int v40, .int (10 ^ Int.toNat 9), .non]) = H7 at *
      clear B6 ins6 sq hq
      refine ⟨d, s, 6, rfl, B7.D, by omega, fun v H8 v0 v1 hD8 s8 => ?_⟩
      have B8 := B7.draw hD8 s8
      have hq8 := hget s8 nq hq7
      have ins8 : ∀ y ∈ ys, In1 c d s lw w f (p * w).toNat 0 y H8 := fun y m => (ins7 y m).draw B7.D s8
      clear B7 ins7 hq7 s8 hD8
      refine i_amongL (sqL hq8) v0 (by show v < 6; omega) fun y hy => ?_
      have hy : ∃ al, y = odV al ∧ SzOk p w f al := by
        have hy := List.mem_of_getElem? hy
        simp only [List.mem_cons, List.not_mem_nil, or_false] at hy
        have e9 : (10 : Int) ^ Int.toNat 9 = 1000000000 := by decide
        rcases hy with rfl | rfl | rfl | rfl | rfl | rfl
        · exact ⟨some _, rfl, p0, p1, hw, hf, fun _ z => by cases z; omega⟩
        · exact ⟨some _, rfl, p0, p1, hw, hf, fun _ z => by cases z; omega⟩
        · exact ⟨some _, rfl, p0, p1, hw, hf, fun _ z => by cases z; omega⟩
        · exact ⟨some _, rfl, p0, p1, hw, hf, fun _ z => by cases z; omega⟩
        · exact ⟨some _, rfl, p0, p1, hw, hf, fun _ z => by cases z; omega⟩
        · exact ⟨none, rfl, p0, p1, hw, hf, fun _ z => by cases z⟩
      obtain ⟨al, rfl, ok⟩ := hy
      clear hq8 nq
      have hl8 := B8.hl
      have ha8 := B8.ha
      fold_lay
      refine ⟨a, p, w, f, al, rfl, B8.ha, k13.ge, k13.wt, ok, fun W H9 D9 f9 s9 => ?_⟩
      have hl9 := s9 _ _ B8.hl
      fold_lay
      refine i_put hl9 (by rw [List.length_map]; omega) ?_
      obtain ⟨B10, ins10, dj⟩ := side_put (z := ⟨W, newS p w f al, []⟩) B8 ins8 D9 f9 s9 ⟨rfl, rfl, by simp [newS], Nat.zero_le _⟩
      generalize upd H9 lw (.lst ((ys.map fun y => V.ref y.W.x) ++ [.ref W.x])) = H10 at *
      clear hl9
      fold_lay
      exact ⟨ys ++ [⟨W, newS p w f al, []⟩], _, _, by simp [ly], B10, ins10, List.pairwise_append.mpr ⟨pw4, List.pairwise_singleton _ _, fun y m u mu => by rw [List.mem_singleton.mp mu]; exact dj y m⟩, rfl⟩
    · rintro σ' H4 ⟨ys, y4, y5, ly, B4, ins4, pw4, rfl⟩
      fold_lay
      obtain ⟨y, u, rfl⟩ : ∃ y u, ys = [y, u] := by
        match ys, ly with
        | [y, u], _ => exact ⟨y, u, rfl⟩
      exact key _ _ ⟨y, u, _, _, Two13.of B4 (ins4 y (by simp only [List.mem_cons, true_or])) (ins4 u (by simp only [List.mem_cons, true_or, or_true])) ((List.pairwise_cons.mp pw4).1 u (List.mem_singleton.mpr rfl)), rfl⟩
  rintro σ' H4 ⟨y, u, y4, y5, T4, rfl⟩
  generalize y.W.x = x1 at *
  generalize u.W.x = x2 at *
  clear B0
  fold_lay
  refine c_count T4.T.D (by omega) (by omega) (by omega) fun v H5 v0 v1 hD5 s5 => ?_
  have T5 := T4.draw hD5 s5
  have ha5 := T5.ha
  clear T4 s5 hD5
  fold_lay
  refine i_cut (fun σ' H' => ∃ m : Int, 0 ≤ m ∧ m ≤ 41 ∧ H' = H5 ∧ σ' = [some (.ref x), some (.ref d), some (.ref a), some (.ref lw), y4, y5, some (.int m), none, none]) ?_ (fun nx key => ?_)
  rotate_left
  · fold_lay
    refine i_ifd (fun z => ?_) (fun z => ?_)
    · fold_lay
      exact key _ _ ⟨if 8 < 1 + v then 8 else 1 + v, by split <;> omega, by split <;> omega, rfl, rfl⟩
    · fold_lay
      exact key _ _ ⟨1 + v, by omega, by omega, rfl, rfl⟩
  rintro σ' H' ⟨m, m0, m1, rfl, rfl⟩
  clear ha5
  generalize eN : (p * w).toNat = N at *
  refine i_cut (fun σ' H' => ∃ y u y4 y7 y8, Two13 c d s lw x1 x2 a p w f N 41 H' y u ∧ σ' = [some (.ref x), some (.ref d), some (.ref a), some (.ref lw), y4, y5, some (.int m), y7, y8]) ?_ (fun nx key => ?_)
  rotate_left
  · fold_lay
    refine f_rng1 (by omega) (by omega) (l_rng (fun i σ' H' => ∃ y u y4 y7 y8, Two13 c d s lw x1 x2 a p w f N i H' y u ∧ σ' = [some (.ref x), some (.ref d), some (.ref a), some (.ref lw), y4, y5, some (.int m), y7, y8]) ⟨y, u, _, _, _, T5, rfl⟩ ?_ ?_)
    rotate_left
    · rintro σ' H6 ⟨y, u, y4, y7, y8, T6, rfl⟩
      exact key _ _ ⟨y, u, _, _, _, T6.up (by omega), rfl⟩
    clear key T5
    rintro i σ' H6 hi ⟨y, u, y4, y7, y8, T6, rfl⟩
    have hi : i < 41 := by omega
    have hl6 := T6.T.hl
    fold_lay
    rename_i q hq
    have sq := same_new (o := .lst [.int 0, .int 0, .int 1]) hq
    have T7 := T6.same sq
    have hq6 : upd H6 q (.lst [.int 0, .int 0, .int 1]) q = some (.lst [.int 0, .int 0, .int 1]) := upd_same
    have nq := T6.T.D.ne hq
    refine ⟨d, s, 3, rfl, T7.T.D, by omega, fun v H7 v0 v1 hD7 s7 => ?_⟩
    have T8 := T7.draw hD7 s7
    have hq7 := hget s7 nq hq6
    clear T6 T7 hq6 hq sq s7 hD7 hl6
    refine i_amongL (sqL hq7) v0 (by show v < 3; omega) fun yv hy => ?_
    obtain ⟨j, j2, rfl⟩ : ∃ j : Nat, j < 2 ∧ yv = .int j := by
      have hy := List.mem_of_getElem? hy
      simp only [List.mem_cons, List.not_mem_nil, or_false] at hy
      rcases hy with rfl | rfl | rfl
      · exact ⟨0, by omega, rfl⟩
      · exact ⟨0, by omega, rfl⟩
      · exact ⟨1, by omega, rfl⟩
    clear hy hq7 nq
    obtain ⟨xj, z, ez, Dz, oz, fz, bk⟩ := T8.pick j j2
    have hl8 := T8.T.hl
    have ha8 := T8.ha
    refine i_ixL (sqL hl8) (at_of (j := j) rfl xj) ?_
    fold_lay
    refine ⟨c, d, s, z.W, z.S, z.sn, by rw [ez, fz.fl]; rfl, T8.T.D, oz, Dz, fun a1 q H9 hq9 ok hD9 s9 => ?_⟩
    rw [fz.ln] at ok
    have T9 := T8.draw hD9 s9
    clear bk Dz oz fz ez z hl8 ha8 T8 s9 hD9
    obtain ⟨_, z, ez, Dz, oz, fz, bk⟩ := T9.pick j j2
    have hx9 : H9 (xo x1 x2 j) = some (.lst [.ref z.W.A.g, .ref z.W.w, .ref z.W.h, .ref z.W.k, .int z.S.ch, odV z.S.al]) := ez ▸ Dz.X.L.hx
    have hk9 := Dz.X.L.hk
    have kl := Dz.X.L.hs.length
    fold_lay
    refine i_cut (fun σ' H' => ∃ y u a2 q2, Two13 c d s lw x1 x2 a p w f N i H' y u ∧ H' a2 = some (.tup q2.vs) ∧ Stq.Ok N q2 ∧ σ' = [some (.ref x), some (.ref d), some (.ref a), some (.ref lw), some (.int (0 + (i : Int))), y5, some (.int m), some (.ref (xo x1 x2 j)), some (.ref a2)]) ?_ (fun nx key => ?_)
    rotate_left
    · fold_lay
      rw [List.length_map, kl]
      refine i_ifd (fun z1 => ?_) (fun _ => ?_)
      · fold_lay
        refine c_take T9.T.D (by omega) fun v2 H10 v20 v21 hD10 s10 => ?_
        have T10 := T9.draw hD10 s10
        have hq10 := hidTup T9.T.D s10 _ _ hq9
        have z2 : 0 < z.sn.length := by omega
        have Dz2 : Sd c f13 H10 z.W z.S z.sn := (wS c f13).keep (w := z) Dz (KeepOn.hid s10 T9.T.D.nt oz.1)
        have oz2 := oz.hid T9.T.D s10
        clear hx9 hk9 hq9 Dz oz bk T9 s10 hD10
        fold_lay
        refine i_ifd (fun _ => ?_) (fun _ => ?_)
        · fold_lay
          refine ⟨c, d, s, z.W, z.S, z.sn, by rw [ez]; rfl, T10.T.D, oz2, Dz2, z2, fun a2 q2 H11 hq11 ok2 hD11 s11 => ?_⟩
          rw [fz.ln] at ok2
          fold_lay
          exact key _ _ ⟨y, u, a2, q2, T10.draw hD11 s11, hq11, ok2, rfl⟩
        · fold_lay
          exact key _ _ ⟨y, u, a1, q, T10, hq10, ok, rfl⟩
      · fold_lay
        exact key _ _ ⟨y, u, a1, q, T9, hq9, ok, rfl⟩
    clear hx9 hk9 hq9 Dz oz bk T9 fz ez kl z ok
    rintro σ' H10 ⟨y, u, a2, q2, T10, hq10, ok2, rfl⟩
    obtain ⟨_, z, ez, Dz, oz, fz, bk⟩ := T10.pick j j2
    fold_lay
    refine ⟨z.W, z.S, z.sn, a, a2, p, q2, by rw [ez]; rfl, by rw [fz.wd, fz.fl]; exact T10.ha, hq10, by rw [fz.ln]; exact ok2, Dz, k13, by have := fz.sn; omega, fun W' S' sn' H11 D11 M11 ex11 kp11 sl11 => ?_⟩
    obtain ⟨y', u', T11⟩ := bk W' S' sn' H11 D11 M11 ex11 kp11 sl11
    fold_lay
    exact ⟨y', u', _, _, _, T11, rfl⟩
  rintro σ' H6 ⟨y, u, y4, y7, y8, T6, rfl⟩
  clear T5
  let bd : Nat → Nat := fun j => if j = 0 then 41 else if j = 1 then 84 else 170
  have hbd : ∀ j, j < 2 → bd j ≤ 84 ∧ 2 * bd j + 2 ≤ bd (j + 1) := fun j hj => by
    have : j = 0 ∨ j = 1 := by omega
    rcases this with rfl | rfl <;> decide
  have hl6 := T6.T.hl
  fold_depth
  refine f_lst (sqL hl6) (l_lst (xs := [.ref x1, .ref x2]) (fun j σ' H' => ∃ y u n y4 y7 y8, n ≤ bd j ∧ Two13 c d s lw x1 x2 a p w f N n H' y u ∧ σ' = [some (.ref x), some (.ref d), some (.ref a), some (.ref lw), y4, y5, some (.int m), y7, y8]) ⟨y, u, 41, _, _, _, Nat.le_refl _, T6, rfl⟩ (fun j σ' H' _ h => ?_) ?_ ?_)
  · obtain ⟨y, u, n, _, _, _, _, T, _⟩ := h
    exact sqL T.T.hl
  · clear T6 hl6
    rintro j xv σ' H7 hj ⟨y, u, n, y4, y7, y8, hn, T7, rfl⟩
    have j2 : j < 2 := (List.getElem?_eq_some_iff.mp hj).1
    obtain ⟨b1, b2⟩ := hbd j j2
    obtain ⟨xj, z, ez, Dz, oz, fz, bk⟩ := T7.pick j j2
    obtain rfl : xv = .ref (xo x1 x2 j) := Option.some.inj (hj.symm.trans xj)
    have hx7 : H7 (xo x1 x2 j) = some (.lst [.ref z.W.A.g, .ref z.W.w, .ref z.W.h, .ref z.W.k, .int z.S.ch, odV z.S.al]) := ez ▸ Dz.X.L.hx
    have hk7 := Dz.X.L.hk
    have kl := Dz.X.L.hs.length
    have sl := fz.sn
    fold_lay
    refine i_cut (fun σ' H' => ∃ y u y4, Two13 c d s lw x1 x2 a p w f N (2 * n + 1) H' y u ∧ σ' = [some (.ref x), some (.ref d), some (.ref a), some (.ref lw), y4, y5, some (.int m), some (.ref (xo x1 x2 j)), y8]) ?_ (fun nx key => ?_)
    rotate_left
    · fold_lay
      rw [List.length_map, kl]
      fold_lay
      refine f_rng1 (by omega) (by omega) (l_rng (fun i σ' H' => ∃ y u y4, Two13 c d s lw x1 x2 a p w f N (n + i) H' y u ∧ σ' = [some (.ref x), some (.ref d), some (.ref a), some (.ref lw), y4, y5, some (.int m), some (.ref (xo x1 x2 j)), y8]) ⟨y, u, _, T7, rfl⟩ ?_ ?_)
      rotate_left
      · rintro σ' H8 ⟨y, u, y4, T8, rfl⟩
        exact key _ _ ⟨y, u, _, T8.up (by omega), rfl⟩
      clear bk T7 key hx7 hk7 Dz oz
      rintro i σ' H8 hi ⟨y, u, y4, T8, rfl⟩
      have hi : i < 85 := by omega
      fold_lay
      rename_i pc hpc
      have sc := same_new (o := .tup [.str "commit"]) hpc
      have T9 := T8.same sc
      have hq : upd H8 pc (.tup [.str "commit"]) pc = some (.tup Stq.cm.vs) := upd_same
      generalize upd H8 pc (.tup [.str "commit"]) = H9 at *
      obtain ⟨_, z, ez, Dz, oz, fz, bk⟩ := T9.pick j j2
      refine ⟨z.W, z.S, z.sn, a, pc, p, .cm, by rw [ez]; rfl, by rw [fz.wd, fz.fl]; exact T9.ha, hq, trivial, Dz, k13, by have := fz.sn; omega, fun W' S' sn' H10 D10 M10 ex10 kp10 sl10 => ?_⟩
      obtain ⟨y', u', T10⟩ := bk W' S' sn' H10 D10 M10 ex10 kp10 sl10
      fold_lay
      exact ⟨y', u', _, T10, rfl⟩
    clear bk T7 hx7 hk7 Dz oz fz kl sl ez z
    rintro σ' H8 ⟨y, u, y4, T8, rfl⟩
    obtain ⟨_, z, ez, Dz, oz, fz, bk⟩ := T8.pick j j2
    have hx8 : H8 (xo x1 x2 j) = some (.lst [.ref z.W.A.g, .ref z.W.w, .ref z.W.h, .ref z.W.k, .int z.S.ch, odV z.S.al]) := ez ▸ Dz.X.L.hx
    have hw8 := Dz.X.L.hw
    have lz := Dz.im.len
    have aw := Dz.im.aw
    fold_lay
    refine i_ixL (sqL hw8) (at_ints (l := z.S.ws) (p := 0) (by omega) (by omega)) ?_
    fold_lay
    refine ⟨d, s, _, rfl, T8.T.D, getD_of aw (by decide), fun wd H9 hwd hD9 s9 => ?_⟩
    have T9 := T8.draw hD9 s9
    have lN := fz.ln
    clear bk hx8 hw8 Dz oz fz ez T8 s9 hD9
    fold_lay
    rename_i pc hpc
    have sc := same_new (o := .tup [.str "poke", .int 0, .int wd]) hpc
    have T10 := T9.same sc
    have hq : upd H9 pc (.tup [.str "poke", .int 0, .int wd]) pc = some (.tup (Stq.dd (.pk 0 wd)).vs) := upd_same
    generalize upd H9 pc (.tup [.str "poke", .int 0, .int wd]) = H10 at *
    rw [lN] at lz
    clear lN aw z
    obtain ⟨_, z, ez, Dz, oz, fz, bk⟩ := T10.pick j j2
    refine ⟨z.W, z.S, z.sn, a, pc, p, .dd (.pk 0 wd), by rw [ez]; rfl, by rw [fz.wd, fz.fl]; exact T10.ha, hq, by rw [fz.ln]; exact ⟨by omega, by omega, hwd⟩, Dz, k13, by have := fz.sn; omega, fun W' S' sn' H12 D12 M12 ex12 kp12 sl12 => ?_⟩
    obtain ⟨y', u', T12⟩ := bk W' S' sn' H12 D12 M12 ex12 kp12 sl12
    fold_lay
    exact ⟨y', u', 2 * n + 1 + 1, _, _, _, by omega, T12, rfl⟩
  · rintro σ' H7 ⟨y, u, n, y4, y7, y8, hn, T7, rfl⟩
    have hl7 := T7.T.hl
    obtain ⟨xj, z, ez, Dz, oz, fz, _⟩ := T7.pick 0 (by omega)
    fold_lay
    refine ⟨z.W, z.S, z.sn, a, p, by rw [ez]; rfl, by rw [fz.wd, fz.fl]; exact T7.ha, Dz, k13.ge.gk, fun H8 s8 => ?_⟩
    have T8 := T7.same s8
    have hl8 := T8.T.hl
    obtain ⟨xk, z, ez, Dz, oz, fz, _⟩ := T8.pick 1 (by omega)
    fold_lay
    exact ⟨z.W, z.S, z.sn, a, p, by rw [ez]; rfl, by rw [fz.wd, fz.fl]; exact T8.ha, Dz, k13.ge.gk, fun H9 _ => k H9⟩
end Gv
namespace K14
open PySem L2 Gv PySem.Spec PyProof.Rows
def top (i : Nat) : Stmt := PySem.Challenge.pw_allgivenback_k14_cut.main.body.getD i (.Pass ⟨0, 0, 0, 0⟩)
abbrev s_c_BadValue_init : Stmt := inClass (top 7) 0
theorem sc_c_BadValue_init : FnScope N_c_BadValue_init ["self", "parameter"] (defScope s_c_BadValue_init) := ⟨rfl, rfl, rfl, by decide +kernel, rfl, by decide +kernel, by decide +kernel⟩
abbrev s_c_Broken_init : Stmt := inClass (top 8) 0
theorem sc_c_Broken_init : FnScope N_c_Broken_init ["self", "place", "found", "due"] (defScope s_c_Broken_init) := ⟨rfl, rfl, rfl, by decide +kernel, rfl, by decide +kernel, by decide +kernel⟩
abbrev s_c_Unknown_init : Stmt := inClass (top 9) 0
theorem sc_c_Unknown_init : FnScope N_c_Unknown_init ["self", "parameter"] (defScope s_c_Unknown_init) := ⟨rfl, rfl, rfl, by decide +kernel, rfl, by decide +kernel, by decide +kernel⟩
abbrev s_c_NotHeld_init : Stmt := inClass (top 10) 0
theorem sc_c_NotHeld_init : FnScope N_c_NotHeld_init ["self", "place", "found"] (defScope s_c_NotHeld_init) := ⟨rfl, rfl, rfl, by decide +kernel, rfl, by decide +kernel, by decide +kernel⟩
abbrev s_c_Cut_init : Stmt := inClass (top 13) 0
theorem sc_c_Cut_init : FnScope N_c_Cut_init ["self", "needed", "left"] (defScope s_c_Cut_init) := ⟨rfl, rfl, rfl, by decide +kernel, rfl, by decide +kernel, by decide +kernel⟩
abbrev s_p_is_whole : Stmt := top 15
theorem sc_p_is_whole : FnScope N_p_is_whole ["value"] (defScope s_p_is_whole) := ⟨rfl, rfl, rfl, by decide +kernel, rfl, by decide +kernel, by decide +kernel⟩
abbrev s_p_whole_between : Stmt := top 16
theorem sc_p_whole_between : FnScope N_p_whole_between ["value", "low", "high"] (defScope s_p_whole_between) := ⟨rfl, rfl, rfl, by decide +kernel, rfl, by decide +kernel, by decide +kernel⟩
abbrev s_p_is_holder : Stmt := top 17
theorem sc_p_is_holder : FnScope N_p_is_holder ["value"] (defScope s_p_is_holder) := ⟨rfl, rfl, rfl, by decide +kernel, rfl, by decide +kernel, by decide +kernel⟩
abbrev s_p_is_between : Stmt := top 21
theorem sc_p_is_between : FnScope N_p_is_between ["value", "low", "high"] (defScope s_p_is_between) := ⟨rfl, rfl, rfl, by decide +kernel, rfl, by decide +kernel, by decide +kernel⟩
abbrev s_p_is_width : Stmt := top 22
theorem sc_p_is_width : FnScope N_p_is_width ["value"] (defScope s_p_is_width) := ⟨rfl, rfl, rfl, by decide +kernel, rfl, by decide +kernel, by decide +kernel⟩
abbrev s_p_is_budget : Stmt := top 25
theorem sc_p_is_budget : FnScope N_p_is_budget ["value"] (defScope s_p_is_budget) := ⟨rfl, rfl, rfl, by decide +kernel, rfl, by decide +kernel, by decide +kernel⟩
abbrev s_c_Ground_init : Stmt := inClass (top 26) 0
theorem sc_c_Ground_init : FnScope N_c_Ground_init ["self", "pages", "width", "fill", "budget"] (defScope s_c_Ground_init) := ⟨rfl, rfl, rfl, by decide +kernel, rfl, by decide +kernel, by decide +kernel⟩
abbrev s_c_Ground_spent : Stmt := inClass (top 26) 2
theorem sc_c_Ground_spent : FnScope N_c_Ground_spent ["self"] (defScope s_c_Ground_spent) := ⟨rfl, rfl, rfl, by decide +kernel, rfl, by decide +kernel, by decide +kernel⟩
abbrev s_c_Ground_depth : Stmt := inClass (top 26) 3
theorem sc_c_Ground_depth : FnScope N_c_Ground_depth ["self"] (defScope s_c_Ground_depth) := ⟨rfl, rfl, rfl, by decide +kernel, rfl, by decide +kernel, by decide +kernel⟩
abbrev s_c_Ground_budget : Stmt := inClass (top 26) 4
theorem sc_c_Ground_budget : FnScope N_c_Ground_budget ["self"] (defScope s_c_Ground_budget) := ⟨rfl, rfl, rfl, by decide +kernel, rfl, by decide +kernel, by decide +kernel⟩
abbrev s_c_Ground_check_place : Stmt := inClass (top 26) 6
theorem sc_c_Ground_check_place : FnScope N_c_Ground_check_place ["self", "place"] (defScope s_c_Ground_check_place) := ⟨rfl, rfl, rfl, by decide +kernel, rfl, by decide +kernel, by decide +kernel⟩
abbrev s_c_Ground_check_guard : Stmt := inClass (top 26) 7
theorem sc_c_Ground_check_guard : FnScope N_c_Ground_check_guard ["self", "place", "holder"] (defScope s_c_Ground_check_guard) := ⟨rfl, rfl, rfl, by decide +kernel, rfl, by decide +kernel, by decide +kernel⟩
abbrev s_c_Ground_write : Stmt := inClass (top 26) 11
theorem sc_c_Ground_write : FnScope N_c_Ground_write ["self", "place", "word", "holder"] (defScope s_c_Ground_write) := ⟨rfl, rfl, rfl, by decide +kernel, rfl, by decide +kernel, by decide +kernel⟩
abbrev s_c_Ground_poke : Stmt := inClass (top 26) 12
theorem sc_c_Ground_poke : FnScope N_c_Ground_poke ["self", "place", "word"] (defScope s_c_Ground_poke) := ⟨rfl, rfl, rfl, by decide +kernel, rfl, by decide +kernel, by decide +kernel⟩
abbrev s_c_Ground_pass_on : Stmt := inClass (top 26) 13
theorem sc_c_Ground_pass_on : FnScope N_c_Ground_pass_on ["self", "start", "size", "giver", "taker"] (defScope s_c_Ground_pass_on) := ⟨rfl, rfl, rfl, by decide +kernel, rfl, by decide +kernel, by decide +kernel⟩
abbrev s_c_Ground_check_fill : Stmt := inClass (top 26) 14
theorem sc_c_Ground_check_fill : FnScope N_c_Ground_check_fill ["self", "start", "size"] (defScope s_c_Ground_check_fill) := ⟨rfl, rfl, rfl, by decide +kernel, rfl, by decide +kernel, by decide +kernel⟩
abbrev s_c_Ground_image : Stmt := inClass (top 26) 16
theorem sc_c_Ground_image : FnScope N_c_Ground_image ["self"] (defScope s_c_Ground_image) := ⟨rfl, rfl, rfl, by decide +kernel, rfl, by decide +kernel, by decide +kernel⟩
abbrev s_c_Ground_begin : Stmt := inClass (top 26) 17
theorem sc_c_Ground_begin : FnScope N_c_Ground_begin ["self"] (defScope s_c_Ground_begin) := ⟨rfl, rfl, rfl, by decide +kernel, rfl, by decide +kernel, by decide +kernel⟩
abbrev s_c_Ground_commit : Stmt := inClass (top 26) 18
theorem sc_c_Ground_commit : FnScope N_c_Ground_commit ["self"] (defScope s_c_Ground_commit) := ⟨rfl, rfl, rfl, by decide +kernel, rfl, by decide +kernel, by decide +kernel⟩
abbrev s_c_Ground_cancel : Stmt := inClass (top 26) 19
theorem sc_c_Ground_cancel : FnScope N_c_Ground_cancel ["self"] (defScope s_c_Ground_cancel) := ⟨rfl, rfl, rfl, by decide +kernel, rfl, by decide +kernel, by decide +kernel⟩
abbrev s_c_Ground_cost_since : Stmt := inClass (top 26) 20
theorem sc_c_Ground_cost_since : FnScope N_c_Ground_cost_since ["self", "deed"] (defScope s_c_Ground_cost_since) := ⟨rfl, rfl, rfl, by decide +kernel, rfl, by decide +kernel, by decide +kernel⟩
abbrev s_c_Ground_change_cell : Stmt := inClass (top 26) 21
theorem sc_c_Ground_change_cell : FnScope N_c_Ground_change_cell ["self", "place", "word", "holder"] (defScope s_c_Ground_change_cell) := ⟨rfl, rfl, rfl, by decide +kernel, rfl, by decide +kernel, by decide +kernel⟩
abbrev s_l_draws : Stmt := top 28
theorem sc_l_draws : FnScope N_l_draws ["_law_script"] (defScope s_l_draws) := ⟨rfl, rfl, rfl, by decide +kernel, rfl, by decide +kernel, by decide +kernel⟩
abbrev s_l_next_cell : Stmt := top 29
theorem sc_l_next_cell : FnScope N_l_next_cell ["_law_draws_here"] (defScope s_l_next_cell) := ⟨rfl, rfl, rfl, by decide +kernel, rfl, by decide +kernel, by decide +kernel⟩
abbrev s_l_mixed : Stmt := top 30
theorem sc_l_mixed : FnScope N_l_mixed ["_law_seed", "_law_turn", "_law_many"] (defScope s_l_mixed) := ⟨rfl, rfl, rfl, by decide +kernel, rfl, by decide +kernel, by decide +kernel⟩
abbrev s_l_take : Stmt := top 31
theorem sc_l_take : FnScope N_l_take ["_law_draws_here", "_law_many"] (defScope s_l_take) := ⟨rfl, rfl, rfl, by decide +kernel, rfl, by decide +kernel, by decide +kernel⟩
abbrev s_l_among : Stmt := top 32
theorem sc_l_among : FnScope N_l_among ["_law_draws_here", "_law_row"] (defScope s_l_among) := ⟨rfl, rfl, rfl, by decide +kernel, rfl, by decide +kernel, by decide +kernel⟩
abbrev s_l_between : Stmt := top 33
theorem sc_l_between : FnScope N_l_between ["_law_draws_here", "_law_low", "_law_high"] (defScope s_l_between) := ⟨rfl, rfl, rfl, by decide +kernel, rfl, by decide +kernel, by decide +kernel⟩
abbrev s_l_number : Stmt := top 34
theorem sc_l_number : FnScope N_l_number ["_law_draws_here", "_law_low", "_law_high"] (defScope s_l_number) := ⟨rfl, rfl, rfl, by decide +kernel, rfl, by decide +kernel, by decide +kernel⟩
abbrev s_l_count : Stmt := top 35
theorem sc_l_count : FnScope N_l_count ["_law_draws_here", "_law_small", "_law_great"] (defScope s_l_count) := ⟨rfl, rfl, rfl, by decide +kernel, rfl, by decide +kernel, by decide +kernel⟩
abbrev s_l_alignment : Stmt := top 36
theorem sc_l_alignment : FnScope N_l_alignment ["_law_draws_here", "_law_most"] (defScope s_l_alignment) := ⟨rfl, rfl, rfl, by decide +kernel, rfl, by decide +kernel, by decide +kernel⟩
abbrev s_l_is_int : Stmt := top 37
theorem sc_l_is_int : FnScope N_l_is_int ["_law_value"] (defScope s_l_is_int) := ⟨rfl, rfl, rfl, by decide +kernel, rfl, by decide +kernel, by decide +kernel⟩
abbrev s_l_same : Stmt := top 38
theorem sc_l_same : FnScope N_l_same ["_law_actual", "_law_expected"] (defScope s_l_same) := ⟨rfl, rfl, rfl, by decide +kernel, rfl, by decide +kernel, by decide +kernel⟩
abbrev s_l_holders : Stmt := top 39
theorem sc_l_holders : FnScope N_l_holders [] (defScope s_l_holders) := ⟨rfl, rfl, rfl, by decide +kernel, rfl, by decide +kernel, by decide +kernel⟩
abbrev s_l_holder : Stmt := top 40
theorem sc_l_holder : FnScope N_l_holder ["_law_draws_here"] (defScope s_l_holder) := ⟨rfl, rfl, rfl, by decide +kernel, rfl, by decide +kernel, by decide +kernel⟩
abbrev s_l_word : Stmt := top 41
theorem sc_l_word : FnScope N_l_word ["_law_draws_here", "_law_blank_here"] (defScope s_l_word) := ⟨rfl, rfl, rfl, by decide +kernel, rfl, by decide +kernel, by decide +kernel⟩
abbrev s_l_other_word : Stmt := top 42
theorem sc_l_other_word : FnScope N_l_other_word ["_law_draws_here", "_law_word_here"] (defScope s_l_other_word) := ⟨rfl, rfl, rfl, by decide +kernel, rfl, by decide +kernel, by decide +kernel⟩
abbrev s_l_blank : Stmt := top 43
theorem sc_l_blank : FnScope N_l_blank ["_law_draws_here"] (defScope s_l_blank) := ⟨rfl, rfl, rfl, by decide +kernel, rfl, by decide +kernel, by decide +kernel⟩
abbrev s_l_ground_args : Stmt := top 44
theorem sc_l_ground_args : FnScope N_l_ground_args ["_law_draws_here"] (defScope s_l_ground_args) := ⟨rfl, rfl, rfl, by decide +kernel, rfl, by decide +kernel, by decide +kernel⟩
abbrev s_l_ground_deed : Stmt := top 45
theorem sc_l_ground_deed : FnScope N_l_ground_deed ["_law_draws_here", "_law_words", "_law_holders_here", "_law_blank_here"] (defScope s_l_ground_deed) := ⟨rfl, rfl, rfl, by decide +kernel, rfl, by decide +kernel, by decide +kernel⟩
abbrev s_l_deed_due : Stmt := top 46
theorem sc_l_deed_due : FnScope N_l_deed_due ["_law_words", "_law_holders_here", "_law_blank_here", "_law_deed"] (defScope s_l_deed_due) := ⟨rfl, rfl, rfl, by decide +kernel, rfl, by decide +kernel, by decide +kernel⟩
abbrev s_l_deed_made : Stmt := top 47
theorem sc_l_deed_made : FnScope N_l_deed_made ["_law_words", "_law_holders_here", "_law_blank_here", "_law_deed"] (defScope s_l_deed_made) := ⟨rfl, rfl, rfl, by decide +kernel, rfl, by decide +kernel, by decide +kernel⟩
abbrev s_l_told : Stmt := top 48
theorem sc_l_told : FnScope N_l_told ["_law_error"] (defScope s_l_told) := ⟨rfl, rfl, rfl, by decide +kernel, rfl, by decide +kernel, by decide +kernel⟩
abbrev s_l_is_image_of : Stmt := top 49
theorem sc_l_is_image_of : FnScope N_l_is_image_of ["_law_actual", "_law_page_width", "_law_blank_here", "_law_words", "_law_holders_here"] (defScope s_l_is_image_of) := ⟨rfl, rfl, rfl, by decide +kernel, rfl, by decide +kernel, by decide +kernel⟩
abbrev s_l_made : Stmt := top 50
theorem sc_l_made : FnScope N_l_made ["_law_size", "_law_purse"] (defScope s_l_made) := ⟨rfl, rfl, rfl, by decide +kernel, rfl, by decide +kernel, by decide +kernel⟩
abbrev s_l_side : Stmt := top 51
theorem sc_l_side : FnScope N_l_side ["_law_size", "_law_purse"] (defScope s_l_side) := ⟨rfl, rfl, rfl, by decide +kernel, rfl, by decide +kernel, by decide +kernel⟩
abbrev s_l_differing : Stmt := top 52
theorem sc_l_differing : FnScope N_l_differing ["_law_old", "_law_side_here"] (defScope s_l_differing) := ⟨rfl, rfl, rfl, by decide +kernel, rfl, by decide +kernel, by decide +kernel⟩
abbrev s_l_step : Stmt := top 53
theorem sc_l_step : FnScope N_l_step14 ["_law_draws_here", "_law_side_here", "_law_blank_here"] (defScope s_l_step) := ⟨rfl, rfl, rfl, by decide +kernel, rfl, by decide +kernel, by decide +kernel⟩
abbrev s_l_played : Stmt := top 54
theorem sc_l_played : FnScope N_l_played ["_law_ground", "_law_step_here"] (defScope s_l_played) := ⟨rfl, rfl, rfl, by decide +kernel, rfl, by decide +kernel, by decide +kernel⟩
abbrev s_l_charged : Stmt := top 55
theorem sc_l_charged : FnScope N_l_charged ["_law_side_here", "_law_old", "_law_told_here"] (defScope s_l_charged) := ⟨rfl, rfl, rfl, by decide +kernel, rfl, by decide +kernel, by decide +kernel⟩
abbrev s_l_step_due : Stmt := top 56
theorem sc_l_step_due : FnScope N_l_step_due ["_law_side_here", "_law_blank_here", "_law_step_here"] (defScope s_l_step_due) := ⟨rfl, rfl, rfl, by decide +kernel, rfl, by decide +kernel, by decide +kernel⟩
abbrev s_l_stands : Stmt := top 57
theorem sc_l_stands : FnScope N_l_stands ["_law_side_here"] (defScope s_l_stands) := ⟨rfl, rfl, rfl, by decide +kernel, rfl, by decide +kernel, by decide +kernel⟩
abbrev s_l_image_stands : Stmt := top 58
theorem sc_l_image_stands : FnScope N_l_image_stands ["_law_side_here", "_law_size"] (defScope s_l_image_stands) := ⟨rfl, rfl, rfl, by decide +kernel, rfl, by decide +kernel, by decide +kernel⟩
abbrev s_l_near_step : Stmt := top 59
theorem sc_l_near_step : FnScope N_l_near_step ["_law_draws_here", "_law_side_here"] (defScope s_l_near_step) := ⟨rfl, rfl, rfl, by decide +kernel, rfl, by decide +kernel, by decide +kernel⟩
abbrev s_l_kept : Stmt := top 60
theorem sc_l_kept : FnScope N_l_kept ["_law_side_here", "_law_size", "_law_step_here"] (defScope s_l_kept) := ⟨rfl, rfl, rfl, by decide +kernel, rfl, by decide +kernel, by decide +kernel⟩
abbrev s_l_law : Stmt := top 61
theorem sc_l_law : FnScope N_l_law ["_law_script"] (defScope s_l_law) := ⟨rfl, rfl, rfl, by decide +kernel, rfl, by decide +kernel, by decide +kernel⟩
/-- where the defs and constants stand -/
structure Ad where
  c : Cl
  c_BadValue_init : Addr
  c_BadValue_init_d : FuncData
  c_Broken_init : Addr
  c_Broken_init_d : FuncData
  c_Unknown_init : Addr
  c_Unknown_init_d : FuncData
  c_NotHeld_init : Addr
  c_NotHeld_init_d : FuncData
  c_Cut_init : Addr
  c_Cut_init_d : FuncData
  p_is_whole : Addr
  p_is_whole_d : FuncData
  p_whole_between : Addr
  p_whole_between_d : FuncData
  p_is_holder : Addr
  p_is_holder_d : FuncData
  p_is_between : Addr
  p_is_between_d : FuncData
  p_is_width : Addr
  p_is_width_d : FuncData
  p_is_budget : Addr
  p_is_budget_d : FuncData
  c_Ground_init : Addr
  c_Ground_init_d : FuncData
  c_Ground_spent : Addr
  c_Ground_spent_d : FuncData
  p_c_Ground_spent : Addr
  c_Ground_depth : Addr
  c_Ground_depth_d : FuncData
  p_c_Ground_depth : Addr
  c_Ground_budget : Addr
  c_Ground_budget_d : FuncData
  p_c_Ground_budget : Addr
  c_Ground_check_place : Addr
  c_Ground_check_place_d : FuncData
  c_Ground_check_guard : Addr
  c_Ground_check_guard_d : FuncData
  c_Ground_write : Addr
  c_Ground_write_d : FuncData
  c_Ground_poke : Addr
  c_Ground_poke_d : FuncData
  c_Ground_pass_on : Addr
  c_Ground_pass_on_d : FuncData
  c_Ground_check_fill : Addr
  c_Ground_check_fill_d : FuncData
  c_Ground_image : Addr
  c_Ground_image_d : FuncData
  c_Ground_begin : Addr
  c_Ground_begin_d : FuncData
  c_Ground_commit : Addr
  c_Ground_commit_d : FuncData
  c_Ground_cancel : Addr
  c_Ground_cancel_d : FuncData
  c_Ground_cost_since : Addr
  c_Ground_cost_since_d : FuncData
  c_Ground_change_cell : Addr
  c_Ground_change_cell_d : FuncData
  l_draws : Addr
  l_draws_d : FuncData
  l_next_cell : Addr
  l_next_cell_d : FuncData
  l_mixed : Addr
  l_mixed_d : FuncData
  l_take : Addr
  l_take_d : FuncData
  l_among : Addr
  l_among_d : FuncData
  l_between : Addr
  l_between_d : FuncData
  l_number : Addr
  l_number_d : FuncData
  l_count : Addr
  l_count_d : FuncData
  l_alignment : Addr
  l_alignment_d : FuncData
  l_is_int : Addr
  l_is_int_d : FuncData
  l_same : Addr
  l_same_d : FuncData
  l_holders : Addr
  l_holders_d : FuncData
  l_holder : Addr
  l_holder_d : FuncData
  l_word : Addr
  l_word_d : FuncData
  l_other_word : Addr
  l_other_word_d : FuncData
  l_blank : Addr
  l_blank_d : FuncData
  l_ground_args : Addr
  l_ground_args_d : FuncData
  l_ground_deed : Addr
  l_ground_deed_d : FuncData
  l_deed_due : Addr
  l_deed_due_d : FuncData
  l_deed_made : Addr
  l_deed_made_d : FuncData
  l_told : Addr
  l_told_d : FuncData
  l_is_image_of : Addr
  l_is_image_of_d : FuncData
  l_made : Addr
  l_made_d : FuncData
  l_side : Addr
  l_side_d : FuncData
  l_differing : Addr
  l_differing_d : FuncData
  l_step : Addr
  l_step_d : FuncData
  l_played : Addr
  l_played_d : FuncData
  l_charged : Addr
  l_charged_d : FuncData
  l_step_due : Addr
  l_step_due_d : FuncData
  l_stands : Addr
  l_stands_d : FuncData
  l_image_stands : Addr
  l_image_stands_d : FuncData
  l_near_step : Addr
  l_near_step_d : FuncData
  l_kept : Addr
  l_kept_d : FuncData
  l_law : Addr
  l_law_d : FuncData
  v_MAP : Value
  v_MOST_BUDGET : Value
  v_MOST_PAGES : Value
  v_MOST_WORD : Value
  v_NOBODY : Value
  v_NODE : Value
/-- what the top has written -/
structure Txt (K : PySem.W.Frag) (mg : Str → Option Value) (a : Ad) : Prop where
  b_ValueError : mg "ValueError" = none
  b_bool : mg "bool" = none
  b_dict : mg "dict" = none
  b_int : mg "int" = none
  b_isinstance : mg "isinstance" = none
  b_len : mg "len" = none
  b_list : mg "list" = none
  b_max : mg "max" = none
  b_min : mg "min" = none
  b_range : mg "range" = none
  b_str : mg "str" = none
  b_tuple : mg "tuple" = none
  g_MAP : mg "MAP" = some a.v_MAP
  r_MAP : RelV (.int 21) a.v_MAP
  g_MOST_BUDGET : mg "MOST_BUDGET" = some a.v_MOST_BUDGET
  r_MOST_BUDGET : RelV (.int 1000000000) a.v_MOST_BUDGET
  g_MOST_PAGES : mg "MOST_PAGES" = some a.v_MOST_PAGES
  r_MOST_PAGES : RelV (.int 256) a.v_MOST_PAGES
  g_MOST_WORD : mg "MOST_WORD" = some a.v_MOST_WORD
  r_MOST_WORD : RelV (.int 65535) a.v_MOST_WORD
  g_NOBODY : mg "NOBODY" = some a.v_NOBODY
  r_NOBODY : RelV (.int 0) a.v_NOBODY
  g_NODE : mg "NODE" = some a.v_NODE
  r_NODE : RelV (.int 28) a.v_NODE
  g_WIDTHS : mg "WIDTHS" = some (.ref a.c.x_WIDTHS)
  u_WIDTHS : KTup K a.c.x_WIDTHS [16, 32, 64]
  k_StoreError : mg "StoreError" = some (.ref a.c.k_StoreError)
  k_BadValue : mg "BadValue" = some (.ref a.c.k_BadValue)
  k_Broken : mg "Broken" = some (.ref a.c.k_Broken)
  k_Unknown : mg "Unknown" = some (.ref a.c.k_Unknown)
  k_NotHeld : mg "NotHeld" = some (.ref a.c.k_NotHeld)
  k_Fault : mg "Fault" = some (.ref a.c.k_Fault)
  k_NoRoom : mg "NoRoom" = some (.ref a.c.k_NoRoom)
  k_Cut : mg "Cut" = some (.ref a.c.k_Cut)
  k_BadLine : mg "BadLine" = some (.ref a.c.k_BadLine)
  k_Ground : mg "Ground" = some (.ref a.c.k_Ground)
  cl_Ground : Cls K a.c.k_Ground
  mk_Ground : Mk K a.c.k_Ground a.c_Ground_init
  kb_Ground_2_fill : ∃ g, KBn K a.c_Ground_init_d ["self", "pages", "width", "fill", "budget"] 3 ["fill"] g (gv_Ground_2_fill)
  kb_Ground_2_fill_budget : ∃ g, KBn K a.c_Ground_init_d ["self", "pages", "width", "fill", "budget"] 3 ["fill", "budget"] g (gv_Ground_2_fill_budget)
  db_Ground_2 : ∃ ds, Vals [(.int 0), .non] ds ∧ Binds K a.c_Ground_init_d ["self", "pages", "width", "fill", "budget"] ds
  pr_c_Ground_spent : PropOf K a.c.k_Ground "spent" a.p_c_Ground_spent a.c_Ground_spent
  pr_c_Ground_depth : PropOf K a.c.k_Ground "depth" a.p_c_Ground_depth a.c_Ground_depth
  pr_c_Ground_budget : PropOf K a.c.k_Ground "budget" a.p_c_Ground_budget a.c_Ground_budget
  mt_c_Ground_check_place : Meth K a.c.k_Ground "check_place" a.c_Ground_check_place
  mt_c_Ground_check_guard : Meth K a.c.k_Ground "check_guard" a.c_Ground_check_guard
  mt_c_Ground_write : Meth K a.c.k_Ground "write" a.c_Ground_write
  mt_c_Ground_poke : Meth K a.c.k_Ground "poke" a.c_Ground_poke
  mt_c_Ground_pass_on : Meth K a.c.k_Ground "pass_on" a.c_Ground_pass_on
  mt_c_Ground_check_fill : Meth K a.c.k_Ground "check_fill" a.c_Ground_check_fill
  mt_c_Ground_image : Meth K a.c.k_Ground "image" a.c_Ground_image
  mt_c_Ground_begin : Meth K a.c.k_Ground "begin" a.c_Ground_begin
  mt_c_Ground_commit : Meth K a.c.k_Ground "commit" a.c_Ground_commit
  mt_c_Ground_cancel : Meth K a.c.k_Ground "cancel" a.c_Ground_cancel
  mt_c_Ground_cost_since : Meth K a.c.k_Ground "cost_since" a.c_Ground_cost_since
  mt_c_Ground_change_cell : Meth K a.c.k_Ground "change_cell" a.c_Ground_change_cell
  c_BadValue_init : DfM K "__init__" "BadValue.__init__" s_c_BadValue_init ["self", "parameter"] a.c_BadValue_init a.c_BadValue_init_d
  c_Broken_init : DfM K "__init__" "Broken.__init__" s_c_Broken_init ["self", "place", "found", "due"] a.c_Broken_init a.c_Broken_init_d
  c_Unknown_init : DfM K "__init__" "Unknown.__init__" s_c_Unknown_init ["self", "parameter"] a.c_Unknown_init a.c_Unknown_init_d
  c_NotHeld_init : DfM K "__init__" "NotHeld.__init__" s_c_NotHeld_init ["self", "place", "found"] a.c_NotHeld_init a.c_NotHeld_init_d
  c_Cut_init : DfM K "__init__" "Cut.__init__" s_c_Cut_init ["self", "needed", "left"] a.c_Cut_init a.c_Cut_init_d
  p_is_whole : DfG K mg "is_whole" s_p_is_whole ["value"] a.p_is_whole a.p_is_whole_d
  p_whole_between : DfG K mg "whole_between" s_p_whole_between ["value", "low", "high"] a.p_whole_between a.p_whole_between_d
  p_is_holder : DfG K mg "is_holder" s_p_is_holder ["value"] a.p_is_holder a.p_is_holder_d
  p_is_between : DfG K mg "is_between" s_p_is_between ["value", "low", "high"] a.p_is_between a.p_is_between_d
  p_is_width : DfG K mg "is_width" s_p_is_width ["value"] a.p_is_width a.p_is_width_d
  p_is_budget : DfG K mg "is_budget" s_p_is_budget ["value"] a.p_is_budget a.p_is_budget_d
  c_Ground_init : DfK K "__init__" "Ground.__init__" s_c_Ground_init a.c_Ground_init a.c_Ground_init_d
  c_Ground_spent : DfM K "spent" "Ground.spent" s_c_Ground_spent ["self"] a.c_Ground_spent a.c_Ground_spent_d
  c_Ground_depth : DfM K "depth" "Ground.depth" s_c_Ground_depth ["self"] a.c_Ground_depth a.c_Ground_depth_d
  c_Ground_budget : DfM K "budget" "Ground.budget" s_c_Ground_budget ["self"] a.c_Ground_budget a.c_Ground_budget_d
  c_Ground_check_place : DfM K "check_place" "Ground.check_place" s_c_Ground_check_place ["self", "place"] a.c_Ground_check_place a.c_Ground_check_place_d
  c_Ground_check_guard : DfM K "check_guard" "Ground.check_guard" s_c_Ground_check_guard ["self", "place", "holder"] a.c_Ground_check_guard a.c_Ground_check_guard_d
  c_Ground_write : DfM K "write" "Ground.write" s_c_Ground_write ["self", "place", "word", "holder"] a.c_Ground_write a.c_Ground_write_d
  c_Ground_poke : DfM K "poke" "Ground.poke" s_c_Ground_poke ["self", "place", "word"] a.c_Ground_poke a.c_Ground_poke_d
  c_Ground_pass_on : DfM K "pass_on" "Ground.pass_on" s_c_Ground_pass_on ["self", "start", "size", "giver", "taker"] a.c_Ground_pass_on a.c_Ground_pass_on_d
  c_Ground_check_fill : DfM K "check_fill" "Ground.check_fill" s_c_Ground_check_fill ["self", "start", "size"] a.c_Ground_check_fill a.c_Ground_check_fill_d
  c_Ground_image : DfM K "image" "Ground.image" s_c_Ground_image ["self"] a.c_Ground_image a.c_Ground_image_d
  c_Ground_begin : DfM K "begin" "Ground.begin" s_c_Ground_begin ["self"] a.c_Ground_begin a.c_Ground_begin_d
  c_Ground_commit : DfM K "commit" "Ground.commit" s_c_Ground_commit ["self"] a.c_Ground_commit a.c_Ground_commit_d
  c_Ground_cancel : DfM K "cancel" "Ground.cancel" s_c_Ground_cancel ["self"] a.c_Ground_cancel a.c_Ground_cancel_d
  c_Ground_cost_since : DfM K "cost_since" "Ground.cost_since" s_c_Ground_cost_since ["self", "deed"] a.c_Ground_cost_since a.c_Ground_cost_since_d
  c_Ground_change_cell : DfM K "change_cell" "Ground.change_cell" s_c_Ground_change_cell ["self", "place", "word", "holder"] a.c_Ground_change_cell a.c_Ground_change_cell_d
  l_draws : DfG K mg "_law_draws" s_l_draws ["_law_script"] a.l_draws a.l_draws_d
  l_next_cell : DfG K mg "_law_next_cell" s_l_next_cell ["_law_draws_here"] a.l_next_cell a.l_next_cell_d
  l_mixed : DfG K mg "_law_mixed" s_l_mixed ["_law_seed", "_law_turn", "_law_many"] a.l_mixed a.l_mixed_d
  l_take : DfG K mg "_law_take" s_l_take ["_law_draws_here", "_law_many"] a.l_take a.l_take_d
  l_among : DfG K mg "_law_among" s_l_among ["_law_draws_here", "_law_row"] a.l_among a.l_among_d
  l_between : DfG K mg "_law_between" s_l_between ["_law_draws_here", "_law_low", "_law_high"] a.l_between a.l_between_d
  l_number : DfG K mg "_law_number" s_l_number ["_law_draws_here", "_law_low", "_law_high"] a.l_number a.l_number_d
  l_count : DfG K mg "_law_count" s_l_count ["_law_draws_here", "_law_small", "_law_great"] a.l_count a.l_count_d
  l_alignment : DfG K mg "_law_alignment" s_l_alignment ["_law_draws_here", "_law_most"] a.l_alignment a.l_alignment_d
  l_is_int : DfG K mg "_law_is_int" s_l_is_int ["_law_value"] a.l_is_int a.l_is_int_d
  l_same : DfG K mg "_law_same" s_l_same ["_law_actual", "_law_expected"] a.l_same a.l_same_d
  l_holders : DfG K mg "_law_holders" s_l_holders [] a.l_holders a.l_holders_d
  l_holder : DfG K mg "_law_holder" s_l_holder ["_law_draws_here"] a.l_holder a.l_holder_d
  l_word : DfG K mg "_law_word" s_l_word ["_law_draws_here", "_law_blank_here"] a.l_word a.l_word_d
  l_other_word : DfG K mg "_law_other_word" s_l_other_word ["_law_draws_here", "_law_word_here"] a.l_other_word a.l_other_word_d
  l_blank : DfG K mg "_law_blank" s_l_blank ["_law_draws_here"] a.l_blank a.l_blank_d
  l_ground_args : DfG K mg "_law_ground_args" s_l_ground_args ["_law_draws_here"] a.l_ground_args a.l_ground_args_d
  l_ground_deed : DfG K mg "_law_ground_deed" s_l_ground_deed ["_law_draws_here", "_law_words", "_law_holders_here", "_law_blank_here"] a.l_ground_deed a.l_ground_deed_d
  l_deed_due : DfG K mg "_law_deed_due" s_l_deed_due ["_law_words", "_law_holders_here", "_law_blank_here", "_law_deed"] a.l_deed_due a.l_deed_due_d
  l_deed_made : DfG K mg "_law_deed_made" s_l_deed_made ["_law_words", "_law_holders_here", "_law_blank_here", "_law_deed"] a.l_deed_made a.l_deed_made_d
  l_told : DfG K mg "_law_told" s_l_told ["_law_error"] a.l_told a.l_told_d
  l_is_image_of : DfG K mg "_law_is_image_of" s_l_is_image_of ["_law_actual", "_law_page_width", "_law_blank_here", "_law_words", "_law_holders_here"] a.l_is_image_of a.l_is_image_of_d
  l_made : DfG K mg "_law_made" s_l_made ["_law_size", "_law_purse"] a.l_made a.l_made_d
  l_side : DfG K mg "_law_side" s_l_side ["_law_size", "_law_purse"] a.l_side a.l_side_d
  l_differing : DfG K mg "_law_differing" s_l_differing ["_law_old", "_law_side_here"] a.l_differing a.l_differing_d
  l_step : DfG K mg "_law_step" s_l_step ["_law_draws_here", "_law_side_here", "_law_blank_here"] a.l_step a.l_step_d
  l_played : DfG K mg "_law_played" s_l_played ["_law_ground", "_law_step_here"] a.l_played a.l_played_d
  l_charged : DfG K mg "_law_charged" s_l_charged ["_law_side_here", "_law_old", "_law_told_here"] a.l_charged a.l_charged_d
  l_step_due : DfG K mg "_law_step_due" s_l_step_due ["_law_side_here", "_law_blank_here", "_law_step_here"] a.l_step_due a.l_step_due_d
  l_stands : DfG K mg "_law_stands" s_l_stands ["_law_side_here"] a.l_stands a.l_stands_d
  l_image_stands : DfG K mg "_law_image_stands" s_l_image_stands ["_law_side_here", "_law_size"] a.l_image_stands a.l_image_stands_d
  l_near_step : DfG K mg "_law_near_step" s_l_near_step ["_law_draws_here", "_law_side_here"] a.l_near_step a.l_near_step_d
  l_kept : DfG K mg "_law_kept" s_l_kept ["_law_side_here", "_law_size", "_law_step_here"] a.l_kept a.l_kept_d
  l_law : DfG K mg "law" s_l_law ["_law_script"] a.l_law a.l_law_d
  bv : BvC K a.c.k_BadValue
  iC : PySem.W.findIn K (.ref a.c.k_BadValue) "__init__" = some (some (.ref a.c_BadValue_init))
  tI : PySem.W.typeIn K (.ref a.c_BadValue_init) = some (.type "function")
  k12 : K13K K a.c
  e_Broken : ErC K a.c.k_Broken ["told", "place", "found", "due"]
  iC_Broken : PySem.W.findIn K (.ref a.c.k_Broken) "__init__" = some (some (.ref a.c_Broken_init))
  tI_Broken : PySem.W.typeIn K (.ref a.c_Broken_init) = some (.type "function")
  e_Unknown : ErC K a.c.k_Unknown ["told", "parameter"]
  iC_Unknown : PySem.W.findIn K (.ref a.c.k_Unknown) "__init__" = some (some (.ref a.c_Unknown_init))
  tI_Unknown : PySem.W.typeIn K (.ref a.c_Unknown_init) = some (.type "function")
  e_NotHeld : ErC K a.c.k_NotHeld ["told", "place", "found"]
  iC_NotHeld : PySem.W.findIn K (.ref a.c.k_NotHeld) "__init__" = some (some (.ref a.c_NotHeld_init))
  tI_NotHeld : PySem.W.typeIn K (.ref a.c_NotHeld_init) = some (.type "function")
  e_Cut : ErC K a.c.k_Cut ["told", "needed", "left"]
  iC_Cut : PySem.W.findIn K (.ref a.c.k_Cut) "__init__" = some (some (.ref a.c_Cut_init))
  tI_Cut : PySem.W.typeIn K (.ref a.c_Cut_init) = some (.type "function")
section
variable {P : Program} {w : World} {K : PySem.W.Frag} {mg : Str → Option Value} {base : Heap} {a : Ad}
theorem ok_c_BadValue_init (T : Txt K mg a) : FnOk P w K mg base CX0 1 a.c_BadValue_init a.c_BadValue_init_d ["self", "parameter"] (sp_init_BadValue K a.c.k_BadValue) := by
  refine T.c_BadValue_init.fn.ok sc_c_BadValue_init (fun vs H Q E h => ?_) (fun cdv A outer s H vs Q E hr h => ⟨t_c_BadValue_init K, ?_, pure_init_BadValue  h⟩)
  · repeat' (first | (obtain ⟨e, _⟩ := h; (first | (subst e; rfl) | (rw [e]; rfl))) | (obtain ⟨_, h⟩ := h))
  · exact (pss_cons (ps_ost (pv 0) (pv 1))
  (pss_one (ps_ost (pv 0) (pe_tup (pa_cons pe_str (pa_cons (pe_tup (pa_cons (pv 1) pa_nil)) pa_nil))))))
theorem ok_c_Broken_init (T : Txt K mg a) : FnOk P w K mg base CX0 1 a.c_Broken_init a.c_Broken_init_d ["self", "place", "found", "due"] (sp_init_Broken K a.c.k_Broken) := by
  refine T.c_Broken_init.fn.ok sc_c_Broken_init (fun vs H Q E h => ?_) (fun cdv A outer s H vs Q E hr h => ⟨t_c_Broken_init K, ?_, pure_init_Broken  h⟩)
  · repeat' (first | (obtain ⟨e, _⟩ := h; (first | (subst e; rfl) | (rw [e]; rfl))) | (obtain ⟨_, h⟩ := h))
  · exact (pss_cons (ps_ost (pv 0) (pv 1))
  (pss_cons (ps_ost (pv 0) (pv 2))
  (pss_cons (ps_ost (pv 0) (pv 3))
  (pss_one (ps_ost (pv 0) (pe_tup (pa_cons pe_str (pa_cons (pe_tup (pa_cons (pv 1) (pa_cons (pv 2) (pa_cons (pv 3) pa_nil)))) pa_nil))))))))
theorem ok_c_Unknown_init (T : Txt K mg a) : FnOk P w K mg base CX0 1 a.c_Unknown_init a.c_Unknown_init_d ["self", "parameter"] (sp_init_Unknown K a.c.k_Unknown) := by
  refine T.c_Unknown_init.fn.ok sc_c_Unknown_init (fun vs H Q E h => ?_) (fun cdv A outer s H vs Q E hr h => ⟨t_c_Unknown_init K, ?_, pure_init_Unknown  h⟩)
  · repeat' (first | (obtain ⟨e, _⟩ := h; (first | (subst e; rfl) | (rw [e]; rfl))) | (obtain ⟨_, h⟩ := h))
  · exact (pss_cons (ps_ost (pv 0) (pv 1))
  (pss_one (ps_ost (pv 0) (pe_tup (pa_cons pe_str (pa_cons (pe_tup (pa_cons (pv 1) pa_nil)) pa_nil))))))
theorem ok_c_NotHeld_init (T : Txt K mg a) : FnOk P w K mg base CX0 1 a.c_NotHeld_init a.c_NotHeld_init_d ["self", "place", "found"] (sp_init_NotHeld K a.c.k_NotHeld) := by
  refine T.c_NotHeld_init.fn.ok sc_c_NotHeld_init (fun vs H Q E h => ?_) (fun cdv A outer s H vs Q E hr h => ⟨t_c_NotHeld_init K, ?_, pure_init_NotHeld  h⟩)
  · repeat' (first | (obtain ⟨e, _⟩ := h; (first | (subst e; rfl) | (rw [e]; rfl))) | (obtain ⟨_, h⟩ := h))
  · exact (pss_cons (ps_ost (pv 0) (pv 1))
  (pss_cons (ps_ost (pv 0) (pv 2))
  (pss_one (ps_ost (pv 0) (pe_tup (pa_cons pe_str (pa_cons (pe_tup (pa_cons (pv 1) (pa_cons (pv 2) pa_nil))) pa_nil)))))))
theorem ok_c_Cut_init (T : Txt K mg a) : FnOk P w K mg base CX0 1 a.c_Cut_init a.c_Cut_init_d ["self", "needed", "left"] (sp_init_Cut K a.c.k_Cut) := by
  refine T.c_Cut_init.fn.ok sc_c_Cut_init (fun vs H Q E h => ?_) (fun cdv A outer s H vs Q E hr h => ⟨t_c_Cut_init K, ?_, pure_init_Cut  h⟩)
  · repeat' (first | (obtain ⟨e, _⟩ := h; (first | (subst e; rfl) | (rw [e]; rfl))) | (obtain ⟨_, h⟩ := h))
  · exact (pss_cons (ps_ost (pv 0) (pv 1))
  (pss_cons (ps_ost (pv 0) (pv 2))
  (pss_one (ps_ost (pv 0) (pe_tup (pa_cons pe_str (pa_cons (pe_tup (pa_cons (pv 1) (pa_cons (pv 2) pa_nil))) pa_nil)))))))
theorem ok_p_is_whole (T : Txt K mg a) : FnOk P w K mg base CX0 1 a.p_is_whole a.p_is_whole_d ["value"] (sp_is_whole K) := by
  refine T.p_is_whole.fn.ok sc_p_is_whole (fun vs H Q E h => ?_) (fun cdv A outer s H vs Q E hr h => ⟨t_p_is_whole K, ?_, pure_is_whole  h⟩)
  · repeat' (first | (obtain ⟨e, _⟩ := h; (first | (subst e; rfl) | (rw [e]; rfl))) | (obtain ⟨_, h⟩ := h))
  · exact (pss_one (ps_ret (pe_and (pe_callB call_isi (by rfl) T.b_isinstance (by decide +kernel) (pa_cons (pv 0) (pa_cons (pe_bltn (by rfl) T.b_int (by decide +kernel) rfl) pa_nil))) (pe_one (pe_not (pe_callB call_isi (by rfl) T.b_isinstance (by decide +kernel) (pa_cons (pv 0) (pa_cons (pe_bltn (by rfl) T.b_bool (by decide +kernel) rfl) pa_nil))))))))
theorem ok_c_Ground_spent (T : Txt K mg a) : FnOk P w K mg base CX0 1 a.c_Ground_spent a.c_Ground_spent_d ["self"] (sp_spent K a.c) := by
  refine T.c_Ground_spent.fn.ok sc_c_Ground_spent (fun vs H Q E h => ?_) (fun cdv A outer s H vs Q E hr h => ⟨t_c_Ground_spent K, ?_, pure_spent  h⟩)
  · repeat' (first | (obtain ⟨e, _⟩ := h; (first | (subst e; rfl) | (rw [e]; rfl))) | (obtain ⟨_, h⟩ := h))
  · exact (pss_one (ps_ret (pe_fld (pv 0) rfl)))
theorem ok_c_Ground_depth (T : Txt K mg a) : FnOk P w K mg base CX0 1 a.c_Ground_depth a.c_Ground_depth_d ["self"] (sp_depth K a.c) := by
  refine T.c_Ground_depth.fn.ok sc_c_Ground_depth (fun vs H Q E h => ?_) (fun cdv A outer s H vs Q E hr h => ⟨t_c_Ground_depth K, ?_, pure_depth  h⟩)
  · repeat' (first | (obtain ⟨e, _⟩ := h; (first | (subst e; rfl) | (rw [e]; rfl))) | (obtain ⟨_, h⟩ := h))
  · exact (pss_one (ps_ret (pe_callB call_len (by rfl) T.b_len (by decide +kernel) (pa_cons (pe_fld (pv 0) rfl) pa_nil))))
theorem ok_c_Ground_budget (T : Txt K mg a) : FnOk P w K mg base CX0 1 a.c_Ground_budget a.c_Ground_budget_d ["self"] (sp_budget K a.c) := by
  refine T.c_Ground_budget.fn.ok sc_c_Ground_budget (fun vs H Q E h => ?_) (fun cdv A outer s H vs Q E hr h => ⟨t_c_Ground_budget K, ?_, pure_budget  h⟩)
  · repeat' (first | (obtain ⟨e, _⟩ := h; (first | (subst e; rfl) | (rw [e]; rfl))) | (obtain ⟨_, h⟩ := h))
  · exact (pss_one (ps_ret (pe_fld (pv 0) rfl)))
theorem ok_c_Ground_image (T : Txt K mg a) : FnOk P w K mg base CX0 1 a.c_Ground_image a.c_Ground_image_d ["self"] (sp_image K a.c) := by
  refine T.c_Ground_image.fn.ok sc_c_Ground_image (fun vs H Q E h => ?_) (fun cdv A outer s H vs Q E hr h => ⟨t_c_Ground_image K, ?_, pure_image  h⟩)
  · repeat' (first | (obtain ⟨e, _⟩ := h; (first | (subst e; rfl) | (rw [e]; rfl))) | (obtain ⟨_, h⟩ := h))
  · exact (pss_one (ps_ret (pe_tup (pa_cons (pe_fld (pv 0) rfl) (pa_cons (pe_fld (pv 0) rfl) (pa_cons (pe_callTy call_tuple_of (by rfl) T.b_tuple (by decide +kernel) (pa_cons (pe_fld (pv 0) rfl) pa_nil)) (pa_cons (pe_callTy call_tuple_of (by rfl) T.b_tuple (by decide +kernel) (pa_cons (pe_fld (pv 0) rfl) pa_nil)) pa_nil)))))))
theorem ok_c_Ground_begin (T : Txt K mg a) : FnOk P w K mg base CX0 1 a.c_Ground_begin a.c_Ground_begin_d ["self"] (sp_begin K a.c) := by
  refine T.c_Ground_begin.fn.ok sc_c_Ground_begin (fun vs H Q E h => ?_) (fun cdv A outer s H vs Q E hr h => ⟨t_c_Ground_begin K, ?_, pure_begin  h⟩)
  · repeat' (first | (obtain ⟨e, _⟩ := h; (first | (subst e; rfl) | (rw [e]; rfl))) | (obtain ⟨_, h⟩ := h))
  · exact (pss_cons (ps_expr (pe_bm PySem.F.plainAttrs_list PySem.F.slot_list_append PySem.F.type_list_append mt_append (pe_fld (pv 0) rfl) (pa_cons pe_dnewK pa_nil)))
  (pss_one (ps_ret (pe_callB call_len (by rfl) T.b_len (by decide +kernel) (pa_cons (pe_fld (pv 0) rfl) pa_nil)))))
theorem ok_c_Ground_cost_since (T : Txt K mg a) : FnOk P w K mg base CX0 1 a.c_Ground_cost_since a.c_Ground_cost_since_d ["self", "deed"] (sp_cost_since K a.c) := by
  refine T.c_Ground_cost_since.fn.ok sc_c_Ground_cost_since (fun vs H Q E h => ?_) (fun cdv A outer s H vs Q E hr h => ⟨t_c_Ground_cost_since K, ?_, pure_cost_since  h⟩)
  · repeat' (first | (obtain ⟨e, _⟩ := h; (first | (subst e; rfl) | (rw [e]; rfl))) | (obtain ⟨_, h⟩ := h))
  · exact (pss_cons (ps_set (i := 2) sc_c_Ground_cost_since.nd rfl (Or.inl rfl) pe_int)
  (pss_cons (ps_lock (ps_for PassesOwn.never rfl (pi_items (pv 1)) (pg_tup rfl (pgs_cons (pg_name (i := 3) sc_c_Ground_cost_since.nd rfl (Or.inl rfl)) (pgs_cons (pg_tup rfl (pgs_cons (pg_name (i := 4) sc_c_Ground_cost_since.nd rfl (Or.inl rfl)) (pgs_cons (pg_name (i := 5) sc_c_Ground_cost_since.nd rfl (Or.inl rfl)) pgs_nil))) pgs_nil))) (pss_one (ps_if (PW.pt (pw_or (pt_cmpR op_ne (pe_ix ix_list (pe_fld (pv 0) rfl) (pv 3) (fun _ _ => rfl)) (pv 4) (nomark _)) (pw_or1 (pt_cmpR op_ne (pe_ix ix_list (pe_fld (pv 0) rfl) (pv 3) (fun _ _ => rfl)) (pv 5) (nomark _))))) (pss_one (ps_aug (i := 2) sc_c_Ground_cost_since.nd rfl (Or.inl rfl) pe_int ip_add)) pss_nil))))
  (pss_one (ps_ret (pv 2)))))
theorem ok_c_Ground_change_cell (T : Txt K mg a) : FnOk P w K mg base CX0 1 a.c_Ground_change_cell a.c_Ground_change_cell_d ["self", "place", "word", "holder"] (sp_change_cell K a.c) := by
  refine T.c_Ground_change_cell.fn.ok sc_c_Ground_change_cell (fun vs H Q E h => ?_) (fun cdv A outer s H vs Q E hr h => ⟨t_c_Ground_change_cell K, ?_, pure_change_cell  h⟩)
  · repeat' (first | (obtain ⟨e, _⟩ := h; (first | (subst e; rfl) | (rw [e]; rfl))) | (obtain ⟨_, h⟩ := h))
  · exact (pss_cons (ps_set (i := 4) sc_c_Ground_change_cell.nd rfl (Or.inl rfl) (pe_ix ix_list (pe_fld (pv 0) rfl) (pe_un un_neg pe_int) (fun _ _ => rfl)))
  (pss_cons (ps_if (pt_cmp (pc_dnotin (hu_of hr) (pv 1) (pv 4))) (pss_one (ps_dput (hu_of hr) (pv 4) (pv 1) (pe_tup (pa_cons (pe_ix ix_list (pe_fld (pv 0) rfl) (pv 1) (fun _ _ => rfl)) (pa_cons (pe_ix ix_list (pe_fld (pv 0) rfl) (pv 1) (fun _ _ => rfl)) pa_nil))) rfl)) pss_nil)
  (pss_cons (ps_asg (pv 2) (pg_sub (pe_fld (pv 0) rfl) (pv 1) set_list))
  (pss_one (ps_asg (pv 3) (pg_sub (pe_fld (pv 0) rfl) (pv 1) set_list))))))
theorem ok_l_draws (T : Txt K mg a) : FnOk P w K mg base CX0 1 a.l_draws a.l_draws_d ["_law_script"] (sp_draws K) := by
  refine T.l_draws.fn.ok sc_l_draws (fun vs H Q E h => ?_) (fun cdv A outer s H vs Q E hr h => ⟨t_l_draws K, ?_, pure_draws  h⟩)
  · repeat' (first | (obtain ⟨e, _⟩ := h; (first | (subst e; rfl) | (rw [e]; rfl))) | (obtain ⟨_, h⟩ := h))
  · exact (pss_one (ps_ret (pe_lst (pa_cons (pe_lc (own := [("_law_cell", 1)]) (g := (gName 1)) (tt := tYes) (by rfl) sc_l_draws.nd (pi_list (pv 0)) (blkOk_by (own := [("_law_cell", 1)]) (N := N_l_draws) (sc := defScope s_l_draws) (by decide +kernel)) (fun _ _ _ _ _ => pg_name (i := 1) sc_l_draws.nd rfl (Or.inl rfl)) (fun _ _ _ _ _ => pts_nil) (fun _ _ _ _ _ => (pe_callTy call_int1 (by rfl) T.b_int (by decide +kernel) (pa_cons (pv 1) pa_nil)))) (pa_cons (pe_lst (pa_cons pe_int (pa_cons pe_int (pa_cons pe_int (pa_cons pe_int (pa_cons pe_int pa_nil)))))) pa_nil)))))
theorem ok_l_next_cell (T : Txt K mg a) : FnOk P w K mg base CX0 1 a.l_next_cell a.l_next_cell_d ["_law_draws_here"] sp_next_cell := by
  refine T.l_next_cell.fn.ok sc_l_next_cell (fun vs H Q E h => ?_) (fun cdv A outer s H vs Q E hr h => ⟨t_l_next_cell K, ?_, pure_next_cell  h⟩)
  · repeat' (first | (obtain ⟨e, _⟩ := h; (first | (subst e; rfl) | (rw [e]; rfl))) | (obtain ⟨_, h⟩ := h))
  · exact (pss_cons (ps_set (i := 1) sc_l_next_cell.nd rfl (Or.inl rfl) (pe_ix ix_list (pv 0) pe_int (fun _ _ => rfl)))
  (pss_cons (ps_set (i := 2) sc_l_next_cell.nd rfl (Or.inl rfl) (pe_ix ix_list (pv 0) pe_int (fun _ _ => rfl)))
  (pss_one (ps_if (pt_cmpR op_lt (pe_ix ix_list (pv 2) pe_int (fun _ _ => rfl)) (pe_callB call_len (by rfl) T.b_len (by decide +kernel) (pa_cons (pv 1) pa_nil)) (nomark _)) (pss_cons (ps_set (i := 3) sc_l_next_cell.nd rfl (Or.inl rfl) (pe_callTy call_int1 (by rfl) T.b_int (by decide +kernel) (pa_cons (pe_ix ix_list (pv 1) (pe_ix ix_list (pv 2) pe_int (fun _ _ => rfl)) (fun _ _ => rfl)) pa_nil)))
  (pss_cons (ps_asg (pe_op op_add (pe_ix ix_list (pv 2) pe_int (fun _ _ => rfl)) pe_int) (pg_sub (pv 2) pe_int set_list))
  (pss_cons (ps_asg (pe_op op_mod (pe_callTy call_int1 (by rfl) T.b_int (by decide +kernel) (pa_cons (pe_op op_add (pe_op op_add (pe_op op_mul (pe_ix ix_list (pv 2) pe_int (fun _ _ => rfl)) pe_int) (pe_op op_mod (pv 3) pe_int)) pe_int) pa_nil)) pe_int) (pg_sub (pv 2) pe_int set_list))
  (pss_one (ps_if (pt_cmpR op_ge (pv 3) (pe_op op_pow pe_int pe_int) (nomark _)) (pss_one (ps_asg (pv 3) (pg_sub (pv 2) pe_int set_list))) (pss_one (ps_asg pe_int (pg_sub (pv 2) pe_int set_list)))))))) pss_nil))))
theorem ok_l_mixed (T : Txt K mg a) : FnOk P w K mg base CX0 1 a.l_mixed a.l_mixed_d ["_law_seed", "_law_turn", "_law_many"] sp_mixed := by
  refine T.l_mixed.fn.ok sc_l_mixed (fun vs H Q E h => ?_) (fun cdv A outer s H vs Q E hr h => ⟨t_l_mixed K, ?_, pure_mixed  h⟩)
  · repeat' (first | (obtain ⟨e, _⟩ := h; (first | (subst e; rfl) | (rw [e]; rfl))) | (obtain ⟨_, h⟩ := h))
  · exact (pss_cons (ps_set (i := 3) sc_l_mixed.nd rfl (Or.inl rfl) pe_int)
  (pss_cons (ps_for PassesOwn.never rfl (pi_range1 (by rfl) T.b_range (pa_cons pe_int pa_nil)) (pg_name (i := 4) sc_l_mixed.nd rfl (Or.inl rfl)) (pss_cons (ps_set (i := 5) sc_l_mixed.nd rfl (Or.inl rfl) (pe_op op_mod (pe_callTy call_int1 (by rfl) T.b_int (by decide +kernel) (pa_cons (pe_op op_mul (pe_op op_add (pe_op op_add (pv 0) pe_int) (pe_op op_mul (pe_op op_add (pe_op op_mul pe_int (pv 1)) (pv 4)) pe_int)) pe_int) pa_nil)) pe_int))
  (pss_cons (ps_set (i := 6) sc_l_mixed.nd rfl (Or.inl rfl) (pe_op op_mod (pe_callTy call_int1 (by rfl) T.b_int (by decide +kernel) (pa_cons (pe_op op_add (pe_op op_add (pe_op op_mul (pv 5) (pv 5)) (pe_op op_mul (pe_op op_fdivW (pv 5) pe_int) pe_int)) (pv 1)) pa_nil)) pe_int))
  (pss_one (ps_set (i := 3) sc_l_mixed.nd rfl (Or.inl rfl) (pe_op op_add (pe_op op_mul (pv 3) pe_int) (pe_op op_fdivW (pv 6) pe_int)))))))
  (pss_one (ps_ret (pe_op op_mod (pe_callTy call_int1 (by rfl) T.b_int (by decide +kernel) (pa_cons (pv 3) pa_nil)) (pv 2))))))
theorem ok_l_is_int (T : Txt K mg a) : FnOk P w K mg base CX0 1 a.l_is_int a.l_is_int_d ["_law_value"] (sp_is_int K) := by
  refine T.l_is_int.fn.ok sc_l_is_int (fun vs H Q E h => ?_) (fun cdv A outer s H vs Q E hr h => ⟨t_l_is_int K, ?_, pure_is_int  h⟩)
  · repeat' (first | (obtain ⟨e, _⟩ := h; (first | (subst e; rfl) | (rw [e]; rfl))) | (obtain ⟨_, h⟩ := h))
  · exact (pss_one (ps_ret (pe_and (pe_callB call_isi (by rfl) T.b_isinstance (by decide +kernel) (pa_cons (pv 0) (pa_cons (pe_bltn (by rfl) T.b_int (by decide +kernel) rfl) pa_nil))) (pe_one (pe_not (pe_callB call_isi (by rfl) T.b_isinstance (by decide +kernel) (pa_cons (pv 0) (pa_cons (pe_bltn (by rfl) T.b_bool (by decide +kernel) rfl) pa_nil))))))))
theorem ok_l_holders (T : Txt K mg a) : FnOk P w K mg base CX0 1 a.l_holders a.l_holders_d [] sp_holders := by
  refine T.l_holders.fn.ok sc_l_holders (fun vs H Q E h => ?_) (fun cdv A outer s H vs Q E hr h => ⟨t_l_holders K, ?_, pure_holders  h⟩)
  · repeat' (first | (obtain ⟨e, _⟩ := h; (first | (subst e; rfl) | (rw [e]; rfl))) | (obtain ⟨_, h⟩ := h))
  · exact (pss_one (ps_ret (pe_op op_cat (pe_op op_cat (pe_listRg rfl (by rfl) T.b_list (prg_2 (by rfl) T.b_range pe_int pe_int)) (pe_listRg rfl (by rfl) T.b_list (prg_2 (by rfl) T.b_range pe_int pe_int))) (pe_listRg rfl (by rfl) T.b_list (prg_2 (by rfl) T.b_range pe_int pe_int)))))
theorem ok_l_deed_due (T : Txt K mg a) : FnOk P w K mg base CX0 1 a.l_deed_due a.l_deed_due_d ["_law_words", "_law_holders_here", "_law_blank_here", "_law_deed"] (sp_deed_due K) := by
  refine T.l_deed_due.fn.ok sc_l_deed_due (fun vs H Q E h => ?_) (fun cdv A outer s H vs Q E hr h => ⟨t_l_deed_due K, ?_, pure_deed_due  h⟩)
  · repeat' (first | (obtain ⟨e, _⟩ := h; (first | (subst e; rfl) | (rw [e]; rfl))) | (obtain ⟨_, h⟩ := h))
  · exact (pss_cons (ps_set (i := 4) sc_l_deed_due.nd rfl (Or.inl rfl) (pe_ix ix_tup (pv 3) pe_int (fun _ _ => rfl)))
  (pss_cons (ps_if (PW.pt (pw_and (pt_cmpR op_eq (pe_ix ix_tup (pv 3) pe_int (fun _ _ => rfl)) pe_str (nomark _)) (pw_and1 (pt_cmpR op_ne (pe_ix ix_list (pv 1) (pv 4) (fun _ _ => rfl)) (pe_ix ix_tup (pv 3) pe_int (fun _ _ => rfl)) (nomark _))))) (pss_one (ps_ret (pe_tup (pa_cons pe_str (pa_cons (pe_tup (pa_cons (pv 4) (pa_cons (pe_ix ix_list (pv 1) (pv 4) (fun _ _ => rfl)) pa_nil))) pa_nil))))) pss_nil)
  (pss_cons (ps_if (pt_cmpR op_ne (pe_ix ix_tup (pv 3) pe_int (fun _ _ => rfl)) pe_str (nomark _)) (pss_one (ps_ret pe_non)) pss_nil)
  (pss_cons (ps_if (pt_cmpR op_eq (pe_ix ix_tup (pv 3) pe_int (fun _ _ => rfl)) pe_int (nomark _)) (pss_one (ps_for PassesOwn.never rfl (pi_range2 (by rfl) T.b_range (pa_cons (pv 4) (pa_cons (pe_op op_add (pv 4) (pe_ix ix_tup (pv 3) pe_int (fun _ _ => rfl))) pa_nil))) (pg_name (i := 5) sc_l_deed_due.nd rfl (Or.inl rfl)) (pss_one (ps_if (PW.pt (pw_and (pt_cmpR op_eq (pe_ix ix_list (pv 1) (pv 5) (fun _ _ => rfl)) pe_int (nomark _)) (pw_and1 (pt_cmpR op_ne (pe_ix ix_list (pv 0) (pv 5) (fun _ _ => rfl)) (pv 2) (nomark _))))) (pss_one (ps_ret (pe_tup (pa_cons pe_str (pa_cons (pe_tup (pa_cons (pv 5) (pa_cons (pe_ix ix_list (pv 0) (pv 5) (fun _ _ => rfl)) (pa_cons (pv 2) pa_nil)))) pa_nil))))) pss_nil)))) pss_nil)
  (pss_cons (ps_for PassesOwn.never rfl (pi_range2 (by rfl) T.b_range (pa_cons (pv 4) (pa_cons (pe_op op_add (pv 4) (pe_ix ix_tup (pv 3) pe_int (fun _ _ => rfl))) pa_nil))) (pg_name (i := 5) sc_l_deed_due.nd rfl (Or.inl rfl)) (pss_one (ps_if (pt_cmpR op_ne (pe_ix ix_list (pv 1) (pv 5) (fun _ _ => rfl)) (pe_ix ix_tup (pv 3) pe_int (fun _ _ => rfl)) (nomark _)) (pss_one (ps_ret (pe_tup (pa_cons pe_str (pa_cons (pe_tup (pa_cons (pv 5) (pa_cons (pe_ix ix_list (pv 1) (pv 5) (fun _ _ => rfl)) pa_nil))) pa_nil))))) pss_nil)))
  (pss_one (ps_ret pe_non)))))))
theorem ok_l_deed_made (T : Txt K mg a) : FnOk P w K mg base CX0 1 a.l_deed_made a.l_deed_made_d ["_law_words", "_law_holders_here", "_law_blank_here", "_law_deed"] (sp_deed_made K) := by
  refine T.l_deed_made.fn.ok sc_l_deed_made (fun vs H Q E h => ?_) (fun cdv A outer s H vs Q E hr h => ⟨t_l_deed_made K, ?_, pure_deed_made  h⟩)
  · repeat' (first | (obtain ⟨e, _⟩ := h; (first | (subst e; rfl) | (rw [e]; rfl))) | (obtain ⟨_, h⟩ := h))
  · exact (pss_cons (ps_set (i := 4) sc_l_deed_made.nd rfl (Or.inl rfl) (pe_ix ix_tup (pv 3) pe_int (fun _ _ => rfl)))
  (pss_one (ps_if (pt_cmpR op_ne (pe_ix ix_tup (pv 3) pe_int (fun _ _ => rfl)) pe_str (nomark _)) (pss_one (ps_asg (pe_ix ix_tup (pv 3) pe_int (fun _ _ => rfl)) (pg_sub (pv 0) (pv 4) set_list))) (pss_one (ps_for PassesOwn.never rfl (pi_range2 (by rfl) T.b_range (pa_cons (pv 4) (pa_cons (pe_op op_add (pv 4) (pe_ix ix_tup (pv 3) pe_int (fun _ _ => rfl))) pa_nil))) (pg_name (i := 5) sc_l_deed_made.nd rfl (Or.inl rfl)) (pss_cons (ps_asg (pe_ix ix_tup (pv 3) pe_int (fun _ _ => rfl)) (pg_sub (pv 1) (pv 5) set_list))
  (pss_one (ps_if (pt_cmpR op_eq (pe_ix ix_tup (pv 3) pe_int (fun _ _ => rfl)) pe_int (nomark _)) (pss_one (ps_asg (pv 2) (pg_sub (pv 0) (pv 5) set_list))) pss_nil))))))))
theorem ok_l_differing (T : Txt K mg a) : FnOk P w K mg base CX0 1 a.l_differing a.l_differing_d ["_law_old", "_law_side_here"] (sp_differing K) := by
  refine T.l_differing.fn.ok sc_l_differing (fun vs H Q E h => ?_) (fun cdv A outer s H vs Q E hr h => ⟨t_l_differing K, ?_, pure_differing  h⟩)
  · repeat' (first | (obtain ⟨e, _⟩ := h; (first | (subst e; rfl) | (rw [e]; rfl))) | (obtain ⟨_, h⟩ := h))
  · exact (pss_cons (ps_set (i := 2) sc_l_differing.nd rfl (Or.inr rfl) (pe_ix ix_tup (pv 0) pe_int (fun _ _ => rfl)))
  (pss_cons (ps_set (i := 3) sc_l_differing.nd rfl (Or.inr rfl) (pe_ix ix_tup (pv 0) pe_int (fun _ _ => rfl)))
  (pss_one (ps_ret (pe_lc (own := [("_law_k", 4)]) (g := (gName 4)) (tt := (tOr (tTest (tOp rNe (tOp (rIxL K) (tVar 2) (tVar 4)) (tOp (rIxL K) (tOp (rIxL K) (tVar 1) (tC (.int 1))) (tVar 4)))) (tTest (tOp rNe (tOp (rIxL K) (tVar 3) (tVar 4)) (tOp (rIxL K) (tOp (rIxL K) (tVar 1) (tC (.int 2))) (tVar 4)))))) (by rfl) sc_l_differing.nd (pi_range1 (by rfl) T.b_range (pa_cons (pe_callB call_len (by rfl) T.b_len (by decide +kernel) (pa_cons (pv 2) pa_nil)) pa_nil)) (blkOk_by (own := [("_law_k", 4)]) (N := N_l_differing) (sc := defScope s_l_differing) (by decide +kernel)) (fun _ _ _ _ _ => pg_name (i := 4) sc_l_differing.nd rfl (Or.inl rfl)) (fun _ _ _ _ _ => (pts_one (PW.pt (pw_or (pt_cmpR op_ne (pe_ix ix_list (pv 2) (pv 4) (fun _ _ => rfl)) (pe_ix ix_list (pe_ix ix_list (pv 1) pe_int (fun _ _ => rfl)) (pv 4) (fun _ _ => rfl)) (nomark _)) (pw_or1 (pt_cmpR op_ne (pe_ix ix_list (pv 3) (pv 4) (fun _ _ => rfl)) (pe_ix ix_list (pe_ix ix_list (pv 1) pe_int (fun _ _ => rfl)) (pv 4) (fun _ _ => rfl)) (nomark _))))))) (fun _ _ _ _ _ => (pv 4)))))))
theorem ok_p_whole_between (T : Txt K mg a) : FnOk P w K mg base CX0 2 a.p_whole_between a.p_whole_between_d ["value", "low", "high"] (sp_whole_between K) := by
  refine T.p_whole_between.fn.ok sc_p_whole_between (fun vs H Q E h => ?_) (fun cdv A outer s H vs Q E hr h => ⟨t_p_whole_between K, ?_, pure_whole_between  h⟩)
  · repeat' (first | (obtain ⟨e, _⟩ := h; (first | (subst e; rfl) | (rw [e]; rfl))) | (obtain ⟨_, h⟩ := h))
  · exact (pss_one (ps_ret (pe_and (pe_call (ok_p_is_whole T) (hr.mono (by decide)) (by rfl) T.p_is_whole.gl T.p_is_whole.fn.kp T.p_is_whole.bd .nil pass0 (pa_cons (pv 0) pa_nil)) (pe_one (pe_chain op_le op_le (pv 1) (pv 0) (pv 2))))))
theorem ok_p_is_between (T : Txt K mg a) : FnOk P w K mg base CX0 2 a.p_is_between a.p_is_between_d ["value", "low", "high"] (sp_whole_between K) := by
  refine T.p_is_between.fn.ok sc_p_is_between (fun vs H Q E h => ?_) (fun cdv A outer s H vs Q E hr h => ⟨t_p_is_between K, ?_, pure_is_between  h⟩)
  · repeat' (first | (obtain ⟨e, _⟩ := h; (first | (subst e; rfl) | (rw [e]; rfl))) | (obtain ⟨_, h⟩ := h))
  · exact (pss_one (ps_ret (pe_and (pe_call (ok_p_is_whole T) (hr.mono (by decide)) (by rfl) T.p_is_whole.gl T.p_is_whole.fn.kp T.p_is_whole.bd .nil pass0 (pa_cons (pv 0) pa_nil)) (pe_one (pe_chain op_le op_le (pv 1) (pv 0) (pv 2))))))
theorem ok_p_is_width (T : Txt K mg a) : FnOk P w K mg base CX0 2 a.p_is_width a.p_is_width_d ["value"] (sp_is_width K a.c) := by
  refine T.p_is_width.fn.ok sc_p_is_width (fun vs H Q E h => ?_) (fun cdv A outer s H vs Q E hr h => ⟨t_p_is_width K a.c, ?_, pure_is_width  h⟩)
  · repeat' (first | (obtain ⟨e, _⟩ := h; (first | (subst e; rfl) | (rw [e]; rfl))) | (obtain ⟨_, h⟩ := h))
  · exact (pss_one (ps_ret (pe_and (pe_call (ok_p_is_whole T) (hr.mono (by decide)) (by rfl) T.p_is_whole.gl T.p_is_whole.fn.kp T.p_is_whole.bd .nil pass0 (pa_cons (pv 0) pa_nil)) (pe_one (pe_cmpR op_in_seq (pv 0) (pe_glob (by rfl) T.g_WIDTHS rfl) (by rfl))))))
theorem ok_l_take (T : Txt K mg a) : FnOk P w K mg base CX0 2 a.l_take a.l_take_d ["_law_draws_here", "_law_many"] sp_take := by
  refine T.l_take.fn.ok sc_l_take (fun vs H Q E h => ?_) (fun cdv A outer s H vs Q E hr h => ⟨t_l_take K, ?_, pure_take  h⟩)
  · repeat' (first | (obtain ⟨e, _⟩ := h; (first | (subst e; rfl) | (rw [e]; rfl))) | (obtain ⟨_, h⟩ := h))
  · exact (pss_cons (ps_if (pt_cmpR op_lt (pv 1) pe_int (nomark _)) (pss_one (ps_ret pe_int)) pss_nil)
  (pss_cons (ps_set (i := 2) sc_l_take.nd rfl (Or.inl rfl) (pe_ix ix_list (pv 0) pe_int (fun _ _ => rfl)))
  (pss_cons (ps_asg (pe_op op_add (pe_ix ix_list (pv 2) pe_int (fun _ _ => rfl)) pe_int) (pg_sub (pv 2) pe_int set_list))
  (pss_cons (ps_if (PW.pt (pw_and (pt_cmpR op_lt (pe_ix ix_list (pv 2) pe_int (fun _ _ => rfl)) pe_int (nomark _)) (pw_and1 (pt_cmpR op_lt (pe_ix ix_list (pv 2) pe_int (fun _ _ => rfl)) pe_int (nomark _))))) (pss_one (ps_expr (pe_call (ok_l_next_cell T) (hr.mono (by decide)) (by rfl) T.l_next_cell.gl T.l_next_cell.fn.kp T.l_next_cell.bd .nil pass0 (pa_cons (pv 0) pa_nil)))) pss_nil)
  (pss_cons (ps_if (pt_cmpR op_gt (pe_ix ix_list (pv 2) pe_int (fun _ _ => rfl)) pe_int (nomark _)) (pss_cons (ps_set (i := 3) sc_l_take.nd rfl (Or.inl rfl) (pe_op op_mod (pe_callTy call_int1 (by rfl) T.b_int (by decide +kernel) (pa_cons (pe_ix ix_list (pv 2) pe_int (fun _ _ => rfl)) pa_nil)) (pv 1)))
  (pss_cons (ps_asg (pe_op op_fdivW (pe_ix ix_list (pv 2) pe_int (fun _ _ => rfl)) (pv 1)) (pg_sub (pv 2) pe_int set_list))
  (pss_one (ps_ret (pv 3))))) pss_nil)
  (pss_cons (ps_if (pt_cmpR op_gt (pe_ix ix_list (pv 2) pe_int (fun _ _ => rfl)) pe_int (nomark _)) (pss_one (ps_asg (pe_op op_sub (pe_ix ix_list (pv 2) pe_int (fun _ _ => rfl)) pe_int) (pg_sub (pv 2) pe_int set_list))) pss_nil)
  (pss_one (ps_ret (pe_call (ok_l_mixed T) (hr.mono (by decide)) (by rfl) T.l_mixed.gl T.l_mixed.fn.kp T.l_mixed.bd .nil pass0 (pa_cons (pe_ix ix_list (pv 2) pe_int (fun _ _ => rfl)) (pa_cons (pe_ix ix_list (pv 2) pe_int (fun _ _ => rfl)) (pa_cons (pv 1) pa_nil))))))))))))
theorem ok_l_charged (T : Txt K mg a) : FnOk P w K mg base CX0 2 a.l_charged a.l_charged_d ["_law_side_here", "_law_old", "_law_told_here"] (sp_charged13 K) := by
  refine T.l_charged.fn.ok sc_l_charged (fun vs H Q E h => ?_) (fun cdv A outer s H vs Q E hr h => ⟨t_l_charged K, ?_, pure_charged13  h⟩)
  · repeat' (first | (obtain ⟨e, _⟩ := h; (first | (subst e; rfl) | (rw [e]; rfl))) | (obtain ⟨_, h⟩ := h))
  · exact (pss_cons (ps_set (i := 3) sc_l_charged.nd rfl (Or.inl rfl) (pe_callB call_len (by rfl) T.b_len (by decide +kernel) (pa_cons (pe_call (ok_l_differing T) (hr.mono (by decide)) (by rfl) T.l_differing.gl T.l_differing.fn.kp T.l_differing.bd .nil pass0 (pa_cons (pv 1) (pa_cons (pv 0) pa_nil))) pa_nil)))
  (pss_cons (ps_if (PW.pt (pw_and (pt_cmpR op_notN (pe_ix ix_list (pv 0) pe_int (fun _ _ => rfl)) pe_non (nomark _)) (pw_and1 (pt_cmpR op_lt (pe_ix ix_list (pv 0) pe_int (fun _ _ => rfl)) (pv 3) (nomark _))))) (pss_cons (ps_asg (pe_callTy call_list_of (by rfl) T.b_list (by decide +kernel) (pa_cons (pe_ix ix_tup (pv 1) pe_int (fun _ _ => rfl)) pa_nil)) (pg_sub (pv 0) pe_int set_list))
  (pss_cons (ps_asg (pe_callTy call_list_of (by rfl) T.b_list (by decide +kernel) (pa_cons (pe_ix ix_tup (pv 1) pe_int (fun _ _ => rfl)) pa_nil)) (pg_sub (pv 0) pe_int set_list))
  (pss_one (ps_ret (pe_tup (pa_cons pe_str (pa_cons pe_str (pa_cons (pe_tup (pa_cons (pv 3) (pa_cons (pe_ix ix_list (pv 0) pe_int (fun _ _ => rfl)) pa_nil))) pa_nil)))))))) pss_nil)
  (pss_cons (ps_asg (pe_op op_add (pe_ix ix_list (pv 0) pe_int (fun _ _ => rfl)) (pv 3)) (pg_sub (pv 0) pe_int set_list))
  (pss_cons (ps_if (pt_cmpR op_notN (pe_ix ix_list (pv 0) pe_int (fun _ _ => rfl)) pe_non (nomark _)) (pss_one (ps_asg (pe_op op_sub (pe_ix ix_list (pv 0) pe_int (fun _ _ => rfl)) (pv 3)) (pg_sub (pv 0) pe_int set_list))) pss_nil)
  (pss_one (ps_ret (pe_tup (pa_cons pe_str (pa_cons (pe_ix ix_list (pe_lst (pa_cons (pv 2) (pa_cons (pv 3) pa_nil))) (pe_callTy call_int1 (by rfl) T.b_int (by decide +kernel) (pa_cons (pe_cmpR op_eq (pv 2) pe_str (nomark _)) pa_nil)) (fun _ _ => rfl)) pa_nil)))))))))
theorem ok_p_is_holder (T : Txt K mg a) : FnOk P w K mg base CX0 3 a.p_is_holder a.p_is_holder_d ["value"] (sp_is_holder K) := by
  refine T.p_is_holder.fn.ok sc_p_is_holder (fun vs H Q E h => ?_) (fun cdv A outer s H vs Q E hr h => ⟨t_p_is_holder K, ?_, pure_is_holder  h⟩)
  · repeat' (first | (obtain ⟨e, _⟩ := h; (first | (subst e; rfl) | (rw [e]; rfl))) | (obtain ⟨_, h⟩ := h))
  · exact (pss_one (ps_ret (pe_or (pe_call (ok_p_whole_between T) (hr.mono (by decide)) (by rfl) T.p_whole_between.gl T.p_whole_between.fn.kp T.p_whole_between.bd .nil pass0 (pa_cons (pv 0) (pa_cons pe_int (pa_cons pe_int pa_nil)))) (pe_or (pe_call (ok_p_whole_between T) (hr.mono (by decide)) (by rfl) T.p_whole_between.gl T.p_whole_between.fn.kp T.p_whole_between.bd .nil pass0 (pa_cons (pv 0) (pa_cons pe_int (pa_cons pe_int pa_nil)))) (pe_one (pe_call (ok_p_whole_between T) (hr.mono (by decide)) (by rfl) T.p_whole_between.gl T.p_whole_between.fn.kp T.p_whole_between.bd .nil pass0 (pa_cons (pv 0) (pa_cons (pe_glob (by rfl) T.g_MAP T.r_MAP) (pa_cons (pe_glob (by rfl) T.g_NODE T.r_NODE) pa_nil)))))))))
theorem ok_p_is_budget (T : Txt K mg a) : FnOk P w K mg base CX0 3 a.p_is_budget a.p_is_budget_d ["value"] (sp_is_budget K) := by
  refine T.p_is_budget.fn.ok sc_p_is_budget (fun vs H Q E h => ?_) (fun cdv A outer s H vs Q E hr h => ⟨t_p_is_budget K, ?_, pure_is_budget  h⟩)
  · repeat' (first | (obtain ⟨e, _⟩ := h; (first | (subst e; rfl) | (rw [e]; rfl))) | (obtain ⟨_, h⟩ := h))
  · exact (pss_one (ps_ret (pe_or (pe_cmpR op_isN (pv 0) pe_non (nomark _)) (pe_one (pe_call (ok_p_is_between T) (hr.mono (by decide)) (by rfl) T.p_is_between.gl T.p_is_between.fn.kp T.p_is_between.bd .nil pass0 (pa_cons (pv 0) (pa_cons pe_int (pa_cons (pe_glob (by rfl) T.g_MOST_BUDGET T.r_MOST_BUDGET) pa_nil))))))))
theorem ok_c_Ground_check_place (T : Txt K mg a) : FnOk P w K mg base (L2N.CX P w) 3 a.c_Ground_check_place a.c_Ground_check_place_d ["self", "place"] (sp_check_place K a.c) := by
  refine okXN T.c_Ground_check_place.fn sc_c_Ground_check_place (fun vs H Q E h => ?_) (fun cdv A outer s H vs Q E hr h => ⟨t_c_Ground_check_place K a.c E, ?_, pure_check_place  h⟩)
  · repeat' (first | (obtain ⟨e, _⟩ := h; (first | (subst e; rfl) | (rw [e]; rfl))) | (obtain ⟨_, h⟩ := h))
  · exact (pss_one (ps_if (pt_not (pt_val (pe_call (ok_p_is_between T) (hr.mono (by decide)) (by rfl) T.p_is_between.gl T.p_is_between.fn.kp T.p_is_between.bd .nil pass0 (pa_cons (pv 1) (pa_cons pe_int (pa_cons (pe_op op_sub (pe_callB call_len (by rfl) T.b_len (by decide +kernel) (pa_cons (pe_fld (pv 0) rfl) pa_nil)) pe_int) pa_nil)))))) (pss_one (L2N.ps_raise rfl (L2N.takes_of rfl rfl rfl rfl) (pmk_oexN T.bv.ox T.iC T.tI (ok_c_BadValue_init T) (hr.mono (by decide)) T.c_BadValue_init.bd .nil pass0 (by rfl) T.k_BadValue (pa_cons pe_str pa_nil)))) pss_nil))
theorem ok_c_Ground_check_guard (T : Txt K mg a) : FnOk P w K mg base (L2N.CX P w) 3 a.c_Ground_check_guard a.c_Ground_check_guard_d ["self", "place", "holder"] (sp_check_guard K a.c) := by
  refine okXN T.c_Ground_check_guard.fn sc_c_Ground_check_guard (fun vs H Q E h => ?_) (fun cdv A outer s H vs Q E hr h => ⟨t_c_Ground_check_guard K a.c E, ?_, pure_check_guard  h⟩)
  · repeat' (first | (obtain ⟨e, _⟩ := h; (first | (subst e; rfl) | (rw [e]; rfl))) | (obtain ⟨_, h⟩ := h))
  · exact (pss_cons (ps_set (i := 3) sc_c_Ground_check_guard.nd rfl (Or.inl rfl) (pe_ix ix_list (pe_fld (pv 0) rfl) (pv 1) (fun _ _ => rfl)))
  (pss_one (ps_if (pt_cmpR op_ne (pv 3) (pv 2) (nomark _)) (pss_one (L2N.ps_raise rfl (L2N.takes_of rfl rfl rfl rfl) (pmk_oexN T.e_NotHeld.ox T.iC_NotHeld T.tI_NotHeld (ok_c_NotHeld_init T) (hr.mono (by decide)) T.c_NotHeld_init.bd .nil pass0 (by rfl) T.k_NotHeld (pa_cons (pv 1) (pa_cons (pv 3) pa_nil))))) pss_nil)))
theorem ok_c_Ground_check_fill (T : Txt K mg a) : FnOk P w K mg base (L2N.CX P w) 3 a.c_Ground_check_fill a.c_Ground_check_fill_d ["self", "start", "size"] (sp_check_fill K a.c) := by
  refine okXN T.c_Ground_check_fill.fn sc_c_Ground_check_fill (fun vs H Q E h => ?_) (fun cdv A outer s H vs Q E hr h => ⟨t_c_Ground_check_fill K a.c E, ?_, pure_check_fill  h⟩)
  · repeat' (first | (obtain ⟨e, _⟩ := h; (first | (subst e; rfl) | (rw [e]; rfl))) | (obtain ⟨_, h⟩ := h))
  · exact (pss_one (ps_for (passes_of rfl) rfl (pi_range2 (by rfl) T.b_range (pa_cons (pv 1) (pa_cons (pe_op op_add (pv 1) (pv 2)) pa_nil))) (pg_name (i := 3) sc_c_Ground_check_fill.nd rfl (Or.inl rfl)) (pss_cons (ps_set (i := 4) sc_c_Ground_check_fill.nd rfl (Or.inl rfl) (pe_ix ix_list (pe_fld (pv 0) rfl) (pv 3) (fun _ _ => rfl)))
  (pss_one (ps_if (PW.pt (pw_and (pt_cmpR op_eq (pe_ix ix_list (pe_fld (pv 0) rfl) (pv 3) (fun _ _ => rfl)) (pe_glob (by rfl) T.g_NOBODY T.r_NOBODY) (nomark _)) (pw_and1 (pt_cmpR op_ne (pv 4) (pe_fld (pv 0) rfl) (nomark _))))) (pss_one (L2N.ps_raise rfl (L2N.takes_of rfl rfl rfl rfl) (pmk_oexN T.e_Broken.ox T.iC_Broken T.tI_Broken (ok_c_Broken_init T) (hr.mono (by decide)) T.c_Broken_init.bd .nil pass0 (by rfl) T.k_Broken (pa_cons (pv 3) (pa_cons (pv 4) (pa_cons (pe_fld (pv 0) rfl) pa_nil)))))) pss_nil)))))
theorem ok_c_Ground_cancel (T : Txt K mg a) : FnOk P w K mg base (L2N.CX P w) 3 a.c_Ground_cancel a.c_Ground_cancel_d ["self"] (sp_cancel K a.c) := by
  refine okXN T.c_Ground_cancel.fn sc_c_Ground_cancel (fun vs H Q E h => ?_) (fun cdv A outer s H vs Q E hr h => ⟨t_c_Ground_cancel K a.c E, ?_, pure_cancel  h⟩)
  · repeat' (first | (obtain ⟨e, _⟩ := h; (first | (subst e; rfl) | (rw [e]; rfl))) | (obtain ⟨_, h⟩ := h))
  · exact (pss_cons (ps_if (pt_cmpR op_eq (pe_callB call_len (by rfl) T.b_len (by decide +kernel) (pa_cons (pe_fld (pv 0) rfl) pa_nil)) pe_int (nomark _)) (pss_one (L2N.ps_raise rfl (L2N.takes_of rfl rfl rfl rfl) (pmk_oexN T.e_Unknown.ox T.iC_Unknown T.tI_Unknown (ok_c_Unknown_init T) (hr.mono (by decide)) T.c_Unknown_init.bd .nil pass0 (by rfl) T.k_Unknown (pa_cons pe_str pa_nil)))) pss_nil)
  (pss_cons (ps_set (i := 1) sc_c_Ground_cancel.nd rfl (Or.inl rfl) (pe_bm0 PySem.F.plainAttrs_list PySem.F.slot_list_pop PySem.F.type_list_pop mt_pop (pe_fld (pv 0) rfl)))
  (pss_one (ps_lock (ps_for (passes_of rfl) rfl (pi_items (pv 1)) (pg_tup rfl (pgs_cons (pg_name (i := 2) sc_c_Ground_cancel.nd rfl (Or.inl rfl)) (pgs_cons (pg_tup rfl (pgs_cons (pg_name (i := 3) sc_c_Ground_cancel.nd rfl (Or.inl rfl)) (pgs_cons (pg_name (i := 4) sc_c_Ground_cancel.nd rfl (Or.inl rfl)) pgs_nil))) pgs_nil))) (pss_cons (ps_asg (pv 3) (pg_sub (pe_fld (pv 0) rfl) (pv 2) set_list))
  (pss_one (ps_asg (pv 4) (pg_sub (pe_fld (pv 0) rfl) (pv 2) set_list)))))))))
theorem ok_l_among (T : Txt K mg a) : FnOk P w K mg base CX0 3 a.l_among a.l_among_d ["_law_draws_here", "_law_row"] (sp_among K) := by
  refine T.l_among.fn.ok sc_l_among (fun vs H Q E h => ?_) (fun cdv A outer s H vs Q E hr h => ⟨t_l_among K, ?_, pure_among  h⟩)
  · repeat' (first | (obtain ⟨e, _⟩ := h; (first | (subst e; rfl) | (rw [e]; rfl))) | (obtain ⟨_, h⟩ := h))
  · exact (pss_one (ps_ret (pe_ix ix_list (pv 1) (pe_call (ok_l_take T) (hr.mono (by decide)) (by rfl) T.l_take.gl T.l_take.fn.kp T.l_take.bd .nil pass0 (pa_cons (pv 0) (pa_cons (pe_callB call_len (by rfl) T.b_len (by decide +kernel) (pa_cons (pv 1) pa_nil)) pa_nil))) (fun _ _ => rfl))))
theorem ok_l_between (T : Txt K mg a) : FnOk P w K mg base CX0 3 a.l_between a.l_between_d ["_law_draws_here", "_law_low", "_law_high"] sp_between := by
  refine T.l_between.fn.ok sc_l_between (fun vs H Q E h => ?_) (fun cdv A outer s H vs Q E hr h => ⟨t_l_between K, ?_, pure_between  h⟩)
  · repeat' (first | (obtain ⟨e, _⟩ := h; (first | (subst e; rfl) | (rw [e]; rfl))) | (obtain ⟨_, h⟩ := h))
  · exact (pss_cons (ps_if (pt_cmpR op_le (pv 2) (pv 1) (nomark _)) (pss_one (ps_ret (pv 1))) pss_nil)
  (pss_cons (ps_set (i := 3) sc_l_between.nd rfl (Or.inl rfl) (pe_call (ok_l_take T) (hr.mono (by decide)) (by rfl) T.l_take.gl T.l_take.fn.kp T.l_take.bd .nil pass0 (pa_cons (pv 0) (pa_cons pe_int pa_nil))))
  (pss_cons (ps_if (pt_cmpR op_eq (pv 3) pe_int (nomark _)) (pss_one (ps_ret (pv 1))) pss_nil)
  (pss_cons (ps_if (pt_cmpR op_eq (pv 3) pe_int (nomark _)) (pss_one (ps_ret (pv 2))) pss_nil)
  (pss_one (ps_ret (pe_op op_add (pv 1) (pe_call (ok_l_take T) (hr.mono (by decide)) (by rfl) T.l_take.gl T.l_take.fn.kp T.l_take.bd .nil pass0 (pa_cons (pv 0) (pa_cons (pe_op op_add (pe_op op_sub (pv 2) (pv 1)) pe_int) pa_nil))))))))))
theorem ok_l_word (T : Txt K mg a) : FnOk P w K mg base CX0 3 a.l_word a.l_word_d ["_law_draws_here", "_law_blank_here"] (sp_word K) := by
  refine T.l_word.fn.ok sc_l_word (fun vs H Q E h => ?_) (fun cdv A outer s H vs Q E hr h => ⟨t_l_word K, ?_, pure_word  h⟩)
  · repeat' (first | (obtain ⟨e, _⟩ := h; (first | (subst e; rfl) | (rw [e]; rfl))) | (obtain ⟨_, h⟩ := h))
  · exact (pss_cons (ps_set (i := 2) sc_l_word.nd rfl (Or.inl rfl) (pe_call (ok_l_take T) (hr.mono (by decide)) (by rfl) T.l_take.gl T.l_take.fn.kp T.l_take.bd .nil pass0 (pa_cons (pv 0) (pa_cons pe_int pa_nil))))
  (pss_cons (ps_if (pt_cmpR op_lt (pv 2) pe_int (nomark _)) (pss_one (ps_ret (pe_ix ix_list (pe_lst (pa_cons (pv 1) (pa_cons pe_int (pa_cons pe_int (pa_cons pe_int (pa_cons pe_int (pa_cons pe_int (pa_cons (pe_op op_mod (pe_callTy call_int1 (by rfl) T.b_int (by decide +kernel) (pa_cons (pe_op op_add (pv 1) pe_int) pa_nil)) pe_int) pa_nil)))))))) (pv 2) (fun _ _ => rfl)))) pss_nil)
  (pss_cons (ps_if (pt_cmpR op_eq (pv 2) pe_int (nomark _)) (pss_one (ps_ret (pe_call (ok_l_take T) (hr.mono (by decide)) (by rfl) T.l_take.gl T.l_take.fn.kp T.l_take.bd .nil pass0 (pa_cons (pv 0) (pa_cons pe_int pa_nil))))) pss_nil)
  (pss_one (ps_ret (pe_call (ok_l_take T) (hr.mono (by decide)) (by rfl) T.l_take.gl T.l_take.fn.kp T.l_take.bd .nil pass0 (pa_cons (pv 0) (pa_cons pe_int pa_nil))))))))
theorem ok_l_other_word (T : Txt K mg a) : FnOk P w K mg base CX0 3 a.l_other_word a.l_other_word_d ["_law_draws_here", "_law_word_here"] sp_other_word := by
  refine T.l_other_word.fn.ok sc_l_other_word (fun vs H Q E h => ?_) (fun cdv A outer s H vs Q E hr h => ⟨t_l_other_word K, ?_, pure_other_word  h⟩)
  · repeat' (first | (obtain ⟨e, _⟩ := h; (first | (subst e; rfl) | (rw [e]; rfl))) | (obtain ⟨_, h⟩ := h))
  · exact (pss_one (ps_ret (pe_op op_mod (pe_callTy call_int1 (by rfl) T.b_int (by decide +kernel) (pa_cons (pe_op op_add (pe_op op_add (pv 1) pe_int) (pe_call (ok_l_take T) (hr.mono (by decide)) (by rfl) T.l_take.gl T.l_take.fn.kp T.l_take.bd .nil pass0 (pa_cons (pv 0) (pa_cons pe_int pa_nil)))) pa_nil)) pe_int)))
theorem ok_l_blank (T : Txt K mg a) : FnOk P w K mg base CX0 3 a.l_blank a.l_blank_d ["_law_draws_here"] (sp_blank K) := by
  refine T.l_blank.fn.ok sc_l_blank (fun vs H Q E h => ?_) (fun cdv A outer s H vs Q E hr h => ⟨t_l_blank K, ?_, pure_blank  h⟩)
  · repeat' (first | (obtain ⟨e, _⟩ := h; (first | (subst e; rfl) | (rw [e]; rfl))) | (obtain ⟨_, h⟩ := h))
  · exact (pss_cons (ps_set (i := 1) sc_l_blank.nd rfl (Or.inl rfl) (pe_call (ok_l_take T) (hr.mono (by decide)) (by rfl) T.l_take.gl T.l_take.fn.kp T.l_take.bd .nil pass0 (pa_cons (pv 0) (pa_cons pe_int pa_nil))))
  (pss_cons (ps_if (pt_cmpR op_lt (pv 1) pe_int (nomark _)) (pss_one (ps_ret (pe_ix ix_list (pe_lst (pa_cons pe_int (pa_cons pe_int (pa_cons pe_int (pa_cons pe_int (pa_cons pe_int (pa_cons pe_int (pa_cons pe_int pa_nil)))))))) (pv 1) (fun _ _ => rfl)))) pss_nil)
  (pss_cons (ps_if (pt_cmpR op_eq (pv 1) pe_int (nomark _)) (pss_one (ps_ret (pe_call (ok_l_take T) (hr.mono (by decide)) (by rfl) T.l_take.gl T.l_take.fn.kp T.l_take.bd .nil pass0 (pa_cons (pv 0) (pa_cons pe_int pa_nil))))) pss_nil)
  (pss_one (ps_ret (pe_call (ok_l_take T) (hr.mono (by decide)) (by rfl) T.l_take.gl T.l_take.fn.kp T.l_take.bd .nil pass0 (pa_cons (pv 0) (pa_cons pe_int pa_nil))))))))
theorem ok_l_step_due (T : Txt K mg a) : FnOk P w K mg base CX0 3 a.l_step_due a.l_step_due_d ["_law_side_here", "_law_blank_here", "_law_step_here"] (sp_step_due13 K) := by
  refine T.l_step_due.fn.ok sc_l_step_due (fun vs H Q E h => ?_) (fun cdv A outer s H vs Q E hr h => ⟨t_l_step_due K, ?_, pure_step_due13  h⟩)
  · repeat' (first | (obtain ⟨e, _⟩ := h; (first | (subst e; rfl) | (rw [e]; rfl))) | (obtain ⟨_, h⟩ := h))
  · exact (pss_cons (ps_set (i := 3) sc_l_step_due.nd rfl (Or.inl rfl) (pe_ix ix_list (pv 0) pe_int (fun _ _ => rfl)))
  (pss_cons (ps_if (pt_cmpR op_eq (pe_ix ix_tup (pv 2) pe_int (fun _ _ => rfl)) pe_str (nomark _)) (pss_cons (ps_expr (pe_bm PySem.F.plainAttrs_list PySem.F.slot_list_append PySem.F.type_list_append mt_append (pv 3) (pa_cons (pe_tup (pa_cons (pe_callTy call_list_of (by rfl) T.b_list (by decide +kernel) (pa_cons (pe_ix ix_list (pv 0) pe_int (fun _ _ => rfl)) pa_nil)) (pa_cons (pe_callTy call_list_of (by rfl) T.b_list (by decide +kernel) (pa_cons (pe_ix ix_list (pv 0) pe_int (fun _ _ => rfl)) pa_nil)) pa_nil))) pa_nil)))
  (pss_one (ps_ret (pe_tup (pa_cons pe_str (pa_cons (pe_callB call_len (by rfl) T.b_len (by decide +kernel) (pa_cons (pv 3) pa_nil)) pa_nil)))))) pss_nil)
  (pss_cons (ps_if (PW.pt (pw_or (pt_cmpR op_eq (pe_ix ix_tup (pv 2) pe_int (fun _ _ => rfl)) pe_str (nomark _)) (pw_or1 (pt_cmpR op_eq (pe_ix ix_tup (pv 2) pe_int (fun _ _ => rfl)) pe_str (nomark _))))) (pss_cons (ps_if (pt_cmpR op_eq (pe_callB call_len (by rfl) T.b_len (by decide +kernel) (pa_cons (pv 3) pa_nil)) pe_int (nomark _)) (pss_one (ps_ret (pe_tup (pa_cons pe_str (pa_cons pe_str (pa_cons (pe_tup (pa_cons pe_str pa_nil)) pa_nil)))))) pss_nil)
  (pss_cons (ps_set (i := 4) sc_l_step_due.nd rfl (Or.inl rfl) (pe_bm0 PySem.F.plainAttrs_list PySem.F.slot_list_pop PySem.F.type_list_pop mt_pop (pv 3)))
  (pss_cons (ps_if (pt_cmpR op_eq (pe_ix ix_tup (pv 2) pe_int (fun _ _ => rfl)) pe_str (nomark _)) (pss_cons (ps_asg (pe_callTy call_list_of (by rfl) T.b_list (by decide +kernel) (pa_cons (pe_ix ix_tup (pv 4) pe_int (fun _ _ => rfl)) pa_nil)) (pg_sub (pv 0) pe_int set_list))
  (pss_cons (ps_asg (pe_callTy call_list_of (by rfl) T.b_list (by decide +kernel) (pa_cons (pe_ix ix_tup (pv 4) pe_int (fun _ _ => rfl)) pa_nil)) (pg_sub (pv 0) pe_int set_list))
  (pss_one (ps_ret (pe_tup (pa_cons pe_str (pa_cons pe_non pa_nil))))))) pss_nil)
  (pss_cons (ps_if (pt_cmpR op_eq (pe_callB call_len (by rfl) T.b_len (by decide +kernel) (pa_cons (pv 3) pa_nil)) pe_int (nomark _)) (pss_one (ps_ret (pe_call (ok_l_charged T) (hr.mono (by decide)) (by rfl) T.l_charged.gl T.l_charged.fn.kp T.l_charged.bd .nil pass0 (pa_cons (pv 0) (pa_cons (pv 4) (pa_cons pe_str pa_nil)))))) pss_nil)
  (pss_one (ps_ret (pe_tup (pa_cons pe_str (pa_cons (pe_callB call_len (by rfl) T.b_len (by decide +kernel) (pa_cons (pe_call (ok_l_differing T) (hr.mono (by decide)) (by rfl) T.l_differing.gl T.l_differing.fn.kp T.l_differing.bd .nil pass0 (pa_cons (pv 4) (pa_cons (pv 0) pa_nil))) pa_nil)) pa_nil))))))))) pss_nil)
  (pss_cons (ps_set (i := 5) sc_l_step_due.nd rfl (Or.inl rfl) (pe_call (ok_l_deed_due T) (hr.mono (by decide)) (by rfl) T.l_deed_due.gl T.l_deed_due.fn.kp T.l_deed_due.bd .nil pass0 (pa_cons (pe_ix ix_list (pv 0) pe_int (fun _ _ => rfl)) (pa_cons (pe_ix ix_list (pv 0) pe_int (fun _ _ => rfl)) (pa_cons (pv 1) (pa_cons (pv 2) pa_nil))))))
  (pss_cons (ps_if (pt_cmpR op_notN (pv 5) pe_non (nomark _)) (pss_one (ps_ret (pe_tup (pa_cons pe_str (pa_cons (pe_ix ix_tup (pv 5) pe_int (fun _ _ => rfl)) (pa_cons (pe_ix ix_tup (pv 5) pe_int (fun _ _ => rfl)) pa_nil)))))) pss_nil)
  (pss_cons (ps_set (i := 4) sc_l_step_due.nd rfl (Or.inl rfl) (pe_tup (pa_cons (pe_callTy call_list_of (by rfl) T.b_list (by decide +kernel) (pa_cons (pe_ix ix_list (pv 0) pe_int (fun _ _ => rfl)) pa_nil)) (pa_cons (pe_callTy call_list_of (by rfl) T.b_list (by decide +kernel) (pa_cons (pe_ix ix_list (pv 0) pe_int (fun _ _ => rfl)) pa_nil)) pa_nil))))
  (pss_cons (ps_expr (pe_call (ok_l_deed_made T) (hr.mono (by decide)) (by rfl) T.l_deed_made.gl T.l_deed_made.fn.kp T.l_deed_made.bd .nil pass0 (pa_cons (pe_ix ix_list (pv 0) pe_int (fun _ _ => rfl)) (pa_cons (pe_ix ix_list (pv 0) pe_int (fun _ _ => rfl)) (pa_cons (pv 1) (pa_cons (pv 2) pa_nil))))))
  (pss_cons (ps_if (pt_cmpR op_eq (pe_callB call_len (by rfl) T.b_len (by decide +kernel) (pa_cons (pv 3) pa_nil)) pe_int (nomark _)) (pss_one (ps_ret (pe_call (ok_l_charged T) (hr.mono (by decide)) (by rfl) T.l_charged.gl T.l_charged.fn.kp T.l_charged.bd .nil pass0 (pa_cons (pv 0) (pa_cons (pv 4) (pa_cons pe_non pa_nil)))))) pss_nil)
  (pss_one (ps_ret (pe_tup (pa_cons pe_str (pa_cons pe_non pa_nil)))))))))))))
theorem ok_c_Ground_init (T : Txt K mg a) : FnOk P w K mg base (L2N.CX P w) 4 a.c_Ground_init a.c_Ground_init_d ["self", "pages", "width", "fill", "budget"] (sp_ground_init K a.c) := by
  refine okXN T.c_Ground_init.fn sc_c_Ground_init (fun vs H Q E h => ?_) (fun cdv A outer s H vs Q E hr h => ⟨t_c_Ground_init K a.c E, ?_, pure_ground_init  h⟩)
  · repeat' (first | (obtain ⟨e, _⟩ := h; (first | (subst e; rfl) | (rw [e]; rfl))) | (obtain ⟨_, h⟩ := h))
  · exact (pss_cons (ps_if (pt_not (pt_val (pe_call (ok_p_is_between T) (hr.mono (by decide)) (by rfl) T.p_is_between.gl T.p_is_between.fn.kp T.p_is_between.bd .nil pass0 (pa_cons (pv 1) (pa_cons pe_int (pa_cons (pe_glob (by rfl) T.g_MOST_PAGES T.r_MOST_PAGES) pa_nil)))))) (pss_one (L2N.ps_raise rfl (L2N.takes_of rfl rfl rfl rfl) (pmk_oexN T.bv.ox T.iC T.tI (ok_c_BadValue_init T) (hr.mono (by decide)) T.c_BadValue_init.bd .nil pass0 (by rfl) T.k_BadValue (pa_cons pe_str pa_nil)))) pss_nil)
  (pss_cons (ps_if (pt_not (pt_val (pe_call (ok_p_is_width T) (hr.mono (by decide)) (by rfl) T.p_is_width.gl T.p_is_width.fn.kp T.p_is_width.bd .nil pass0 (pa_cons (pv 2) pa_nil)))) (pss_one (L2N.ps_raise rfl (L2N.takes_of rfl rfl rfl rfl) (pmk_oexN T.bv.ox T.iC T.tI (ok_c_BadValue_init T) (hr.mono (by decide)) T.c_BadValue_init.bd .nil pass0 (by rfl) T.k_BadValue (pa_cons pe_str pa_nil)))) pss_nil)
  (pss_cons (ps_if (pt_not (pt_val (pe_call (ok_p_is_between T) (hr.mono (by decide)) (by rfl) T.p_is_between.gl T.p_is_between.fn.kp T.p_is_between.bd .nil pass0 (pa_cons (pv 3) (pa_cons pe_int (pa_cons (pe_glob (by rfl) T.g_MOST_WORD T.r_MOST_WORD) pa_nil)))))) (pss_one (L2N.ps_raise rfl (L2N.takes_of rfl rfl rfl rfl) (pmk_oexN T.bv.ox T.iC T.tI (ok_c_BadValue_init T) (hr.mono (by decide)) T.c_BadValue_init.bd .nil pass0 (by rfl) T.k_BadValue (pa_cons pe_str pa_nil)))) pss_nil)
  (pss_cons (ps_if (pt_not (pt_val (pe_call (ok_p_is_budget T) (hr.mono (by decide)) (by rfl) T.p_is_budget.gl T.p_is_budget.fn.kp T.p_is_budget.bd .nil pass0 (pa_cons (pv 4) pa_nil)))) (pss_one (L2N.ps_raise rfl (L2N.takes_of rfl rfl rfl rfl) (pmk_oexN T.bv.ox T.iC T.tI (ok_c_BadValue_init T) (hr.mono (by decide)) T.c_BadValue_init.bd .nil pass0 (by rfl) T.k_BadValue (pa_cons pe_str pa_nil)))) pss_nil)
  (pss_cons (ps_fld (pv 0) (pv 1) rfl)
  (pss_cons (ps_fld (pv 0) (pv 2) rfl)
  (pss_cons (ps_fld (pv 0) (pv 3) rfl)
  (pss_cons (ps_fld (pv 0) (pv 4) rfl)
  (pss_cons (ps_fld (pv 0) pe_int rfl)
  (pss_cons (ps_fld (pv 0) (pe_op op_rep (pe_lst (pa_cons (pv 3) pa_nil)) (pe_op op_mul (pv 1) (pv 2))) rfl)
  (pss_cons (ps_fld (pv 0) (pe_op op_rep (pe_lst (pa_cons (pe_glob (by rfl) T.g_NOBODY T.r_NOBODY) pa_nil)) (pe_op op_mul (pv 1) (pv 2))) rfl)
  (pss_one (ps_fld (pv 0) (pe_lst pa_nil) rfl)))))))))))))
theorem ok_c_Ground_commit (T : Txt K mg a) : FnOk P w K mg base (L2N.CX P w) 4 a.c_Ground_commit a.c_Ground_commit_d ["self"] (sp_commit K a.c) := by
  refine okXN T.c_Ground_commit.fn sc_c_Ground_commit (fun vs H Q E h => ?_) (fun cdv A outer s H vs Q E hr h => ⟨t_c_Ground_commit K a.c E, ?_, pure_commit  h⟩)
  · repeat' (first | (obtain ⟨e, _⟩ := h; (first | (subst e; rfl) | (rw [e]; rfl))) | (obtain ⟨_, h⟩ := h))
  · exact (pss_cons (ps_if (pt_cmpR op_eq (pe_callB call_len (by rfl) T.b_len (by decide +kernel) (pa_cons (pe_fld (pv 0) rfl) pa_nil)) pe_int (nomark _)) (pss_one (L2N.ps_raise rfl (L2N.takes_of rfl rfl rfl rfl) (pmk_oexN T.e_Unknown.ox T.iC_Unknown T.tI_Unknown (ok_c_Unknown_init T) (hr.mono (by decide)) T.c_Unknown_init.bd .nil pass0 (by rfl) T.k_Unknown (pa_cons pe_str pa_nil)))) pss_nil)
  (pss_cons (ps_set (i := 1) sc_c_Ground_commit.nd rfl (Or.inl rfl) (pe_ix ix_list (pe_fld (pv 0) rfl) (pe_un un_neg pe_int) (fun _ _ => rfl)))
  (pss_cons (ps_set (i := 2) sc_c_Ground_commit.nd rfl (Or.inl rfl) (pe_meth (pv 0) T.cl_Ground T.mt_c_Ground_cost_since (ok_c_Ground_cost_since T) (hr.mono (by decide)) T.c_Ground_cost_since.bd .nil pass0 (pa_cons (pv 1) pa_nil)))
  (pss_cons (ps_if (pt_cmpR op_eq (pe_callB call_len (by rfl) T.b_len (by decide +kernel) (pa_cons (pe_fld (pv 0) rfl) pa_nil)) pe_int (nomark _)) (pss_cons (ps_if (pt_cmpR op_notN (pe_fld (pv 0) rfl) pe_non (nomark _)) (pss_cons (ps_if (pt_cmpR op_lt (pe_fld (pv 0) rfl) (pv 2) (nomark _)) (pss_cons (ps_expr (pe_meth0 (pv 0) T.cl_Ground T.mt_c_Ground_cancel (ok_c_Ground_cancel T) (hr.mono (by decide)) T.c_Ground_cancel.bd .nil (L2N.passes_call (L2N.takes_of rfl rfl rfl rfl) (fun _ _ _ _ h => h))))
  (pss_one (L2N.ps_raise rfl (L2N.takes_of rfl rfl rfl rfl) (pmk_oexN T.e_Cut.ox T.iC_Cut T.tI_Cut (ok_c_Cut_init T) (hr.mono (by decide)) T.c_Cut_init.bd .nil pass0 (by rfl) T.k_Cut (pa_cons (pv 2) (pa_cons (pe_fld (pv 0) rfl) pa_nil)))))) pss_nil)
  (pss_one (ps_fld (pv 0) (pe_op op_sub (pe_fld (pv 0) rfl) (pv 2)) rfl))) pss_nil)
  (pss_cons (ps_fld (pv 0) (pe_op op_add (pe_fld (pv 0) rfl) (pv 2)) rfl)
  (pss_cons (ps_expr (pe_bm0 PySem.F.plainAttrs_list PySem.F.slot_list_pop PySem.F.type_list_pop mt_pop (pe_fld (pv 0) rfl)))
  (pss_one (ps_ret (pv 2)))))) pss_nil)
  (pss_cons (ps_expr (pe_bm0 PySem.F.plainAttrs_list PySem.F.slot_list_pop PySem.F.type_list_pop mt_pop (pe_fld (pv 0) rfl)))
  (pss_cons (ps_set (i := 3) sc_c_Ground_commit.nd rfl (Or.inl rfl) (pe_ix ix_list (pe_fld (pv 0) rfl) (pe_un un_neg pe_int) (fun _ _ => rfl)))
  (pss_cons (ps_lock (ps_for (passes_of rfl) rfl (pi_items (pv 1)) (pg_tup rfl (pgs_cons (pg_name (i := 4) sc_c_Ground_commit.nd rfl (Or.inl rfl)) (pgs_cons (pg_name (i := 5) sc_c_Ground_commit.nd rfl (Or.inl rfl)) pgs_nil))) (pss_one (ps_if (pt_cmp (pc_dnotin (hu_of hr) (pv 4) (pv 3))) (pss_one (ps_dput (hu_of hr) (pv 3) (pv 4) (pv 5) rfl)) pss_nil))))
  (pss_one (ps_ret (pv 2))))))))))
theorem ok_l_count (T : Txt K mg a) : FnOk P w K mg base CX0 4 a.l_count a.l_count_d ["_law_draws_here", "_law_small", "_law_great"] sp_count := by
  refine T.l_count.fn.ok sc_l_count (fun vs H Q E h => ?_) (fun cdv A outer s H vs Q E hr h => ⟨t_l_count K, ?_, pure_count  h⟩)
  · repeat' (first | (obtain ⟨e, _⟩ := h; (first | (subst e; rfl) | (rw [e]; rfl))) | (obtain ⟨_, h⟩ := h))
  · exact (pss_cons (ps_if (pt_cmpR op_eq (pe_call (ok_l_take T) (hr.mono (by decide)) (by rfl) T.l_take.gl T.l_take.fn.kp T.l_take.bd .nil pass0 (pa_cons (pv 0) (pa_cons pe_int pa_nil))) pe_int (nomark _)) (pss_one (ps_ret (pe_call (ok_l_between T) (hr.mono (by decide)) (by rfl) T.l_between.gl T.l_between.fn.kp T.l_between.bd .nil pass0 (pa_cons (pv 0) (pa_cons (pv 1) (pa_cons (pv 2) pa_nil)))))) pss_nil)
  (pss_one (ps_ret (pe_call (ok_l_between T) (hr.mono (by decide)) (by rfl) T.l_between.gl T.l_between.fn.kp T.l_between.bd .nil pass0 (pa_cons (pv 0) (pa_cons pe_int (pa_cons (pv 1) pa_nil)))))))
theorem ok_l_alignment (T : Txt K mg a) : FnOk P w K mg base CX0 4 a.l_alignment a.l_alignment_d ["_law_draws_here", "_law_most"] sp_alignment := by
  refine T.l_alignment.fn.ok sc_l_alignment (fun vs H Q E h => ?_) (fun cdv A outer s H vs Q E hr h => ⟨t_l_alignment K, ?_, pure_alignment  h⟩)
  · repeat' (first | (obtain ⟨e, _⟩ := h; (first | (subst e; rfl) | (rw [e]; rfl))) | (obtain ⟨_, h⟩ := h))
  · exact (pss_cons (ps_set (i := 2) sc_l_alignment.nd rfl (Or.inl rfl) pe_int)
  (pss_cons (ps_for PassesOwn.never rfl (pi_range1 (by rfl) T.b_range (pa_cons (pe_call (ok_l_between T) (hr.mono (by decide)) (by rfl) T.l_between.gl T.l_between.fn.kp T.l_between.bd .nil pass0 (pa_cons (pv 0) (pa_cons pe_int (pa_cons (pv 1) pa_nil)))) pa_nil)) (pg_name (i := 3) sc_l_alignment.nd rfl (Or.inl rfl)) (pss_one (ps_set (i := 2) sc_l_alignment.nd rfl (Or.inl rfl) (pe_op op_mul (pv 2) pe_int))))
  (pss_one (ps_ret (pv 2)))))
theorem ok_l_holder (T : Txt K mg a) : FnOk P w K mg base CX0 4 a.l_holder a.l_holder_d ["_law_draws_here"] (sp_holder K) := by
  refine T.l_holder.fn.ok sc_l_holder (fun vs H Q E h => ?_) (fun cdv A outer s H vs Q E hr h => ⟨t_l_holder K, ?_, pure_holder  h⟩)
  · repeat' (first | (obtain ⟨e, _⟩ := h; (first | (subst e; rfl) | (rw [e]; rfl))) | (obtain ⟨_, h⟩ := h))
  · exact (pss_cons (ps_if (pt_cmpR op_eq (pe_call (ok_l_take T) (hr.mono (by decide)) (by rfl) T.l_take.gl T.l_take.fn.kp T.l_take.bd .nil pass0 (pa_cons (pv 0) (pa_cons pe_int pa_nil))) pe_int (nomark _)) (pss_one (ps_ret pe_int)) pss_nil)
  (pss_one (ps_ret (pe_call (ok_l_among T) (hr.mono (by decide)) (by rfl) T.l_among.gl T.l_among.fn.kp T.l_among.bd .nil pass0 (pa_cons (pv 0) (pa_cons (pe_call0 (ok_l_holders T) (hr.mono (by decide)) (by rfl) T.l_holders.gl T.l_holders.fn.kp T.l_holders.bd .nil pass0) pa_nil))))))
theorem ok_l_near_step (T : Txt K mg a) : FnOk P w K mg base CX0 4 a.l_near_step a.l_near_step_d ["_law_draws_here", "_law_side_here"] (sp_near_step K) := by
  refine T.l_near_step.fn.ok sc_l_near_step (fun vs H Q E h => ?_) (fun cdv A outer s H vs Q E hr h => ⟨t_l_near_step K, ?_, pure_near_step  h⟩)
  · repeat' (first | (obtain ⟨e, _⟩ := h; (first | (subst e; rfl) | (rw [e]; rfl))) | (obtain ⟨_, h⟩ := h))
  · exact (pss_cons (ps_set (i := 2) sc_l_near_step.nd rfl (Or.inr rfl) (pe_ix ix_list (pe_ix ix_list (pv 1) pe_int (fun _ _ => rfl)) pe_int (fun _ _ => rfl)))
  (pss_cons (ps_set (i := 3) sc_l_near_step.nd rfl (Or.inl rfl) (pe_callB call_len (by rfl) T.b_len (by decide +kernel) (pa_cons (pe_call (ok_l_differing T) (hr.mono (by decide)) (by rfl) T.l_differing.gl T.l_differing.fn.kp T.l_differing.bd .nil pass0 (pa_cons (pv 2) (pa_cons (pv 1) pa_nil))) pa_nil)))
  (pss_cons (ps_if (PW.pt (pw_or (pt_cmpR op_isN (pe_ix ix_list (pv 1) pe_int (fun _ _ => rfl)) pe_non (nomark _)) (pw_or1 (pt_cmpR op_ge (pv 3) (pe_op op_add (pe_ix ix_list (pv 1) pe_int (fun _ _ => rfl)) (pe_call (ok_l_take T) (hr.mono (by decide)) (by rfl) T.l_take.gl T.l_take.fn.kp T.l_take.bd .nil pass0 (pa_cons (pv 0) (pa_cons pe_int pa_nil)))) (nomark _))))) (pss_one (ps_ret (pe_tup (pa_cons pe_str pa_nil)))) pss_nil)
  (pss_cons (ps_setLc (i := 4) (own := [("_law_k", 6)]) (g := (gName 6)) (tt := (tAnd (tTest (tOp rEq (tOp (rIxL K) (tOp (rIxT K) (tVar 2) (tC (.int 0))) (tVar 6)) (tOp (rIxL K) (tOp (rIxL K) (tVar 1) (tC (.int 1))) (tVar 6)))) (tTest (tOp rEq (tOp (rIxL K) (tOp (rIxT K) (tVar 2) (tC (.int 1))) (tVar 6)) (tOp (rIxL K) (tOp (rIxL K) (tVar 1) (tC (.int 2))) (tVar 6)))))) (by rfl) sc_l_near_step.nd rfl rfl (sw_true rfl rfl rfl (by decide +kernel)) (pi_range1 (by rfl) T.b_range (pa_cons (pe_callB call_len (by rfl) T.b_len (by decide +kernel) (pa_cons (pe_ix ix_tup (pv 2) pe_int (fun _ _ => rfl)) pa_nil)) pa_nil)) (blkOk_by (own := [("_law_k", 6)]) (N := N_l_near_step) (sc := defScope s_l_near_step) (by decide +kernel)) (fun _ _ _ _ _ => pg_name (i := 6) sc_l_near_step.nd rfl (Or.inl rfl)) (fun _ _ _ _ _ => (pts_one (PW.pt (pw_and (pt_cmpR op_eq (pe_ix ix_list (pe_ix ix_tup (pv 2) pe_int (fun _ _ => rfl)) (pv 6) (fun _ _ => rfl)) (pe_ix ix_list (pe_ix ix_list (pv 1) pe_int (fun _ _ => rfl)) (pv 6) (fun _ _ => rfl)) (nomark _)) (pw_and1 (pt_cmpR op_eq (pe_ix ix_list (pe_ix ix_tup (pv 2) pe_int (fun _ _ => rfl)) (pv 6) (fun _ _ => rfl)) (pe_ix ix_list (pe_ix ix_list (pv 1) pe_int (fun _ _ => rfl)) (pv 6) (fun _ _ => rfl)) (nomark _))))))) (fun _ _ _ _ _ => (pv 6)))
  (pss_cons (ps_if (PW.pt (pw_or (pt_cmpR op_eq (pe_callB call_len (by rfl) T.b_len (by decide +kernel) (pa_cons (pv 4) pa_nil)) pe_int (nomark _)) (pw_or1 (pt_cmpR op_gt (pe_op op_sub (pe_ix ix_list (pv 1) pe_int (fun _ _ => rfl)) (pv 3)) pe_int (nomark _))))) (pss_one (ps_ret (pe_tup (pa_cons pe_str pa_nil)))) pss_nil)
  (pss_cons (ps_set (i := 5) sc_l_near_step.nd rfl (Or.inl rfl) (pe_call (ok_l_among T) (hr.mono (by decide)) (by rfl) T.l_among.gl T.l_among.fn.kp T.l_among.bd .nil pass0 (pa_cons (pv 0) (pa_cons (pv 4) pa_nil))))
  (pss_one (ps_ret (pe_tup (pa_cons pe_str (pa_cons (pv 5) (pa_cons (pe_call (ok_l_other_word T) (hr.mono (by decide)) (by rfl) T.l_other_word.gl T.l_other_word.fn.kp T.l_other_word.bd .nil pass0 (pa_cons (pv 0) (pa_cons (pe_ix ix_list (pe_ix ix_list (pv 1) pe_int (fun _ _ => rfl)) (pv 5) (fun _ _ => rfl)) pa_nil))) pa_nil))))))))))))
theorem ok_c_Ground_write (T : Txt K mg a) : FnOk P w K mg base (L2N.CX P w) 5 a.c_Ground_write a.c_Ground_write_d ["self", "place", "word", "holder"] (sp_write K a.c) := by
  refine okXN T.c_Ground_write.fn sc_c_Ground_write (fun vs H Q E h => ?_) (fun cdv A outer s H vs Q E hr h => ⟨t_c_Ground_write K a.c E, ?_, pure_write  h⟩)
  · repeat' (first | (obtain ⟨e, _⟩ := h; (first | (subst e; rfl) | (rw [e]; rfl))) | (obtain ⟨_, h⟩ := h))
  · exact (pss_cons (ps_expr (pe_meth (pv 0) T.cl_Ground T.mt_c_Ground_check_place (ok_c_Ground_check_place T) (hr.mono (by decide)) T.c_Ground_check_place.bd .nil (L2N.passes_call (L2N.takes_of rfl rfl rfl rfl) (fun _ _ _ _ h => h)) (pa_cons (pv 1) pa_nil)))
  (pss_cons (ps_if (pt_not (pt_val (pe_call (ok_p_is_between T) (hr.mono (by decide)) (by rfl) T.p_is_between.gl T.p_is_between.fn.kp T.p_is_between.bd .nil pass0 (pa_cons (pv 2) (pa_cons pe_int (pa_cons (pe_glob (by rfl) T.g_MOST_WORD T.r_MOST_WORD) pa_nil)))))) (pss_one (L2N.ps_raise rfl (L2N.takes_of rfl rfl rfl rfl) (pmk_oexN T.bv.ox T.iC T.tI (ok_c_BadValue_init T) (hr.mono (by decide)) T.c_BadValue_init.bd .nil pass0 (by rfl) T.k_BadValue (pa_cons pe_str pa_nil)))) pss_nil)
  (pss_cons (ps_if (PW.pt (pw_or (pt_not (pt_val (pe_call (ok_p_is_holder T) (hr.mono (by decide)) (by rfl) T.p_is_holder.gl T.p_is_holder.fn.kp T.p_is_holder.bd .nil pass0 (pa_cons (pv 3) pa_nil)))) (pw_or1 (pt_cmpR op_eq (pv 3) (pe_glob (by rfl) T.g_NOBODY T.r_NOBODY) (nomark _))))) (pss_one (L2N.ps_raise rfl (L2N.takes_of rfl rfl rfl rfl) (pmk_oexN T.bv.ox T.iC T.tI (ok_c_BadValue_init T) (hr.mono (by decide)) T.c_BadValue_init.bd .nil pass0 (by rfl) T.k_BadValue (pa_cons pe_str pa_nil)))) pss_nil)
  (pss_cons (ps_expr (pe_meth (pv 0) T.cl_Ground T.mt_c_Ground_check_guard (ok_c_Ground_check_guard T) (hr.mono (by decide)) T.c_Ground_check_guard.bd .nil (L2N.passes_call (L2N.takes_of rfl rfl rfl rfl) (fun _ _ _ _ h => h)) (pa_cons (pv 1) (pa_cons (pv 3) pa_nil))))
  (pss_cons (ps_expr (pe_meth0 (pv 0) T.cl_Ground T.mt_c_Ground_begin (ok_c_Ground_begin T) (hr.mono (by decide)) T.c_Ground_begin.bd .nil pass0))
  (pss_cons (ps_expr (pe_meth (pv 0) T.cl_Ground T.mt_c_Ground_change_cell (ok_c_Ground_change_cell T) (hr.mono (by decide)) T.c_Ground_change_cell.bd .nil pass0 (pa_cons (pv 1) (pa_cons (pv 2) (pa_cons (pv 3) pa_nil)))))
  (pss_one (ps_expr (pe_meth0 (pv 0) T.cl_Ground T.mt_c_Ground_commit (ok_c_Ground_commit T) (hr.mono (by decide)) T.c_Ground_commit.bd .nil (L2N.passes_call (L2N.takes_of rfl rfl rfl rfl) (fun _ _ _ _ h => h)))))))))))
theorem ok_c_Ground_poke (T : Txt K mg a) : FnOk P w K mg base (L2N.CX P w) 5 a.c_Ground_poke a.c_Ground_poke_d ["self", "place", "word"] (sp_poke K a.c) := by
  refine okXN T.c_Ground_poke.fn sc_c_Ground_poke (fun vs H Q E h => ?_) (fun cdv A outer s H vs Q E hr h => ⟨t_c_Ground_poke K a.c E, ?_, pure_poke  h⟩)
  · repeat' (first | (obtain ⟨e, _⟩ := h; (first | (subst e; rfl) | (rw [e]; rfl))) | (obtain ⟨_, h⟩ := h))
  · exact (pss_cons (ps_expr (pe_meth (pv 0) T.cl_Ground T.mt_c_Ground_check_place (ok_c_Ground_check_place T) (hr.mono (by decide)) T.c_Ground_check_place.bd .nil (L2N.passes_call (L2N.takes_of rfl rfl rfl rfl) (fun _ _ _ _ h => h)) (pa_cons (pv 1) pa_nil)))
  (pss_cons (ps_if (pt_not (pt_val (pe_call (ok_p_is_between T) (hr.mono (by decide)) (by rfl) T.p_is_between.gl T.p_is_between.fn.kp T.p_is_between.bd .nil pass0 (pa_cons (pv 2) (pa_cons pe_int (pa_cons (pe_glob (by rfl) T.g_MOST_WORD T.r_MOST_WORD) pa_nil)))))) (pss_one (L2N.ps_raise rfl (L2N.takes_of rfl rfl rfl rfl) (pmk_oexN T.bv.ox T.iC T.tI (ok_c_BadValue_init T) (hr.mono (by decide)) T.c_BadValue_init.bd .nil pass0 (by rfl) T.k_BadValue (pa_cons pe_str pa_nil)))) pss_nil)
  (pss_cons (ps_expr (pe_meth0 (pv 0) T.cl_Ground T.mt_c_Ground_begin (ok_c_Ground_begin T) (hr.mono (by decide)) T.c_Ground_begin.bd .nil pass0))
  (pss_cons (ps_expr (pe_meth (pv 0) T.cl_Ground T.mt_c_Ground_change_cell (ok_c_Ground_change_cell T) (hr.mono (by decide)) T.c_Ground_change_cell.bd .nil pass0 (pa_cons (pv 1) (pa_cons (pv 2) (pa_cons (pe_ix ix_list (pe_fld (pv 0) rfl) (pv 1) (fun _ _ => rfl)) pa_nil)))))
  (pss_one (ps_expr (pe_meth0 (pv 0) T.cl_Ground T.mt_c_Ground_commit (ok_c_Ground_commit T) (hr.mono (by decide)) T.c_Ground_commit.bd .nil (L2N.passes_call (L2N.takes_of rfl rfl rfl rfl) (fun _ _ _ _ h => h)))))))))
theorem ok_c_Ground_pass_on (T : Txt K mg a) : FnOk P w K mg base (L2N.CX P w) 5 a.c_Ground_pass_on a.c_Ground_pass_on_d ["self", "start", "size", "giver", "taker"] (sp_pass_on K a.c) := by
  refine okXN T.c_Ground_pass_on.fn sc_c_Ground_pass_on (fun vs H Q E h => ?_) (fun cdv A outer s H vs Q E hr h => ⟨t_c_Ground_pass_on K a.c E, ?_, pure_pass_on  h⟩)
  · repeat' (first | (obtain ⟨e, _⟩ := h; (first | (subst e; rfl) | (rw [e]; rfl))) | (obtain ⟨_, h⟩ := h))
  · exact (pss_cons (ps_set (i := 5) sc_c_Ground_pass_on.nd rfl (Or.inl rfl) (pe_callB call_len (by rfl) T.b_len (by decide +kernel) (pa_cons (pe_fld (pv 0) rfl) pa_nil)))
  (pss_cons (ps_if (pt_not (pt_val (pe_call (ok_p_is_between T) (hr.mono (by decide)) (by rfl) T.p_is_between.gl T.p_is_between.fn.kp T.p_is_between.bd .nil pass0 (pa_cons (pv 1) (pa_cons pe_int (pa_cons (pe_op op_sub (pv 5) pe_int) pa_nil)))))) (pss_one (L2N.ps_raise rfl (L2N.takes_of rfl rfl rfl rfl) (pmk_oexN T.bv.ox T.iC T.tI (ok_c_BadValue_init T) (hr.mono (by decide)) T.c_BadValue_init.bd .nil pass0 (by rfl) T.k_BadValue (pa_cons pe_str pa_nil)))) pss_nil)
  (pss_cons (ps_if (pt_not (pt_val (pe_call (ok_p_is_between T) (hr.mono (by decide)) (by rfl) T.p_is_between.gl T.p_is_between.fn.kp T.p_is_between.bd .nil pass0 (pa_cons (pv 2) (pa_cons pe_int (pa_cons (pe_op op_sub (pv 5) (pv 1)) pa_nil)))))) (pss_one (L2N.ps_raise rfl (L2N.takes_of rfl rfl rfl rfl) (pmk_oexN T.bv.ox T.iC T.tI (ok_c_BadValue_init T) (hr.mono (by decide)) T.c_BadValue_init.bd .nil pass0 (by rfl) T.k_BadValue (pa_cons pe_str pa_nil)))) pss_nil)
  (pss_cons (ps_if (pt_not (pt_val (pe_call (ok_p_is_holder T) (hr.mono (by decide)) (by rfl) T.p_is_holder.gl T.p_is_holder.fn.kp T.p_is_holder.bd .nil pass0 (pa_cons (pv 3) pa_nil)))) (pss_one (L2N.ps_raise rfl (L2N.takes_of rfl rfl rfl rfl) (pmk_oexN T.bv.ox T.iC T.tI (ok_c_BadValue_init T) (hr.mono (by decide)) T.c_BadValue_init.bd .nil pass0 (by rfl) T.k_BadValue (pa_cons pe_str pa_nil)))) pss_nil)
  (pss_cons (ps_if (pt_not (pt_val (pe_call (ok_p_is_holder T) (hr.mono (by decide)) (by rfl) T.p_is_holder.gl T.p_is_holder.fn.kp T.p_is_holder.bd .nil pass0 (pa_cons (pv 4) pa_nil)))) (pss_one (L2N.ps_raise rfl (L2N.takes_of rfl rfl rfl rfl) (pmk_oexN T.bv.ox T.iC T.tI (ok_c_BadValue_init T) (hr.mono (by decide)) T.c_BadValue_init.bd .nil pass0 (by rfl) T.k_BadValue (pa_cons pe_str pa_nil)))) pss_nil)
  (pss_cons (ps_if (pt_cmpR op_eq (pv 3) (pe_glob (by rfl) T.g_NOBODY T.r_NOBODY) (nomark _)) (pss_one (ps_expr (pe_meth (pv 0) T.cl_Ground T.mt_c_Ground_check_fill (ok_c_Ground_check_fill T) (hr.mono (by decide)) T.c_Ground_check_fill.bd .nil (L2N.passes_call (L2N.takes_of rfl rfl rfl rfl) (fun _ _ _ _ h => h)) (pa_cons (pv 1) (pa_cons (pv 2) pa_nil))))) pss_nil)
  (pss_cons (ps_for (passes_of rfl) rfl (pi_range2 (by rfl) T.b_range (pa_cons (pv 1) (pa_cons (pe_op op_add (pv 1) (pv 2)) pa_nil))) (pg_name (i := 6) sc_c_Ground_pass_on.nd rfl (Or.inl rfl)) (pss_one (ps_expr (pe_meth (pv 0) T.cl_Ground T.mt_c_Ground_check_guard (ok_c_Ground_check_guard T) (hr.mono (by decide)) T.c_Ground_check_guard.bd .nil (L2N.passes_call (L2N.takes_of rfl rfl rfl rfl) (fun _ _ _ _ h => h)) (pa_cons (pv 6) (pa_cons (pv 3) pa_nil))))))
  (pss_cons (ps_expr (pe_meth0 (pv 0) T.cl_Ground T.mt_c_Ground_begin (ok_c_Ground_begin T) (hr.mono (by decide)) T.c_Ground_begin.bd .nil pass0))
  (pss_cons (ps_for (passes_of rfl) rfl (pi_range2 (by rfl) T.b_range (pa_cons (pv 1) (pa_cons (pe_op op_add (pv 1) (pv 2)) pa_nil))) (pg_name (i := 6) sc_c_Ground_pass_on.nd rfl (Or.inl rfl)) (pss_cons (ps_set (i := 7) sc_c_Ground_pass_on.nd rfl (Or.inl rfl) (pe_ifExp (pt_cmpR op_eq (pv 4) (pe_glob (by rfl) T.g_NOBODY T.r_NOBODY) (nomark _)) (pe_fld (pv 0) rfl) (pe_ix ix_list (pe_fld (pv 0) rfl) (pv 6) (fun _ _ => rfl))))
  (pss_one (ps_expr (pe_meth (pv 0) T.cl_Ground T.mt_c_Ground_change_cell (ok_c_Ground_change_cell T) (hr.mono (by decide)) T.c_Ground_change_cell.bd .nil pass0 (pa_cons (pv 6) (pa_cons (pv 7) (pa_cons (pv 4) pa_nil))))))))
  (pss_one (ps_expr (pe_meth0 (pv 0) T.cl_Ground T.mt_c_Ground_commit (ok_c_Ground_commit T) (hr.mono (by decide)) T.c_Ground_commit.bd .nil (L2N.passes_call (L2N.takes_of rfl rfl rfl rfl) (fun _ _ _ _ h => h))))))))))))))
theorem ok_l_number (T : Txt K mg a) : FnOk P w K mg base CX0 5 a.l_number a.l_number_d ["_law_draws_here", "_law_low", "_law_high"] sp_number := by
  refine T.l_number.fn.ok sc_l_number (fun vs H Q E h => ?_) (fun cdv A outer s H vs Q E hr h => ⟨t_l_number K, ?_, pure_number  h⟩)
  · repeat' (first | (obtain ⟨e, _⟩ := h; (first | (subst e; rfl) | (rw [e]; rfl))) | (obtain ⟨_, h⟩ := h))
  · exact (pss_cons (ps_if (pt_cmpR op_lt (pe_op op_sub (pv 2) (pv 1)) pe_int (nomark _)) (pss_one (ps_ret (pe_call (ok_l_between T) (hr.mono (by decide)) (by rfl) T.l_between.gl T.l_between.fn.kp T.l_between.bd .nil pass0 (pa_cons (pv 0) (pa_cons (pv 1) (pa_cons (pv 2) pa_nil)))))) pss_nil)
  (pss_cons (ps_set (i := 3) sc_l_number.nd rfl (Or.inl rfl) (pe_call (ok_l_take T) (hr.mono (by decide)) (by rfl) T.l_take.gl T.l_take.fn.kp T.l_take.bd .nil pass0 (pa_cons (pv 0) (pa_cons pe_int pa_nil))))
  (pss_cons (ps_if (pt_cmpR op_lt (pv 3) pe_int (nomark _)) (pss_one (ps_ret (pe_ix ix_list (pe_lst (pa_cons (pv 1) (pa_cons (pv 2) (pa_cons (pe_op op_add (pv 1) pe_int) (pa_cons (pe_op op_sub (pv 2) pe_int) pa_nil))))) (pv 3) (fun _ _ => rfl)))) pss_nil)
  (pss_cons (ps_if (pt_cmpR op_lt (pv 3) pe_int (nomark _)) (pss_one (ps_ret (pe_op op_add (pv 1) (pe_call (ok_l_take T) (hr.mono (by decide)) (by rfl) T.l_take.gl T.l_take.fn.kp T.l_take.bd .nil pass0 (pa_cons (pv 0) (pa_cons (pe_op op_add (pe_callB (call_min2 rfl) (by rfl) T.b_min (by decide +kernel) (pa_cons (pe_op op_sub (pv 2) (pv 1)) (pa_cons pe_int pa_nil))) pe_int) pa_nil)))))) pss_nil)
  (pss_cons (ps_if (pt_cmpR op_eq (pv 3) pe_int (nomark _)) (pss_one (ps_ret (pe_callB (call_max2 rfl) (by rfl) T.b_max (by decide +kernel) (pa_cons (pv 1) (pa_cons (pe_callB (call_min2 rfl) (by rfl) T.b_min (by decide +kernel) (pa_cons (pv 2) (pa_cons (pe_op op_sub (pe_op op_add (pe_call (ok_l_alignment T) (hr.mono (by decide)) (by rfl) T.l_alignment.gl T.l_alignment.fn.kp T.l_alignment.bd .nil pass0 (pa_cons (pv 0) (pa_cons pe_int pa_nil))) (pe_call (ok_l_take T) (hr.mono (by decide)) (by rfl) T.l_take.gl T.l_take.fn.kp T.l_take.bd .nil pass0 (pa_cons (pv 0) (pa_cons pe_int pa_nil)))) pe_int) pa_nil))) pa_nil))))) pss_nil)
  (pss_one (ps_ret (pe_op op_add (pv 1) (pe_call (ok_l_take T) (hr.mono (by decide)) (by rfl) T.l_take.gl T.l_take.fn.kp T.l_take.bd .nil pass0 (pa_cons (pv 0) (pa_cons (pe_op op_add (pe_op op_sub (pv 2) (pv 1)) pe_int) pa_nil)))))))))))
theorem ok_l_ground_deed (T : Txt K mg a) : FnOk P w K mg base CX0 5 a.l_ground_deed a.l_ground_deed_d ["_law_draws_here", "_law_words", "_law_holders_here", "_law_blank_here"] (sp_ground_deed K) := by
  refine T.l_ground_deed.fn.ok sc_l_ground_deed (fun vs H Q E h => ?_) (fun cdv A outer s H vs Q E hr h => ⟨t_l_ground_deed K, ?_, pure_ground_deed  h⟩)
  · repeat' (first | (obtain ⟨e, _⟩ := h; (first | (subst e; rfl) | (rw [e]; rfl))) | (obtain ⟨_, h⟩ := h))
  · exact (pss_cons (ps_set (i := 4) sc_l_ground_deed.nd rfl (Or.inl rfl) (pe_call (ok_l_between T) (hr.mono (by decide)) (by rfl) T.l_between.gl T.l_between.fn.kp T.l_between.bd .nil pass0 (pa_cons (pv 0) (pa_cons pe_int (pa_cons (pe_op op_sub (pe_callB call_len (by rfl) T.b_len (by decide +kernel) (pa_cons (pv 1) pa_nil)) pe_int) pa_nil)))))
  (pss_cons (ps_set (i := 5) sc_l_ground_deed.nd rfl (Or.inl rfl) (pe_ix ix_list (pv 2) (pv 4) (fun _ _ => rfl)))
  (pss_cons (ps_set (i := 6) sc_l_ground_deed.nd rfl (Or.inl rfl) (pe_call (ok_l_take T) (hr.mono (by decide)) (by rfl) T.l_take.gl T.l_take.fn.kp T.l_take.bd .nil pass0 (pa_cons (pv 0) (pa_cons pe_int pa_nil))))
  (pss_cons (ps_if (pt_cmpR op_lt (pv 6) pe_int (nomark _)) (pss_cons (ps_if (PW.pt (pw_or (pt_cmpR op_eq (pv 5) pe_int (nomark _)) (pw_or1 (pt_cmpR op_eq (pe_call (ok_l_take T) (hr.mono (by decide)) (by rfl) T.l_take.gl T.l_take.fn.kp T.l_take.bd .nil pass0 (pa_cons (pv 0) (pa_cons pe_int pa_nil))) pe_int (nomark _))))) (pss_one (ps_set (i := 5) sc_l_ground_deed.nd rfl (Or.inl rfl) (pe_call (ok_l_among T) (hr.mono (by decide)) (by rfl) T.l_among.gl T.l_among.fn.kp T.l_among.bd .nil pass0 (pa_cons (pv 0) (pa_cons (pe_call0 (ok_l_holders T) (hr.mono (by decide)) (by rfl) T.l_holders.gl T.l_holders.fn.kp T.l_holders.bd .nil pass0) pa_nil))))) pss_nil)
  (pss_one (ps_ret (pe_tup (pa_cons pe_str (pa_cons (pv 4) (pa_cons (pe_call (ok_l_word T) (hr.mono (by decide)) (by rfl) T.l_word.gl T.l_word.fn.kp T.l_word.bd .nil pass0 (pa_cons (pv 0) (pa_cons (pv 3) pa_nil))) (pa_cons (pv 5) pa_nil)))))))) pss_nil)
  (pss_cons (ps_if (pt_cmpR op_eq (pv 6) pe_int (nomark _)) (pss_one (ps_ret (pe_tup (pa_cons pe_str (pa_cons (pv 4) (pa_cons (pe_call (ok_l_word T) (hr.mono (by decide)) (by rfl) T.l_word.gl T.l_word.fn.kp T.l_word.bd .nil pass0 (pa_cons (pv 0) (pa_cons (pv 3) pa_nil))) pa_nil)))))) pss_nil)
  (pss_cons (ps_if (pt_cmpR op_eq (pv 6) pe_int (nomark _)) (pss_one (ps_set (i := 5) sc_l_ground_deed.nd rfl (Or.inl rfl) (pe_call (ok_l_holder T) (hr.mono (by decide)) (by rfl) T.l_holder.gl T.l_holder.fn.kp T.l_holder.bd .nil pass0 (pa_cons (pv 0) pa_nil)))) pss_nil)
  (pss_cons (ps_set (i := 7) sc_l_ground_deed.nd rfl (Or.inl rfl) (pe_call (ok_l_between T) (hr.mono (by decide)) (by rfl) T.l_between.gl T.l_between.fn.kp T.l_between.bd .nil pass0 (pa_cons (pv 0) (pa_cons pe_int (pa_cons (pe_callB (call_min2 rfl) (by rfl) T.b_min (by decide +kernel) (pa_cons pe_int (pa_cons (pe_op op_sub (pe_callB call_len (by rfl) T.b_len (by decide +kernel) (pa_cons (pv 1) pa_nil)) (pv 4)) pa_nil))) pa_nil)))))
  (pss_cons (ps_if (pt_cmpR op_gt (pv 6) pe_int (nomark _)) (pss_cons (ps_set (i := 7) sc_l_ground_deed.nd rfl (Or.inl rfl) pe_int)
  (pss_one (ps_while PassesOwn.never (PW.pt (pw_and (pt_cmpR op_lt (pv 7) pe_int (nomark _)) (pw_and (pt_cmpR op_lt (pe_op op_add (pv 4) (pv 7)) (pe_callB call_len (by rfl) T.b_len (by decide +kernel) (pa_cons (pv 1) pa_nil)) (nomark _)) (pw_and (pt_cmpR op_eq (pe_ix ix_list (pv 2) (pe_op op_add (pv 4) (pv 7)) (fun _ _ => rfl)) (pv 5) (nomark _)) (pw_and1 (pt_cmpR op_gt (pe_call (ok_l_take T) (hr.mono (by decide)) (by rfl) T.l_take.gl T.l_take.fn.kp T.l_take.bd .nil pass0 (pa_cons (pv 0) (pa_cons pe_int pa_nil))) pe_int (nomark _))))))) (pss_one (ps_set (i := 7) sc_l_ground_deed.nd rfl (Or.inl rfl) (pe_op op_add (pv 7) pe_int)))))) pss_nil)
  (pss_one (ps_ret (pe_tup (pa_cons pe_str (pa_cons (pv 4) (pa_cons (pv 7) (pa_cons (pv 5) (pa_cons (pe_call (ok_l_among T) (hr.mono (by decide)) (by rfl) T.l_among.gl T.l_among.fn.kp T.l_among.bd .nil pass0 (pa_cons (pv 0) (pa_cons (pe_lst (pa_cons pe_int (pa_cons pe_int (pa_cons (pv 5) (pa_cons pe_int (pa_cons pe_int (pa_cons (pe_call (ok_l_holder T) (hr.mono (by decide)) (by rfl) T.l_holder.gl T.l_holder.fn.kp T.l_holder.bd .nil pass0 (pa_cons (pv 0) pa_nil)) pa_nil))))))) pa_nil))) pa_nil))))))))))))))))
theorem ok_l_ground_args (T : Txt K mg a) : FnOk P w K mg base CX0 6 a.l_ground_args a.l_ground_args_d ["_law_draws_here"] (sp_ground_args K) := by
  refine T.l_ground_args.fn.ok sc_l_ground_args (fun vs H Q E h => ?_) (fun cdv A outer s H vs Q E hr h => ⟨t_l_ground_args K, ?_, pure_ground_args  h⟩)
  · repeat' (first | (obtain ⟨e, _⟩ := h; (first | (subst e; rfl) | (rw [e]; rfl))) | (obtain ⟨_, h⟩ := h))
  · exact (pss_cons (ps_set (i := 1) sc_l_ground_args.nd rfl (Or.inl rfl) (pe_call (ok_l_among T) (hr.mono (by decide)) (by rfl) T.l_among.gl T.l_among.fn.kp T.l_among.bd .nil pass0 (pa_cons (pv 0) (pa_cons (pe_lst (pa_cons pe_int (pa_cons pe_int (pa_cons pe_int (pa_cons pe_int (pa_cons pe_int pa_nil)))))) pa_nil))))
  (pss_cons (ps_set (i := 2) sc_l_ground_args.nd rfl (Or.inl rfl) (pe_call (ok_l_between T) (hr.mono (by decide)) (by rfl) T.l_between.gl T.l_between.fn.kp T.l_between.bd .nil pass0 (pa_cons (pv 0) (pa_cons pe_int (pa_cons pe_int pa_nil)))))
  (pss_cons (ps_if (pt_cmpR op_eq (pe_call (ok_l_take T) (hr.mono (by decide)) (by rfl) T.l_take.gl T.l_take.fn.kp T.l_take.bd .nil pass0 (pa_cons (pv 0) (pa_cons pe_int pa_nil))) pe_int (nomark _)) (pss_one (ps_set (i := 2) sc_l_ground_args.nd rfl (Or.inl rfl) (pe_call (ok_l_number T) (hr.mono (by decide)) (by rfl) T.l_number.gl T.l_number.fn.kp T.l_number.bd .nil pass0 (pa_cons (pv 0) (pa_cons pe_int (pa_cons pe_int pa_nil)))))) pss_nil)
  (pss_one (ps_ret (pe_tup (pa_cons (pv 2) (pa_cons (pv 1) (pa_cons (pe_call (ok_l_blank T) (hr.mono (by decide)) (by rfl) T.l_blank.gl T.l_blank.fn.kp T.l_blank.bd .nil pass0 (pa_cons (pv 0) pa_nil)) pa_nil)))))))))
theorem ok_l_made (T : Txt K mg a) : FnOk P w K mg base CX0 6 a.l_made a.l_made_d ["_law_size", "_law_purse"] (sp_made13 K a.c) := by
  refine T.l_made.fn.ok sc_l_made (fun vs H Q E h => ?_) (fun cdv A outer s H vs Q E hr h => ⟨t_l_made K a.c, ?_, pure_made13  h⟩)
  · repeat' (first | (obtain ⟨e, _⟩ := h; (first | (subst e; rfl) | (rw [e]; rfl))) | (obtain ⟨_, h⟩ := h))
  · exact (pss_cons (ps_if (PW.pt (pw_and (pt_cmpR op_isN (pv 1) pe_non (nomark _)) (pw_and1 (pt_cmpR op_eq (pe_ix ix_tup (pv 0) pe_int (fun _ _ => rfl)) pe_int (nomark _))))) (pss_one (ps_ret (pe_make T.mk_Ground (ok_c_Ground_init T) (hr.mono (by decide)) (by rfl) T.k_Ground T.db_Ground_2.choose_spec.2 T.db_Ground_2.choose_spec.1 passLN (pa_cons (pe_ix ix_tup (pv 0) pe_int (fun _ _ => rfl)) (pa_cons (pe_ix ix_tup (pv 0) pe_int (fun _ _ => rfl)) pa_nil))))) pss_nil)
  (pss_cons (ps_if (pt_cmpR op_isN (pv 1) pe_non (nomark _)) (pss_one (ps_ret (pe_makeK (n := 2) (ks := ["fill"]) T.mk_Ground (ok_c_Ground_init T) (hr.mono (by decide)) (by rfl) T.k_Ground T.kb_Ground_2_fill.choose_spec passLN (pa_cons (pe_ix ix_tup (pv 0) pe_int (fun _ _ => rfl)) (pa_cons (pe_ix ix_tup (pv 0) pe_int (fun _ _ => rfl)) pa_nil)) (pk_cons (pe_ix ix_tup (pv 0) pe_int (fun _ _ => rfl)) pk_nil)))) pss_nil)
  (pss_one (ps_ret (pe_makeK (n := 2) (ks := ["fill", "budget"]) T.mk_Ground (ok_c_Ground_init T) (hr.mono (by decide)) (by rfl) T.k_Ground T.kb_Ground_2_fill_budget.choose_spec passLN (pa_cons (pe_ix ix_tup (pv 0) pe_int (fun _ _ => rfl)) (pa_cons (pe_ix ix_tup (pv 0) pe_int (fun _ _ => rfl)) pa_nil)) (pk_cons (pe_ix ix_tup (pv 0) pe_int (fun _ _ => rfl)) (pk_cons (pv 1) pk_nil)))))))
theorem ok_l_step (T : Txt K mg a) : FnOk P w K mg base CX0 6 a.l_step a.l_step_d ["_law_draws_here", "_law_side_here", "_law_blank_here"] (sp_step14 K) := by
  refine T.l_step.fn.ok sc_l_step (fun vs H Q E h => ?_) (fun cdv A outer s H vs Q E hr h => ⟨t_l_step14 K, ?_, pure_step14  h⟩)
  · repeat' (first | (obtain ⟨e, _⟩ := h; (first | (subst e; rfl) | (rw [e]; rfl))) | (obtain ⟨_, h⟩ := h))
  · exact (pss_cons (ps_set (i := 3) sc_l_step.nd rfl (Or.inl rfl) (pe_call (ok_l_take T) (hr.mono (by decide)) (by rfl) T.l_take.gl T.l_take.fn.kp T.l_take.bd .nil pass0 (pa_cons (pv 0) (pa_cons pe_int pa_nil))))
  (pss_cons (ps_if (pt_cmpR op_lt (pv 3) pe_int (nomark _)) (pss_one (ps_ret (pe_tup (pa_cons pe_str pa_nil)))) pss_nil)
  (pss_cons (ps_if (PW.pt (pw_or (pt_cmpR op_eq (pv 3) pe_int (nomark _)) (pw_or1 (pt_cmpR op_eq (pv 3) pe_int (nomark _))))) (pss_one (ps_ret (pe_tup (pa_cons pe_str pa_nil)))) pss_nil)
  (pss_cons (ps_if (pt_cmpR op_eq (pv 3) pe_int (nomark _)) (pss_one (ps_ret (pe_tup (pa_cons pe_str pa_nil)))) pss_nil)
  (pss_one (ps_ret (pe_call (ok_l_ground_deed T) (hr.mono (by decide)) (by rfl) T.l_ground_deed.gl T.l_ground_deed.fn.kp T.l_ground_deed.bd .nil pass0 (pa_cons (pv 0) (pa_cons (pe_ix ix_list (pv 1) pe_int (fun _ _ => rfl)) (pa_cons (pe_ix ix_list (pv 1) pe_int (fun _ _ => rfl)) (pa_cons (pv 2) pa_nil)))))))))))
theorem ok_l_same (T : Txt K mg a) : ∀ n : Nat, FnOk P w K mg base CX0 (n + 1) a.l_same a.l_same_d ["_law_actual", "_law_expected"] (sp_same n)
  | 0 => fn_false
  | n + 1 => by
    have ih := ok_l_same T n
    refine T.l_same.fn.ok sc_l_same (fun vs H Q E h => ?_) (fun cdv A outer s H vs Q E hr h => ⟨t_l_same K n, ?_, pure_same h⟩)
    · repeat' (first | (obtain ⟨e, _⟩ := h; (first | (subst e; rfl) | (rw [e]; rfl))) | (obtain ⟨_, h⟩ := h))
    · exact (pss_cons (ps_if (PW.pt (pw_or (pt_cmpR op_isN (pv 0) pe_non (nomark _)) (pw_or1 (pt_cmpR op_isN (pv 1) pe_non (nomark _))))) (pss_one (ps_ret (pe_and (pe_cmpR op_isN (pv 0) pe_non (nomark _)) (pe_one (pe_cmpR op_isN (pv 1) pe_non (nomark _)))))) pss_nil)
  (pss_cons (ps_if (PW.pt (pw_or (pt_val (pe_callB call_isi (by rfl) T.b_isinstance (by decide +kernel) (pa_cons (pv 0) (pa_cons (pe_bltn (by rfl) T.b_bool (by decide +kernel) rfl) pa_nil)))) (pw_or1 (pt_val (pe_callB call_isi (by rfl) T.b_isinstance (by decide +kernel) (pa_cons (pv 1) (pa_cons (pe_bltn (by rfl) T.b_bool (by decide +kernel) rfl) pa_nil))))))) (pss_one (ps_ret (pe_and (pe_callB call_isi (by rfl) T.b_isinstance (by decide +kernel) (pa_cons (pv 0) (pa_cons (pe_bltn (by rfl) T.b_bool (by decide +kernel) rfl) pa_nil))) (pe_and (pe_callB call_isi (by rfl) T.b_isinstance (by decide +kernel) (pa_cons (pv 1) (pa_cons (pe_bltn (by rfl) T.b_bool (by decide +kernel) rfl) pa_nil))) (pe_one (pe_cmpR op_eq (pv 0) (pv 1) (nomark _))))))) pss_nil)
  (pss_cons (ps_if (pt_val (pe_callB call_isi (by rfl) T.b_isinstance (by decide +kernel) (pa_cons (pv 1) (pa_cons (pe_bltn (by rfl) T.b_int (by decide +kernel) rfl) pa_nil)))) (pss_one (ps_ret (pe_and (pe_callB call_isi (by rfl) T.b_isinstance (by decide +kernel) (pa_cons (pv 0) (pa_cons (pe_bltn (by rfl) T.b_int (by decide +kernel) rfl) pa_nil))) (pe_one (pe_cmpR op_eq (pv 0) (pv 1) (nomark _)))))) pss_nil)
  (pss_cons (ps_if (pt_val (pe_callB call_isi (by rfl) T.b_isinstance (by decide +kernel) (pa_cons (pv 1) (pa_cons (pe_bltn (by rfl) T.b_str (by decide +kernel) rfl) pa_nil)))) (pss_one (ps_ret (pe_and (pe_callB call_isi (by rfl) T.b_isinstance (by decide +kernel) (pa_cons (pv 0) (pa_cons (pe_bltn (by rfl) T.b_str (by decide +kernel) rfl) pa_nil))) (pe_one (pe_cmpR op_eq (pv 0) (pv 1) (nomark _)))))) pss_nil)
  (pss_cons (ps_if (pt_val (pe_callB call_isi (by rfl) T.b_isinstance (by decide +kernel) (pa_cons (pv 1) (pa_cons (pe_bltn (by rfl) T.b_dict (by decide +kernel) rfl) pa_nil)))) (pss_cons (ps_if (PW.pt (pw_or (pt_not (pt_val (pe_callB call_isi (by rfl) T.b_isinstance (by decide +kernel) (pa_cons (pv 0) (pa_cons (pe_bltn (by rfl) T.b_dict (by decide +kernel) rfl) pa_nil))))) (pw_or1 (pt_cmpR op_ne (pe_callB call_lenD (by rfl) T.b_len (by decide +kernel) (pa_cons (pv 0) pa_nil)) (pe_callB call_lenD (by rfl) T.b_len (by decide +kernel) (pa_cons (pv 1) pa_nil)) (nomark _))))) (pss_one (ps_ret pe_bl)) pss_nil)
  (pss_cons (ps_for PassesOwn.never rfl (pi_list (pe_callTy (call_listD rfl) (by rfl) T.b_list (by decide +kernel) (pa_cons (pv 1) pa_nil))) (pg_name (i := 2) sc_l_same.nd rfl (Or.inl rfl)) (pss_one (ps_if (PW.pt (pw_or (pt_cmp (pc_dnotin (hu_of hr) (pv 2) (pv 0))) (pw_or1 (pt_not (pt_val (pe_call ih (hr.mono (by omega)) (by rfl) T.l_same.gl T.l_same.fn.kp T.l_same.bd .nil pass0 (pa_cons (pe_dget (hu_of hr) (pv 0) (pv 2) (fun _ _ => rfl)) (pa_cons (pe_dget (hu_of hr) (pv 1) (pv 2) (fun _ _ => rfl)) pa_nil)))))))) (pss_one (ps_ret pe_bl)) pss_nil)))
  (pss_one (ps_ret pe_bl)))) pss_nil)
  (pss_cons (ps_if (pt_cmpR op_ne (pe_callB call_isi (by rfl) T.b_isinstance (by decide +kernel) (pa_cons (pv 1) (pa_cons (pe_bltn (by rfl) T.b_list (by decide +kernel) rfl) pa_nil))) (pe_callB call_isi (by rfl) T.b_isinstance (by decide +kernel) (pa_cons (pv 0) (pa_cons (pe_bltn (by rfl) T.b_list (by decide +kernel) rfl) pa_nil))) (nomark _)) (pss_one (ps_ret pe_bl)) pss_nil)
  (pss_cons (ps_if (pt_cmpR op_ne (pe_callB call_isi (by rfl) T.b_isinstance (by decide +kernel) (pa_cons (pv 1) (pa_cons (pe_bltn (by rfl) T.b_tuple (by decide +kernel) rfl) pa_nil))) (pe_callB call_isi (by rfl) T.b_isinstance (by decide +kernel) (pa_cons (pv 0) (pa_cons (pe_bltn (by rfl) T.b_tuple (by decide +kernel) rfl) pa_nil))) (nomark _)) (pss_one (ps_ret pe_bl)) pss_nil)
  (pss_cons (ps_if (PW.pt (pw_or (PW.pt (pw_and (pt_not (pt_val (pe_callB call_isi (by rfl) T.b_isinstance (by decide +kernel) (pa_cons (pv 1) (pa_cons (pe_bltn (by rfl) T.b_list (by decide +kernel) rfl) pa_nil))))) (pw_and1 (pt_not (pt_val (pe_callB call_isi (by rfl) T.b_isinstance (by decide +kernel) (pa_cons (pv 1) (pa_cons (pe_bltn (by rfl) T.b_tuple (by decide +kernel) rfl) pa_nil)))))))) (pw_or1 (pt_cmpR op_ne (pe_callB call_len (by rfl) T.b_len (by decide +kernel) (pa_cons (pv 0) pa_nil)) (pe_callB call_len (by rfl) T.b_len (by decide +kernel) (pa_cons (pv 1) pa_nil)) (nomark _))))) (pss_one (ps_ret pe_bl)) pss_nil)
  (pss_cons (ps_for PassesOwn.never rfl (pi_range1 (by rfl) T.b_range (pa_cons (pe_callB call_len (by rfl) T.b_len (by decide +kernel) (pa_cons (pv 1) pa_nil)) pa_nil)) (pg_name (i := 3) sc_l_same.nd rfl (Or.inl rfl)) (pss_one (ps_if (pt_not (pt_val (pe_call ih (hr.mono (by omega)) (by rfl) T.l_same.gl T.l_same.fn.kp T.l_same.bd .nil pass0 (pa_cons (pe_ix ix_seq (pv 0) (pv 3) (fun _ _ => rfl)) (pa_cons (pe_ix ix_seq (pv 1) (pv 3) (fun _ _ => rfl)) pa_nil))))) (pss_one (ps_ret pe_bl)) pss_nil)))
  (pss_one (ps_ret pe_bl)))))))))))
theorem ok_l_sameH (T : Txt K mg a) : ∀ n : Nat, L2H.FnH P w K mg base CX0 (n + 1) a.l_same a.l_same_d ["_law_actual", "_law_expected"] (sp_sameH n)
  | 0 => fnH_false
  | n + 1 => by
    have ih := ok_l_sameH T n
    refine Fun_okH T.l_same.fn sc_l_same (fun vs H Q E h => ?_) (fun cdv A outer s H vs Q E p hot hr h => ⟨t_l_sameH K n, ?_, pure_sameH h⟩)
    · repeat' (first | (obtain ⟨e, _⟩ := h; (first | (subst e; rfl) | (rw [e]; rfl))) | (obtain ⟨_, h⟩ := h))
    · exact (pss_cons (ps_if (PW.pt (pw_or (pt_cmpR op_isN (pv 0) pe_non (nomark _)) (pw_or1 (pt_cmpR op_isN (pv 1) pe_non (nomark _))))) (pss_one (ps_ret (pe_and (pe_cmpR op_isN (pv 0) pe_non (nomark _)) (pe_one (pe_cmpR op_isN (pv 1) pe_non (nomark _)))))) pss_nil)
  (pss_cons (ps_if (PW.pt (pw_or (pt_val (pe_callB call_isi (by rfl) T.b_isinstance (by decide +kernel) (pa_cons (pv 0) (pa_cons (pe_bltn (by rfl) T.b_bool (by decide +kernel) rfl) pa_nil)))) (pw_or1 (pt_val (pe_callB call_isi (by rfl) T.b_isinstance (by decide +kernel) (pa_cons (pv 1) (pa_cons (pe_bltn (by rfl) T.b_bool (by decide +kernel) rfl) pa_nil))))))) (pss_one (ps_ret (pe_and (pe_callB call_isi (by rfl) T.b_isinstance (by decide +kernel) (pa_cons (pv 0) (pa_cons (pe_bltn (by rfl) T.b_bool (by decide +kernel) rfl) pa_nil))) (pe_and (pe_callB call_isi (by rfl) T.b_isinstance (by decide +kernel) (pa_cons (pv 1) (pa_cons (pe_bltn (by rfl) T.b_bool (by decide +kernel) rfl) pa_nil))) (pe_one (pe_cmpR op_eq (pv 0) (pv 1) (nomark _))))))) pss_nil)
  (pss_cons (ps_if (pt_val (pe_callB call_isi (by rfl) T.b_isinstance (by decide +kernel) (pa_cons (pv 1) (pa_cons (pe_bltn (by rfl) T.b_int (by decide +kernel) rfl) pa_nil)))) (pss_one (ps_ret (pe_and (pe_callB call_isi (by rfl) T.b_isinstance (by decide +kernel) (pa_cons (pv 0) (pa_cons (pe_bltn (by rfl) T.b_int (by decide +kernel) rfl) pa_nil))) (pe_one (pe_cmpR op_eq (pv 0) (pv 1) (nomark _)))))) pss_nil)
  (pss_cons (ps_if (pt_val (pe_callB call_isi (by rfl) T.b_isinstance (by decide +kernel) (pa_cons (pv 1) (pa_cons (pe_bltn (by rfl) T.b_str (by decide +kernel) rfl) pa_nil)))) (pss_one (ps_ret (pe_and (pe_callB call_isi (by rfl) T.b_isinstance (by decide +kernel) (pa_cons (pv 0) (pa_cons (pe_bltn (by rfl) T.b_str (by decide +kernel) rfl) pa_nil))) (pe_one (pe_cmpR op_eq (pv 0) (pv 1) (nomark _)))))) pss_nil)
  (pss_cons (ps_if (pt_val (pe_callB call_isi (by rfl) T.b_isinstance (by decide +kernel) (pa_cons (pv 1) (pa_cons (pe_bltn (by rfl) T.b_dict (by decide +kernel) rfl) pa_nil)))) (pss_cons (ps_if (PW.pt (pw_or (pt_not (pt_val (pe_callB call_isi (by rfl) T.b_isinstance (by decide +kernel) (pa_cons (pv 0) (pa_cons (pe_bltn (by rfl) T.b_dict (by decide +kernel) rfl) pa_nil))))) (pw_or1 (pt_cmpR op_ne (pe_callB call_lenD (by rfl) T.b_len (by decide +kernel) (pa_cons (pv 0) pa_nil)) (pe_callB call_lenD (by rfl) T.b_len (by decide +kernel) (pa_cons (pv 1) pa_nil)) (nomark _))))) (pss_one (ps_ret pe_bl)) pss_nil)
  (pss_cons ps_never
  (pss_one (ps_ret pe_bl)))) pss_nil)
  (pss_cons (ps_if (pt_cmpR op_ne (pe_callB call_isi (by rfl) T.b_isinstance (by decide +kernel) (pa_cons (pv 1) (pa_cons (pe_bltn (by rfl) T.b_list (by decide +kernel) rfl) pa_nil))) (pe_callB call_isi (by rfl) T.b_isinstance (by decide +kernel) (pa_cons (pv 0) (pa_cons (pe_bltn (by rfl) T.b_list (by decide +kernel) rfl) pa_nil))) (nomark _)) (pss_one (ps_ret pe_bl)) pss_nil)
  (pss_cons (ps_if (pt_cmpR op_ne (pe_callB call_isi (by rfl) T.b_isinstance (by decide +kernel) (pa_cons (pv 1) (pa_cons (pe_bltn (by rfl) T.b_tuple (by decide +kernel) rfl) pa_nil))) (pe_callB call_isi (by rfl) T.b_isinstance (by decide +kernel) (pa_cons (pv 0) (pa_cons (pe_bltn (by rfl) T.b_tuple (by decide +kernel) rfl) pa_nil))) (nomark _)) (pss_one (ps_ret pe_bl)) pss_nil)
  (pss_cons (ps_if (PW.pt (pw_or (PW.pt (pw_and (pt_not (pt_val (pe_callB call_isi (by rfl) T.b_isinstance (by decide +kernel) (pa_cons (pv 1) (pa_cons (pe_bltn (by rfl) T.b_list (by decide +kernel) rfl) pa_nil))))) (pw_and1 (pt_not (pt_val (pe_callB call_isi (by rfl) T.b_isinstance (by decide +kernel) (pa_cons (pv 1) (pa_cons (pe_bltn (by rfl) T.b_tuple (by decide +kernel) rfl) pa_nil)))))))) (pw_or1 (pt_cmpR op_ne (pe_callB call_len (by rfl) T.b_len (by decide +kernel) (pa_cons (pv 0) pa_nil)) (pe_callB call_len (by rfl) T.b_len (by decide +kernel) (pa_cons (pv 1) pa_nil)) (nomark _))))) (pss_one (ps_ret pe_bl)) pss_nil)
  (pss_cons (L2H.ps_forH PassesOwn.never ⟨p, hot, List.mem_cons_self⟩ (L2H.pi_range1H (by rfl) T.b_range (pa_cons (pe_callB call_len (by rfl) T.b_len (by decide +kernel) (pa_cons (pv 1) pa_nil)) pa_nil)) (pg_name (i := 3) sc_l_same.nd rfl (Or.inl rfl)) (pss_one (ps_if (pt_not (pt_val (pe_callHH ih (hr.mono (by omega)) ⟨p, hot, List.mem_cons_self⟩ (by rfl) T.l_same.gl T.l_same.fn.kp T.l_same.bd (pa_cons (pe_ix ix_seq (pv 0) (pv 3) (fun _ _ => rfl)) (pa_cons (pe_ix ix_seq (pv 1) (pv 3) (fun _ _ => rfl)) pa_nil))))) (pss_one (ps_ret pe_bl)) pss_nil)))
  (pss_one (ps_ret pe_bl)))))))))))
theorem ok_l_side (T : Txt K mg a) : FnOk P w K mg base CX0 7 a.l_side a.l_side_d ["_law_size", "_law_purse"] (sp_side K a.c) := by
  refine T.l_side.fn.ok sc_l_side (fun vs H Q E h => ?_) (fun cdv A outer s H vs Q E hr h => ⟨t_l_side K a.c, ?_, pure_side  h⟩)
  · repeat' (first | (obtain ⟨e, _⟩ := h; (first | (subst e; rfl) | (rw [e]; rfl))) | (obtain ⟨_, h⟩ := h))
  · exact (pss_cons (ps_set (i := 2) sc_l_side.nd rfl (Or.inl rfl) (pe_op op_mul (pe_ix ix_tup (pv 0) pe_int (fun _ _ => rfl)) (pe_ix ix_tup (pv 0) pe_int (fun _ _ => rfl))))
  (pss_one (ps_ret (pe_lst (pa_cons (pe_call (ok_l_made T) (hr.mono (by decide)) (by rfl) T.l_made.gl T.l_made.fn.kp T.l_made.bd .nil pass0 (pa_cons (pv 0) (pa_cons (pv 1) pa_nil))) (pa_cons (pe_op op_rep (pe_lst (pa_cons (pe_ix ix_tup (pv 0) pe_int (fun _ _ => rfl)) pa_nil)) (pv 2)) (pa_cons (pe_op op_rep (pe_lst (pa_cons pe_int pa_nil)) (pv 2)) (pa_cons (pe_lst pa_nil) (pa_cons pe_int (pa_cons (pv 1) pa_nil))))))))))
theorem ok_l_told (T : Txt K mg a) : FnT P w K mg base 8 a.l_told a.l_told_d ["_law_error"] (sp_told K a.c) := by
  refine Fun_okT T.l_told.fn sc_l_told (fun x1 vs H Q E h => ?_) (fun cdv A outer s H vs Q E x1 hh hr h => ⟨t_l_told K a.c x1, ?_, pure_told  h⟩)
  · repeat' (first | (obtain ⟨e, _⟩ := h; (first | (subst e; rfl) | (rw [e]; rfl))) | (obtain ⟨_, h⟩ := h))
  · exact (pss_cons (ps_set (i := 1) sc_l_told.nd rfl (Or.inl rfl) (pe_lst (pa_cons (pe_callB call_isX (by rfl) T.b_isinstance (by decide +kernel) (pa_cons (pv 0) (pa_cons (pe_glob (by rfl) T.k_BadValue rfl) pa_nil))) (pa_cons (pe_callB call_isX (by rfl) T.b_isinstance (by decide +kernel) (pa_cons (pv 0) (pa_cons (pe_glob (by rfl) T.k_Broken rfl) pa_nil))) (pa_cons (pe_callB call_isX (by rfl) T.b_isinstance (by decide +kernel) (pa_cons (pv 0) (pa_cons (pe_glob (by rfl) T.k_Unknown rfl) pa_nil))) pa_nil)))))
  (pss_cons (ps_set (i := 1) sc_l_told.nd rfl (Or.inl rfl) (pe_op op_cat (pv 1) (pe_lst (pa_cons (pe_callB call_isX (by rfl) T.b_isinstance (by decide +kernel) (pa_cons (pv 0) (pa_cons (pe_glob (by rfl) T.k_NotHeld rfl) pa_nil))) (pa_cons (pe_callB call_isX (by rfl) T.b_isinstance (by decide +kernel) (pa_cons (pv 0) (pa_cons (pe_glob (by rfl) T.k_NoRoom rfl) pa_nil))) (pa_cons (pe_callB call_isX (by rfl) T.b_isinstance (by decide +kernel) (pa_cons (pv 0) (pa_cons (pe_glob (by rfl) T.k_Cut rfl) pa_nil))) pa_nil))))))
  (pss_cons (ps_set (i := 1) sc_l_told.nd rfl (Or.inl rfl) (pe_op op_cat (pv 1) (pe_lst (pa_cons (pe_callB call_isX (by rfl) T.b_isinstance (by decide +kernel) (pa_cons (pv 0) (pa_cons (pe_glob (by rfl) T.k_Fault rfl) pa_nil))) (pa_cons (pe_callB call_isX (by rfl) T.b_isinstance (by decide +kernel) (pa_cons (pv 0) (pa_cons (pe_glob (by rfl) T.k_BadLine rfl) pa_nil))) pa_nil)))))
  (pss_cons (ps_if (PW.pt (pw_or (pt_not (pt_val (pe_callB call_isX (by rfl) T.b_isinstance (by decide +kernel) (pa_cons (pv 0) (pa_cons (pe_bltn (by rfl) T.b_ValueError (by decide +kernel) rfl) pa_nil))))) (pw_or1 (pt_cmpR op_ne (pe_bm PySem.F.plainAttrs_list PySem.F.slot_list_count PySem.F.type_list_count mt_countF (pv 1) (pa_cons pe_bl pa_nil)) pe_int (nomark _))))) (pss_one (ps_ret (pe_tup (pa_cons pe_str pa_nil)))) pss_nil)
  (pss_cons (ps_set (i := 2) sc_l_told.nd rfl (Or.inl rfl) (pe_tup pa_nil))
  (pss_cons (ps_if (PW.pt (pw_or (pt_val (pe_ix ix_list (pv 1) pe_int (fun _ _ => rfl))) (pw_or1 (pt_val (pe_ix ix_list (pv 1) pe_int (fun _ _ => rfl)))))) (pss_one (ps_set (i := 2) sc_l_told.nd rfl (Or.inl rfl) (pe_tup (pa_cons (pe_xt (pv 0)) pa_nil)))) pss_nil)
  (pss_cons (ps_if (pt_val (pe_ix ix_list (pv 1) pe_int (fun _ _ => rfl))) (pss_one (ps_set (i := 2) sc_l_told.nd rfl (Or.inl rfl) (pe_tup (pa_cons (pe_xt (pv 0)) (pa_cons (pe_xt (pv 0)) (pa_cons (pe_xt (pv 0)) pa_nil)))))) pss_nil)
  (pss_cons (ps_if (pt_val (pe_ix ix_list (pv 1) pe_int (fun _ _ => rfl))) (pss_one (ps_set (i := 2) sc_l_told.nd rfl (Or.inl rfl) (pe_tup (pa_cons (pe_xt (pv 0)) (pa_cons (pe_xt (pv 0)) pa_nil))))) pss_nil)
  (pss_cons (ps_if (pt_val (pe_ix ix_list (pv 1) pe_int (fun _ _ => rfl))) (pss_one (ps_set (i := 2) sc_l_told.nd rfl (Or.inl rfl) (pe_tup (pa_cons (pe_xt (pv 0)) pa_nil)))) pss_nil)
  (pss_cons (ps_if (pt_val (pe_ix ix_list (pv 1) pe_int (fun _ _ => rfl))) (pss_one (ps_set (i := 2) sc_l_told.nd rfl (Or.inl rfl) (pe_tup (pa_cons (pe_xt (pv 0)) (pa_cons (pe_xt (pv 0)) pa_nil))))) pss_nil)
  (pss_cons (ps_set (i := 3) sc_l_told.nd rfl (Or.inl rfl) (pe_ix ix_list (pe_lst (pa_cons pe_str (pa_cons pe_str (pa_cons pe_str (pa_cons pe_str (pa_cons pe_str (pa_cons pe_str (pa_cons pe_str (pa_cons pe_str pa_nil))))))))) (pe_bm PySem.F.plainAttrs_list PySem.F.slot_list_index PySem.F.type_list_index mt_index (pv 1) (pa_cons pe_bl pa_nil)) (fun _ _ => rfl)))
  (pss_cons (ps_if (PW.pt (pw_or (pt_cmpR op_eq (pe_callB call_len (by rfl) T.b_len (by decide +kernel) (pa_cons (pv 2) pa_nil)) pe_int (nomark _)) (pw_or1 (pt_not (pt_val (pe_callHT (ok_l_sameH T 6) (hr.mono (by decide)) hh (by rfl) T.l_same.gl T.l_same.fn.kp T.l_same.bd (pa_cons (pe_xt (pv 0)) (pa_cons (pe_tup (pa_cons (pv 3) (pa_cons (pv 2) pa_nil))) pa_nil)))))))) (pss_one (ps_ret (pe_tup (pa_cons pe_str pa_nil)))) pss_nil)
  (pss_one (ps_ret (pe_tup (pa_cons pe_str (pa_cons (pv 3) (pa_cons (pv 2) pa_nil))))))))))))))))))
theorem ok_l_is_image_of (T : Txt K mg a) : FnOk P w K mg base CX0 8 a.l_is_image_of a.l_is_image_of_d ["_law_actual", "_law_page_width", "_law_blank_here", "_law_words", "_law_holders_here"] (sp_is_image_of K) := by
  refine T.l_is_image_of.fn.ok sc_l_is_image_of (fun vs H Q E h => ?_) (fun cdv A outer s H vs Q E hr h => ⟨t_l_is_image_of K, ?_, pure_is_image_of  h⟩)
  · repeat' (first | (obtain ⟨e, _⟩ := h; (first | (subst e; rfl) | (rw [e]; rfl))) | (obtain ⟨_, h⟩ := h))
  · exact (pss_cons (ps_if (PW.pt (pw_or (pt_not (pt_val (pe_callB call_isi (by rfl) T.b_isinstance (by decide +kernel) (pa_cons (pv 0) (pa_cons (pe_bltn (by rfl) T.b_tuple (by decide +kernel) rfl) pa_nil))))) (pw_or1 (pt_cmpR op_ne (pe_callB call_len (by rfl) T.b_len (by decide +kernel) (pa_cons (pv 0) pa_nil)) pe_int (nomark _))))) (pss_one (ps_ret pe_bl)) pss_nil)
  (pss_cons (ps_if (pt_not (pt_val (pe_call (ok_l_same T 6) (hr.mono (by decide)) (by rfl) T.l_same.gl T.l_same.fn.kp T.l_same.bd .nil pass0 (pa_cons (pe_slice sl_tup (pv 0) po_none (po_some pe_int)) (pa_cons (pe_tup (pa_cons (pv 1) (pa_cons (pv 2) pa_nil))) pa_nil))))) (pss_one (ps_ret pe_bl)) pss_nil)
  (pss_cons (ps_for PassesOwn.never rfl (pi_tup (pe_slice sl_tup (pv 0) (po_some pe_int) po_none)) (pg_name (i := 5) sc_l_is_image_of.nd rfl (Or.inl rfl)) (pss_one (ps_if (PW.pt (pw_or (pt_not (pt_val (pe_callB call_isi (by rfl) T.b_isinstance (by decide +kernel) (pa_cons (pv 5) (pa_cons (pe_bltn (by rfl) T.b_tuple (by decide +kernel) rfl) pa_nil))))) (pw_or1 (pt_cmpR op_gt (pe_callB call_len (by rfl) T.b_len (by decide +kernel) (pa_cons (pe_lc (own := [("_law_one", 6)]) (g := (gName 6)) (tt := (tNot (tB (tCall (sp_is_int K) [] E0 (tCons (tVar 6) tNil))))) (by rfl) sc_l_is_image_of.nd (pi_tup (pv 5)) (blkOk_by (own := [("_law_one", 6)]) (N := N_l_is_image_of) (sc := defScope s_l_is_image_of) (by decide +kernel)) (fun _ _ _ _ _ => pg_name (i := 6) sc_l_is_image_of.nd rfl (Or.inl rfl)) (fun _ _ _ _ _ => (pts_one (pt_not (pt_val (pe_call (ok_l_is_int T) (hr.mono (by decide)) (by rfl) T.l_is_int.gl T.l_is_int.fn.kp T.l_is_int.bd .nil pass0 (pa_cons (pv 6) pa_nil)))))) (fun _ _ _ _ _ => (pv 6))) pa_nil)) pe_int (nomark _))))) (pss_one (ps_ret pe_bl)) pss_nil)))
  (pss_one (ps_ret (pe_and (pe_cmpR (op_eqD hr.units) (pe_ix ix_tup (pv 0) pe_int (fun _ _ => rfl)) (pe_callTy call_tuple_of (by rfl) T.b_tuple (by decide +kernel) (pa_cons (pv 3) pa_nil)) (nomark _)) (pe_one (pe_cmpR (op_eqD hr.units) (pe_ix ix_tup (pv 0) pe_int (fun _ _ => rfl)) (pe_callTy call_tuple_of (by rfl) T.b_tuple (by decide +kernel) (pa_cons (pv 4) pa_nil)) (nomark _)))))))))
theorem ok_l_stands (T : Txt K mg a) : FnOk P w K mg base CX0 8 a.l_stands a.l_stands_d ["_law_side_here"] (sp_stands13 K a.c) := by
  refine T.l_stands.fn.ok sc_l_stands (fun vs H Q E h => ?_) (fun cdv A outer s H vs Q E hr h => ⟨t_l_stands K a.c, ?_, pure_stands13  h⟩)
  · repeat' (first | (obtain ⟨e, _⟩ := h; (first | (subst e; rfl) | (rw [e]; rfl))) | (obtain ⟨_, h⟩ := h))
  · exact (pss_cons (ps_set (i := 1) sc_l_stands.nd rfl (Or.inl rfl) (pe_ix ix_list (pv 0) pe_int (fun _ _ => rfl)))
  (pss_one (ps_ret (pe_call (ok_l_same T 6) (hr.mono (by decide)) (by rfl) T.l_same.gl T.l_same.fn.kp T.l_same.bd .nil pass0 (pa_cons (pe_lst (pa_cons (pe_prop (pv 1) T.cl_Ground T.pr_c_Ground_spent (ok_c_Ground_spent T) (hr.mono (by decide)) T.c_Ground_spent.bd .nil pass0 rfl) (pa_cons (pe_prop (pv 1) T.cl_Ground T.pr_c_Ground_depth (ok_c_Ground_depth T) (hr.mono (by decide)) T.c_Ground_depth.bd .nil pass0 rfl) (pa_cons (pe_prop (pv 1) T.cl_Ground T.pr_c_Ground_budget (ok_c_Ground_budget T) (hr.mono (by decide)) T.c_Ground_budget.bd .nil pass0 rfl) pa_nil)))) (pa_cons (pe_lst (pa_cons (pe_ix ix_list (pv 0) pe_int (fun _ _ => rfl)) (pa_cons (pe_callB call_len (by rfl) T.b_len (by decide +kernel) (pa_cons (pe_ix ix_list (pv 0) pe_int (fun _ _ => rfl)) pa_nil)) (pa_cons (pe_ix ix_list (pv 0) pe_int (fun _ _ => rfl)) pa_nil)))) pa_nil))))))
theorem ok_l_played (T : Txt K mg a) : FnOk P w K mg base CX0 9 a.l_played a.l_played_d ["_law_ground", "_law_step_here"] (sp_played13 K a.c) := by
  refine T.l_played.fn.ok sc_l_played (fun vs H Q E h => ?_) (fun cdv A outer s H vs Q E hr h => ⟨t_l_played K a.c, ?_, pure_played13  h⟩)
  · repeat' (first | (obtain ⟨e, _⟩ := h; (first | (subst e; rfl) | (rw [e]; rfl))) | (obtain ⟨_, h⟩ := h))
  · exact (pss_one (ps_try_asD (i := 2) (tb := fun W => (tSeq (tIfS (tTest (tOp rEq (tOp (rIxT K) (tVar 1) (tC (.int 0))) (tC (.str "begin")))) (tRet (tTup (tCons (tC (.str "done")) (tCons (tMeth a.c.k_Ground "begin" (sp_begin K a.c) [] E0 (tVar 0) tNil) tNil)))) tNext)
  (tSeq (tIfS (tTest (tOp rEq (tOp (rIxT K) (tVar 1) (tC (.int 0))) (tC (.str "commit")))) (tRet (tTup (tCons (tC (.str "done")) (tCons (tMthS a.c.k_Ground "commit" (sp_commit K a.c) (WE W) (tVar 0) tNil) tNil)))) tNext)
  (tSeq (tIfS (tTest (tOp rEq (tOp (rIxT K) (tVar 1) (tC (.int 0))) (tC (.str "cancel")))) (tRet (tTup (tCons (tC (.str "done")) (tCons (tMthS a.c.k_Ground "cancel" (sp_cancel K a.c) (WE W) (tVar 0) tNil) tNil)))) tNext)
  (tSeq (tIfS (tTest (tOp rEq (tOp (rIxT K) (tVar 1) (tC (.int 0))) (tC (.str "write")))) (tRet (tTup (tCons (tC (.str "done")) (tCons (tMthS a.c.k_Ground "write" (sp_write K a.c) (WE W) (tVar 0) (tCons (tOp (rIxT K) (tVar 1) (tC (.int 1))) (tCons (tOp (rIxT K) (tVar 1) (tC (.int 2))) (tCons (tOp (rIxT K) (tVar 1) (tC (.int 3))) tNil)))) tNil)))) tNext)
  (tSeq (tIfS (tTest (tOp rEq (tOp (rIxT K) (tVar 1) (tC (.int 0))) (tC (.str "poke")))) (tRet (tTup (tCons (tC (.str "done")) (tCons (tMthS a.c.k_Ground "poke" (sp_poke K a.c) (WE W) (tVar 0) (tCons (tOp (rIxT K) (tVar 1) (tC (.int 1))) (tCons (tOp (rIxT K) (tVar 1) (tC (.int 2))) tNil))) tNil)))) tNext)
  (tRet (tTup (tCons (tC (.str "done")) (tCons (tMthS a.c.k_Ground "pass_on" (sp_pass_on K a.c) (WE W) (tVar 0) (tCons (tOp (rIxT K) (tVar 1) (tC (.int 1))) (tCons (tOp (rIxT K) (tVar 1) (tC (.int 2))) (tCons (tOp (rIxT K) (tVar 1) (tC (.int 3))) (tCons (tOp (rIxT K) (tVar 1) (tC (.int 4))) tNil))))) tNil)))))))))) (ts := fun xa => (tRet (tCall ((sp_told K a.c) xa) [] E0 (tCons (tVar 2) tNil)))) (Wout := (fun _ _ _ _ => False)) rfl rfl rfl sc_l_played.nd rfl rfl ⟨rfl, by decide, Or.inl T.k_StoreError⟩ takes0N
  (fun W pn xe tk _ => (pss_cons (ps_if (pt_cmpR op_eq (pe_ix ix_tup (pv 1) pe_int (fun _ _ => rfl)) pe_str (nomark _)) (pss_one (ps_ret (pe_tup (pa_cons pe_str (pa_cons (pe_meth0 (pv 0) T.cl_Ground T.mt_c_Ground_begin (ok_c_Ground_begin T) (hr.mono (by decide)) T.c_Ground_begin.bd .nil pass0) pa_nil))))) pss_nil)
  (pss_cons (ps_if (pt_cmpR op_eq (pe_ix ix_tup (pv 1) pe_int (fun _ _ => rfl)) pe_str (nomark _)) (pss_one (ps_ret (pe_tup (pa_cons pe_str (pa_cons (pe_mthS0 (pv 0) T.cl_Ground T.mt_c_Ground_commit (ok_c_Ground_commit T) (hr.mono (by decide)) T.c_Ground_commit.bd (fun σ => L2N.passAt tk σ)) pa_nil))))) pss_nil)
  (pss_cons (ps_if (pt_cmpR op_eq (pe_ix ix_tup (pv 1) pe_int (fun _ _ => rfl)) pe_str (nomark _)) (pss_one (ps_ret (pe_tup (pa_cons pe_str (pa_cons (pe_mthS0 (pv 0) T.cl_Ground T.mt_c_Ground_cancel (ok_c_Ground_cancel T) (hr.mono (by decide)) T.c_Ground_cancel.bd (fun σ => L2N.passAt tk σ)) pa_nil))))) pss_nil)
  (pss_cons (ps_if (pt_cmpR op_eq (pe_ix ix_tup (pv 1) pe_int (fun _ _ => rfl)) pe_str (nomark _)) (pss_one (ps_ret (pe_tup (pa_cons pe_str (pa_cons (pe_mthS (pv 0) T.cl_Ground T.mt_c_Ground_write (ok_c_Ground_write T) (hr.mono (by decide)) T.c_Ground_write.bd (fun σ => L2N.passAt tk σ) (pa_cons (pe_ix ix_tup (pv 1) pe_int (fun _ _ => rfl)) (pa_cons (pe_ix ix_tup (pv 1) pe_int (fun _ _ => rfl)) (pa_cons (pe_ix ix_tup (pv 1) pe_int (fun _ _ => rfl)) pa_nil)))) pa_nil))))) pss_nil)
  (pss_cons (ps_if (pt_cmpR op_eq (pe_ix ix_tup (pv 1) pe_int (fun _ _ => rfl)) pe_str (nomark _)) (pss_one (ps_ret (pe_tup (pa_cons pe_str (pa_cons (pe_mthS (pv 0) T.cl_Ground T.mt_c_Ground_poke (ok_c_Ground_poke T) (hr.mono (by decide)) T.c_Ground_poke.bd (fun σ => L2N.passAt tk σ) (pa_cons (pe_ix ix_tup (pv 1) pe_int (fun _ _ => rfl)) (pa_cons (pe_ix ix_tup (pv 1) pe_int (fun _ _ => rfl)) pa_nil))) pa_nil))))) pss_nil)
  (pss_one (ps_ret (pe_tup (pa_cons pe_str (pa_cons (pe_mthS (pv 0) T.cl_Ground T.mt_c_Ground_pass_on (ok_c_Ground_pass_on T) (hr.mono (by decide)) T.c_Ground_pass_on.bd (fun σ => L2N.passAt tk σ) (pa_cons (pe_ix ix_tup (pv 1) pe_int (fun _ _ => rfl)) (pa_cons (pe_ix ix_tup (pv 1) pe_int (fun _ _ => rfl)) (pa_cons (pe_ix ix_tup (pv 1) pe_int (fun _ _ => rfl)) (pa_cons (pe_ix ix_tup (pv 1) pe_int (fun _ _ => rfl)) pa_nil))))) pa_nil)))))))))))
  (fun xa _ => (pss_one (ps_ret (pe_callT (ok_l_told T) (roomH_suite (hr.mono (by decide))) rfl (by rfl) T.l_told.gl T.l_told.fn.kp T.l_told.bd (pa_cons (pv 2) pa_nil)))))))
theorem ok_l_image_stands (T : Txt K mg a) : FnOk P w K mg base CX0 9 a.l_image_stands a.l_image_stands_d ["_law_side_here", "_law_size"] (sp_image_stands K a.c) := by
  refine T.l_image_stands.fn.ok sc_l_image_stands (fun vs H Q E h => ?_) (fun cdv A outer s H vs Q E hr h => ⟨t_l_image_stands K a.c, ?_, pure_image_stands  h⟩)
  · repeat' (first | (obtain ⟨e, _⟩ := h; (first | (subst e; rfl) | (rw [e]; rfl))) | (obtain ⟨_, h⟩ := h))
  · exact (pss_one (ps_ret (pe_call (ok_l_is_image_of T) (hr.mono (by decide)) (by rfl) T.l_is_image_of.gl T.l_is_image_of.fn.kp T.l_is_image_of.bd .nil pass0 (pa_cons (pe_meth0 (pe_ix ix_list (pv 0) pe_int (fun _ _ => rfl)) T.cl_Ground T.mt_c_Ground_image (ok_c_Ground_image T) (hr.mono (by decide)) T.c_Ground_image.bd .nil pass0) (pa_cons (pe_ix ix_tup (pv 1) pe_int (fun _ _ => rfl)) (pa_cons (pe_ix ix_tup (pv 1) pe_int (fun _ _ => rfl)) (pa_cons (pe_ix ix_list (pv 0) pe_int (fun _ _ => rfl)) (pa_cons (pe_ix ix_list (pv 0) pe_int (fun _ _ => rfl)) pa_nil))))))))
theorem ok_l_kept (T : Txt K mg a) : FnOk P w K mg base CX0 10 a.l_kept a.l_kept_d ["_law_side_here", "_law_size", "_law_step_here"] (sp_kept14 K a.c) := by
  refine T.l_kept.fn.ok sc_l_kept (fun vs H Q E h => ?_) (fun cdv A outer s H vs Q E hr h => ⟨t_l_kept K a.c, ?_, pure_kept14  h⟩)
  · repeat' (first | (obtain ⟨e, _⟩ := h; (first | (subst e; rfl) | (rw [e]; rfl))) | (obtain ⟨_, h⟩ := h))
  · exact (pss_cons (ps_set (i := 3) sc_l_kept.nd rfl (Or.inl rfl) (pe_call (ok_l_played T) (hr.mono (by decide)) (by rfl) T.l_played.gl T.l_played.fn.kp T.l_played.bd .nil pass0 (pa_cons (pe_ix ix_list (pv 0) pe_int (fun _ _ => rfl)) (pa_cons (pv 2) pa_nil))))
  (pss_cons (ps_set (i := 4) sc_l_kept.nd rfl (Or.inl rfl) (pe_call (ok_l_step_due T) (hr.mono (by decide)) (by rfl) T.l_step_due.gl T.l_step_due.fn.kp T.l_step_due.bd .nil pass0 (pa_cons (pv 0) (pa_cons (pe_ix ix_tup (pv 1) pe_int (fun _ _ => rfl)) (pa_cons (pv 2) pa_nil)))))
  (pss_cons (ps_if (PW.pt (pw_or (pt_not (pt_val (pe_call (ok_l_same T 6) (hr.mono (by decide)) (by rfl) T.l_same.gl T.l_same.fn.kp T.l_same.bd .nil pass0 (pa_cons (pv 3) (pa_cons (pv 4) pa_nil))))) (pw_or1 (pt_not (pt_val (pe_call (ok_l_stands T) (hr.mono (by decide)) (by rfl) T.l_stands.gl T.l_stands.fn.kp T.l_stands.bd .nil pass0 (pa_cons (pv 0) pa_nil))))))) (pss_one (ps_ret pe_bl)) pss_nil)
  (pss_cons (ps_if (PW.pt (pw_and (pt_cmpR op_eq (pe_ix ix_tup (pv 4) pe_int (fun _ _ => rfl)) pe_str (nomark _)) (pw_and1 (pt_cmpR op_gt (pe_callB call_len (by rfl) T.b_len (by decide +kernel) (pa_cons (pe_ix ix_list (pv 0) pe_int (fun _ _ => rfl)) pa_nil)) pe_int (nomark _))))) (pss_one (ps_ret pe_bl)) pss_nil)
  (pss_one (ps_ret (pe_call (ok_l_image_stands T) (hr.mono (by decide)) (by rfl) T.l_image_stands.gl T.l_image_stands.fn.kp T.l_image_stands.bd .nil pass0 (pa_cons (pv 0) (pa_cons (pv 1) pa_nil)))))))))
theorem ok_l_law (T : Txt K mg a) : FnOk P w K mg base CX0 11 a.l_law a.l_law_d ["_law_script"] (sp_law14 K a.c) := by
  refine T.l_law.fn.ok sc_l_law (fun vs H Q E h => ?_) (fun cdv A outer s H vs Q E hr h => ⟨t_l_law K a.c, ?_, pure_law14  h⟩)
  · repeat' (first | (obtain ⟨e, _⟩ := h; (first | (subst e; rfl) | (rw [e]; rfl))) | (obtain ⟨_, h⟩ := h))
  · exact (pss_cons (ps_set (i := 1) sc_l_law.nd rfl (Or.inl rfl) (pe_call (ok_l_draws T) (hr.mono (by decide)) (by rfl) T.l_draws.gl T.l_draws.fn.kp T.l_draws.bd .nil pass0 (pa_cons (pv 0) pa_nil)))
  (pss_cons (ps_set (i := 2) sc_l_law.nd rfl (Or.inl rfl) (pe_call (ok_l_ground_args T) (hr.mono (by decide)) (by rfl) T.l_ground_args.gl T.l_ground_args.fn.kp T.l_ground_args.bd .nil pass0 (pa_cons (pv 1) pa_nil)))
  (pss_cons (ps_set (i := 3) sc_l_law.nd rfl (Or.inl rfl) (pe_lst pa_nil))
  (pss_cons (ps_for PassesOwn.never rfl (pi_range1 (by rfl) T.b_range (pa_cons pe_int pa_nil)) (pg_name (i := 4) sc_l_law.nd rfl (Or.inl rfl)) (pss_cons (ps_set (i := 5) sc_l_law.nd rfl (Or.inl rfl) (pe_ix ix_list (pe_lst (pa_cons pe_int (pa_cons pe_int (pa_cons (pe_call (ok_l_take T) (hr.mono (by decide)) (by rfl) T.l_take.gl T.l_take.fn.kp T.l_take.bd .nil pass0 (pa_cons (pv 1) (pa_cons pe_int pa_nil))) (pa_cons (pe_call (ok_l_take T) (hr.mono (by decide)) (by rfl) T.l_take.gl T.l_take.fn.kp T.l_take.bd .nil pass0 (pa_cons (pv 1) (pa_cons pe_int pa_nil))) (pa_cons (pe_op op_pow pe_int pe_int) (pa_cons pe_non pa_nil))))))) (pe_call (ok_l_take T) (hr.mono (by decide)) (by rfl) T.l_take.gl T.l_take.fn.kp T.l_take.bd .nil pass0 (pa_cons (pv 1) (pa_cons pe_int pa_nil))) (fun _ _ => rfl)))
  (pss_one (ps_expr (pe_bm PySem.F.plainAttrs_list PySem.F.slot_list_append PySem.F.type_list_append mt_append (pv 3) (pa_cons (pe_call (ok_l_side T) (hr.mono (by decide)) (by rfl) T.l_side.gl T.l_side.fn.kp T.l_side.bd .nil pass0 (pa_cons (pv 2) (pa_cons (pv 5) pa_nil))) pa_nil))))))
  (pss_cons (ps_set (i := 6) sc_l_law.nd rfl (Or.inl rfl) (pe_op op_add pe_int (pe_call (ok_l_count T) (hr.mono (by decide)) (by rfl) T.l_count.gl T.l_count.fn.kp T.l_count.bd .nil pass0 (pa_cons (pv 1) (pa_cons pe_int (pa_cons pe_int pa_nil))))))
  (pss_cons (ps_if (pt_cmpR op_gt (pe_ix ix_tup (pv 2) pe_int (fun _ _ => rfl)) pe_int (nomark _)) (pss_one (ps_set (i := 6) sc_l_law.nd rfl (Or.inl rfl) (pe_callB (call_min2 rfl) (by rfl) T.b_min (by decide +kernel) (pa_cons (pv 6) (pa_cons pe_int pa_nil))))) pss_nil)
  (pss_cons (ps_for PassesOwn.never rfl (pi_range1 (by rfl) T.b_range (pa_cons (pv 6) pa_nil)) (pg_name (i := 4) sc_l_law.nd rfl (Or.inl rfl)) (pss_cons (ps_set (i := 7) sc_l_law.nd rfl (Or.inl rfl) (pe_ix ix_list (pv 3) (pe_ix ix_list (pe_lst (pa_cons pe_int (pa_cons pe_int (pa_cons pe_int pa_nil)))) (pe_call (ok_l_take T) (hr.mono (by decide)) (by rfl) T.l_take.gl T.l_take.fn.kp T.l_take.bd .nil pass0 (pa_cons (pv 1) (pa_cons pe_int pa_nil))) (fun _ _ => rfl)) (fun _ _ => rfl)))
  (pss_cons (ps_set (i := 8) sc_l_law.nd rfl (Or.inl rfl) (pe_call (ok_l_step T) (hr.mono (by decide)) (by rfl) T.l_step.gl T.l_step.fn.kp T.l_step.bd .nil pass0 (pa_cons (pv 1) (pa_cons (pv 7) (pa_cons (pe_ix ix_tup (pv 2) pe_int (fun _ _ => rfl)) pa_nil)))))
  (pss_cons (ps_if (PW.pt (pw_and (pt_cmpR op_eq (pe_callB call_len (by rfl) T.b_len (by decide +kernel) (pa_cons (pe_ix ix_list (pv 7) pe_int (fun _ _ => rfl)) pa_nil)) pe_int (nomark _)) (pw_and1 (pt_cmpR op_gt (pe_call (ok_l_take T) (hr.mono (by decide)) (by rfl) T.l_take.gl T.l_take.fn.kp T.l_take.bd .nil pass0 (pa_cons (pv 1) (pa_cons pe_int pa_nil))) pe_int (nomark _))))) (pss_one (ps_set (i := 8) sc_l_law.nd rfl (Or.inl rfl) (pe_call (ok_l_near_step T) (hr.mono (by decide)) (by rfl) T.l_near_step.gl T.l_near_step.fn.kp T.l_near_step.bd .nil pass0 (pa_cons (pv 1) (pa_cons (pv 7) pa_nil))))) pss_nil)
  (pss_one (ps_if (pt_not (pt_val (pe_call (ok_l_kept T) (hr.mono (by decide)) (by rfl) T.l_kept.gl T.l_kept.fn.kp T.l_kept.bd .nil pass0 (pa_cons (pv 7) (pa_cons (pv 2) (pa_cons (pv 8) pa_nil)))))) (pss_one (ps_ret pe_bl)) pss_nil))))))
  (pss_cons (ps_for PassesOwn.never rfl (pi_list (pv 3)) (pg_name (i := 7) sc_l_law.nd rfl (Or.inl rfl)) (pss_cons (ps_for PassesOwn.never rfl (pi_range1 (by rfl) T.b_range (pa_cons (pe_op op_add (pe_callB call_len (by rfl) T.b_len (by decide +kernel) (pa_cons (pe_ix ix_list (pv 7) pe_int (fun _ _ => rfl)) pa_nil)) pe_int) pa_nil)) (pg_name (i := 4) sc_l_law.nd rfl (Or.inl rfl)) (pss_one (ps_if (pt_not (pt_val (pe_call (ok_l_kept T) (hr.mono (by decide)) (by rfl) T.l_kept.gl T.l_kept.fn.kp T.l_kept.bd .nil pass0 (pa_cons (pv 7) (pa_cons (pv 2) (pa_cons (pe_tup (pa_cons pe_str pa_nil)) pa_nil)))))) (pss_one (ps_ret pe_bl)) pss_nil)))
  (pss_one (ps_if (pt_not (pt_val (pe_call (ok_l_kept T) (hr.mono (by decide)) (by rfl) T.l_kept.gl T.l_kept.fn.kp T.l_kept.bd .nil pass0 (pa_cons (pv 7) (pa_cons (pv 2) (pa_cons (pe_tup (pa_cons pe_str (pa_cons pe_int (pa_cons (pe_call (ok_l_other_word T) (hr.mono (by decide)) (by rfl) T.l_other_word.gl T.l_other_word.fn.kp T.l_other_word.bd .nil pass0 (pa_cons (pv 1) (pa_cons (pe_ix ix_list (pe_ix ix_list (pv 7) pe_int (fun _ _ => rfl)) pe_int (fun _ _ => rfl)) pa_nil))) pa_nil)))) pa_nil)))))) (pss_one (ps_ret pe_bl)) pss_nil))))
  (pss_one (ps_ret (pe_and (pe_call (ok_l_image_stands T) (hr.mono (by decide)) (by rfl) T.l_image_stands.gl T.l_image_stands.fn.kp T.l_image_stands.bd .nil pass0 (pa_cons (pe_ix ix_list (pv 3) pe_int (fun _ _ => rfl)) (pa_cons (pv 2) pa_nil))) (pe_one (pe_call (ok_l_image_stands T) (hr.mono (by decide)) (by rfl) T.l_image_stands.gl T.l_image_stands.fn.kp T.l_image_stands.bd .nil pass0 (pa_cons (pe_ix ix_list (pv 3) pe_int (fun _ _ => rfl)) (pa_cons (pv 2) pa_nil)))))))))))))))
end
/-- the facts of the top, gathered -/
theorem all_mk {P : Program} {w : World} {K : PySem.W.Frag} {h : Heap} {mg : Str → Option Value} {fa : Addr} (X : K.In h) (G : h.Ns mainGlobals mg) (hfa : mg "law" = some (.ref fa))
    {C_StoreError C_BadValue C_Broken C_Unknown C_NotHeld C_Fault C_NoRoom C_Cut C_BadLine C_Ground f_c_BadValue_init f_c_Broken_init f_c_Unknown_init f_c_NotHeld_init f_c_Cut_init f_p_is_whole f_p_whole_between f_p_is_holder f_p_is_between f_p_is_width f_p_is_budget f_c_Ground_init f_c_Ground_spent p_c_Ground_spent f_c_Ground_depth p_c_Ground_depth f_c_Ground_budget p_c_Ground_budget f_c_Ground_check_place f_c_Ground_check_guard f_c_Ground_write f_c_Ground_poke f_c_Ground_pass_on f_c_Ground_check_fill f_c_Ground_image f_c_Ground_begin f_c_Ground_commit f_c_Ground_cancel f_c_Ground_cost_since f_c_Ground_change_cell f_l_draws f_l_next_cell f_l_mixed f_l_take f_l_among f_l_between f_l_number f_l_count f_l_alignment f_l_is_int f_l_same f_l_holders f_l_holder f_l_word f_l_other_word f_l_blank f_l_ground_args f_l_ground_deed f_l_deed_due f_l_deed_made f_l_told f_l_is_image_of f_l_made f_l_side f_l_differing f_l_step f_l_played f_l_charged f_l_step_due f_l_stands f_l_image_stands f_l_near_step f_l_kept f_l_law D_Ground X_WIDTHS : Addr}
    {oc_c_BadValue_init kV_c_BadValue_init dc_c_BadValue_init pm_c_BadValue_init cd_c_BadValue_init ct_c_BadValue_init oc_c_Broken_init kV_c_Broken_init dc_c_Broken_init pm_c_Broken_init cd_c_Broken_init ct_c_Broken_init oc_c_Unknown_init kV_c_Unknown_init dc_c_Unknown_init pm_c_Unknown_init cd_c_Unknown_init ct_c_Unknown_init oc_c_NotHeld_init kV_c_NotHeld_init dc_c_NotHeld_init pm_c_NotHeld_init cd_c_NotHeld_init ct_c_NotHeld_init oc_c_Cut_init kV_c_Cut_init dc_c_Cut_init pm_c_Cut_init cd_c_Cut_init ct_c_Cut_init oc_p_is_whole kV_p_is_whole dc_p_is_whole pm_p_is_whole cd_p_is_whole ct_p_is_whole oc_p_whole_between kV_p_whole_between dc_p_whole_between pm_p_whole_between cd_p_whole_between ct_p_whole_between oc_p_is_holder kV_p_is_holder dc_p_is_holder pm_p_is_holder cd_p_is_holder ct_p_is_holder oc_p_is_between kV_p_is_between dc_p_is_between pm_p_is_between cd_p_is_between ct_p_is_between oc_p_is_width kV_p_is_width dc_p_is_width pm_p_is_width cd_p_is_width ct_p_is_width oc_p_is_budget kV_p_is_budget dc_p_is_budget pm_p_is_budget cd_p_is_budget ct_p_is_budget oc_c_Ground_init kV_c_Ground_init dc_c_Ground_init pm_c_Ground_init cd_c_Ground_init ct_c_Ground_init oc_c_Ground_spent kV_c_Ground_spent dc_c_Ground_spent pm_c_Ground_spent cd_c_Ground_spent ct_c_Ground_spent oc_c_Ground_depth kV_c_Ground_depth dc_c_Ground_depth pm_c_Ground_depth cd_c_Ground_depth ct_c_Ground_depth oc_c_Ground_budget kV_c_Ground_budget dc_c_Ground_budget pm_c_Ground_budget cd_c_Ground_budget ct_c_Ground_budget oc_c_Ground_check_place kV_c_Ground_check_place dc_c_Ground_check_place pm_c_Ground_check_place cd_c_Ground_check_place ct_c_Ground_check_place oc_c_Ground_check_guard kV_c_Ground_check_guard dc_c_Ground_check_guard pm_c_Ground_check_guard cd_c_Ground_check_guard ct_c_Ground_check_guard oc_c_Ground_write kV_c_Ground_write dc_c_Ground_write pm_c_Ground_write cd_c_Ground_write ct_c_Ground_write oc_c_Ground_poke kV_c_Ground_poke dc_c_Ground_poke pm_c_Ground_poke cd_c_Ground_poke ct_c_Ground_poke oc_c_Ground_pass_on kV_c_Ground_pass_on dc_c_Ground_pass_on pm_c_Ground_pass_on cd_c_Ground_pass_on ct_c_Ground_pass_on oc_c_Ground_check_fill kV_c_Ground_check_fill dc_c_Ground_check_fill pm_c_Ground_check_fill cd_c_Ground_check_fill ct_c_Ground_check_fill oc_c_Ground_image kV_c_Ground_image dc_c_Ground_image pm_c_Ground_image cd_c_Ground_image ct_c_Ground_image oc_c_Ground_begin kV_c_Ground_begin dc_c_Ground_begin pm_c_Ground_begin cd_c_Ground_begin ct_c_Ground_begin oc_c_Ground_commit kV_c_Ground_commit dc_c_Ground_commit pm_c_Ground_commit cd_c_Ground_commit ct_c_Ground_commit oc_c_Ground_cancel kV_c_Ground_cancel dc_c_Ground_cancel pm_c_Ground_cancel cd_c_Ground_cancel ct_c_Ground_cancel oc_c_Ground_cost_since kV_c_Ground_cost_since dc_c_Ground_cost_since pm_c_Ground_cost_since cd_c_Ground_cost_since ct_c_Ground_cost_since oc_c_Ground_change_cell kV_c_Ground_change_cell dc_c_Ground_change_cell pm_c_Ground_change_cell cd_c_Ground_change_cell ct_c_Ground_change_cell oc_l_draws kV_l_draws dc_l_draws pm_l_draws cd_l_draws ct_l_draws oc_l_next_cell kV_l_next_cell dc_l_next_cell pm_l_next_cell cd_l_next_cell ct_l_next_cell oc_l_mixed kV_l_mixed dc_l_mixed pm_l_mixed cd_l_mixed ct_l_mixed oc_l_take kV_l_take dc_l_take pm_l_take cd_l_take ct_l_take oc_l_among kV_l_among dc_l_among pm_l_among cd_l_among ct_l_among oc_l_between kV_l_between dc_l_between pm_l_between cd_l_between ct_l_between oc_l_number kV_l_number dc_l_number pm_l_number cd_l_number ct_l_number oc_l_count kV_l_count dc_l_count pm_l_count cd_l_count ct_l_count oc_l_alignment kV_l_alignment dc_l_alignment pm_l_alignment cd_l_alignment ct_l_alignment oc_l_is_int kV_l_is_int dc_l_is_int pm_l_is_int cd_l_is_int ct_l_is_int oc_l_same kV_l_same dc_l_same pm_l_same cd_l_same ct_l_same oc_l_holders kV_l_holders dc_l_holders pm_l_holders cd_l_holders ct_l_holders oc_l_holder kV_l_holder dc_l_holder pm_l_holder cd_l_holder ct_l_holder oc_l_word kV_l_word dc_l_word pm_l_word cd_l_word ct_l_word oc_l_other_word kV_l_other_word dc_l_other_word pm_l_other_word cd_l_other_word ct_l_other_word oc_l_blank kV_l_blank dc_l_blank pm_l_blank cd_l_blank ct_l_blank oc_l_ground_args kV_l_ground_args dc_l_ground_args pm_l_ground_args cd_l_ground_args ct_l_ground_args oc_l_ground_deed kV_l_ground_deed dc_l_ground_deed pm_l_ground_deed cd_l_ground_deed ct_l_ground_deed oc_l_deed_due kV_l_deed_due dc_l_deed_due pm_l_deed_due cd_l_deed_due ct_l_deed_due oc_l_deed_made kV_l_deed_made dc_l_deed_made pm_l_deed_made cd_l_deed_made ct_l_deed_made oc_l_told kV_l_told dc_l_told pm_l_told cd_l_told ct_l_told oc_l_is_image_of kV_l_is_image_of dc_l_is_image_of pm_l_is_image_of cd_l_is_image_of ct_l_is_image_of oc_l_made kV_l_made dc_l_made pm_l_made cd_l_made ct_l_made oc_l_side kV_l_side dc_l_side pm_l_side cd_l_side ct_l_side oc_l_differing kV_l_differing dc_l_differing pm_l_differing cd_l_differing ct_l_differing oc_l_step kV_l_step dc_l_step pm_l_step cd_l_step ct_l_step oc_l_played kV_l_played dc_l_played pm_l_played cd_l_played ct_l_played oc_l_charged kV_l_charged dc_l_charged pm_l_charged cd_l_charged ct_l_charged oc_l_step_due kV_l_step_due dc_l_step_due pm_l_step_due cd_l_step_due ct_l_step_due oc_l_stands kV_l_stands dc_l_stands pm_l_stands cd_l_stands ct_l_stands oc_l_image_stands kV_l_image_stands dc_l_image_stands pm_l_image_stands cd_l_image_stands ct_l_image_stands oc_l_near_step kV_l_near_step dc_l_near_step pm_l_near_step cd_l_near_step ct_l_near_step oc_l_kept kV_l_kept dc_l_kept pm_l_kept cd_l_kept ct_l_kept oc_l_law kV_l_law dc_l_law pm_l_law cd_l_law ct_l_law kv_Ground_fill kv_Ground_budget v_MAP v_MOST_BUDGET v_MOST_PAGES v_MOST_WORD v_NOBODY v_NODE : Value}
    {od_c_BadValue_init an_c_BadValue_init od_c_Broken_init an_c_Broken_init od_c_Unknown_init an_c_Unknown_init od_c_NotHeld_init an_c_NotHeld_init od_c_Cut_init an_c_Cut_init od_p_is_whole an_p_is_whole od_p_whole_between an_p_whole_between od_p_is_holder an_p_is_holder od_p_is_between an_p_is_between od_p_is_width an_p_is_width od_p_is_budget an_p_is_budget od_c_Ground_init an_c_Ground_init od_c_Ground_spent an_c_Ground_spent od_c_Ground_depth an_c_Ground_depth od_c_Ground_budget an_c_Ground_budget od_c_Ground_check_place an_c_Ground_check_place od_c_Ground_check_guard an_c_Ground_check_guard od_c_Ground_write an_c_Ground_write od_c_Ground_poke an_c_Ground_poke od_c_Ground_pass_on an_c_Ground_pass_on od_c_Ground_check_fill an_c_Ground_check_fill od_c_Ground_image an_c_Ground_image od_c_Ground_begin an_c_Ground_begin od_c_Ground_commit an_c_Ground_commit od_c_Ground_cancel an_c_Ground_cancel od_c_Ground_cost_since an_c_Ground_cost_since od_c_Ground_change_cell an_c_Ground_change_cell od_l_draws an_l_draws od_l_next_cell an_l_next_cell od_l_mixed an_l_mixed od_l_take an_l_take od_l_among an_l_among od_l_between an_l_between od_l_number an_l_number od_l_count an_l_count od_l_alignment an_l_alignment od_l_is_int an_l_is_int od_l_same an_l_same od_l_holders an_l_holders od_l_holder an_l_holder od_l_word an_l_word od_l_other_word an_l_other_word od_l_blank an_l_blank od_l_ground_args an_l_ground_args od_l_ground_deed an_l_ground_deed od_l_deed_due an_l_deed_due od_l_deed_made an_l_deed_made od_l_told an_l_told od_l_is_image_of an_l_is_image_of od_l_made an_l_made od_l_side an_l_side od_l_differing an_l_differing od_l_step an_l_step od_l_played an_l_played od_l_charged an_l_charged od_l_step_due an_l_step_due od_l_stands an_l_stands od_l_image_stands an_l_image_stands od_l_near_step an_l_near_step od_l_kept an_l_kept od_l_law an_l_law : Option Addr} {sl_c_BadValue_init sl_c_Broken_init sl_c_Unknown_init sl_c_NotHeld_init sl_c_Cut_init sl_p_is_whole sl_p_whole_between sl_p_is_holder sl_p_is_between sl_p_is_width sl_p_is_budget sl_c_Ground_init sl_c_Ground_spent sl_c_Ground_depth sl_c_Ground_budget sl_c_Ground_check_place sl_c_Ground_check_guard sl_c_Ground_write sl_c_Ground_poke sl_c_Ground_pass_on sl_c_Ground_check_fill sl_c_Ground_image sl_c_Ground_begin sl_c_Ground_commit sl_c_Ground_cancel sl_c_Ground_cost_since sl_c_Ground_change_cell sl_l_draws sl_l_next_cell sl_l_mixed sl_l_take sl_l_among sl_l_between sl_l_number sl_l_count sl_l_alignment sl_l_is_int sl_l_same sl_l_holders sl_l_holder sl_l_word sl_l_other_word sl_l_blank sl_l_ground_args sl_l_ground_deed sl_l_deed_due sl_l_deed_made sl_l_told sl_l_is_image_of sl_l_made sl_l_side sl_l_differing sl_l_step sl_l_played sl_l_charged sl_l_step_due sl_l_stands sl_l_image_stands sl_l_near_step sl_l_kept sl_l_law : Array (Option Value)}
    {nm_BadValue qn_BadValue : Str} {N_BadValue : Addr} {bs_BadValue : List Value} {sn_BadValue : List Str} {sub_BadValue : List Value} {ab_BadValue : Bool} {col_BadValue : Option Bool} {dd_BadValue : Option Addr} {m0_BadValue m1_BadValue m2_BadValue m3_BadValue m5_BadValue : Option Value}
    {nm_Broken qn_Broken : Str} {N_Broken : Addr} {bs_Broken : List Value} {sn_Broken : List Str} {sub_Broken : List Value} {ab_Broken : Bool} {col_Broken : Option Bool} {dd_Broken : Option Addr} {m0_Broken m1_Broken m2_Broken m3_Broken m5_Broken : Option Value}
    {nm_Unknown qn_Unknown : Str} {N_Unknown : Addr} {bs_Unknown : List Value} {sn_Unknown : List Str} {sub_Unknown : List Value} {ab_Unknown : Bool} {col_Unknown : Option Bool} {dd_Unknown : Option Addr} {m0_Unknown m1_Unknown m2_Unknown m3_Unknown m5_Unknown : Option Value}
    {nm_NotHeld qn_NotHeld : Str} {N_NotHeld : Addr} {bs_NotHeld : List Value} {sn_NotHeld : List Str} {sub_NotHeld : List Value} {ab_NotHeld : Bool} {col_NotHeld : Option Bool} {dd_NotHeld : Option Addr} {m0_NotHeld m1_NotHeld m2_NotHeld m3_NotHeld m5_NotHeld : Option Value}
    {nm_Fault qn_Fault : Str} {N_Fault : Addr} {bs_Fault : List Value} {sn_Fault : List Str} {sub_Fault : List Value} {ab_Fault : Bool} {col_Fault : Option Bool} {dd_Fault : Option Addr} {m0_Fault m1_Fault m2_Fault m3_Fault m5_Fault : Option Value}
    {nm_NoRoom qn_NoRoom : Str} {N_NoRoom : Addr} {bs_NoRoom : List Value} {sn_NoRoom : List Str} {sub_NoRoom : List Value} {ab_NoRoom : Bool} {col_NoRoom : Option Bool} {dd_NoRoom : Option Addr} {m0_NoRoom m1_NoRoom m2_NoRoom m3_NoRoom m5_NoRoom : Option Value}
    {nm_Cut qn_Cut : Str} {N_Cut : Addr} {bs_Cut : List Value} {sn_Cut : List Str} {sub_Cut : List Value} {ab_Cut : Bool} {col_Cut : Option Bool} {dd_Cut : Option Addr} {m0_Cut m1_Cut m2_Cut m3_Cut m5_Cut : Option Value}
    {nm_BadLine qn_BadLine : Str} {N_BadLine : Addr} {bs_BadLine : List Value} {sn_BadLine : List Str} {sub_BadLine : List Value} {ab_BadLine : Bool} {col_BadLine : Option Bool} {dd_BadLine : Option Addr} {m0_BadLine m1_BadLine m2_BadLine m3_BadLine m5_BadLine : Option Value}
    (q_StoreError : PySem.W.nsIn K mainGlobals "StoreError" = some (some (.ref C_StoreError)))
    (q_BadValue : PySem.W.nsIn K mainGlobals "BadValue" = some (some (.ref C_BadValue)))
    (q_Broken : PySem.W.nsIn K mainGlobals "Broken" = some (some (.ref C_Broken)))
    (q_Unknown : PySem.W.nsIn K mainGlobals "Unknown" = some (some (.ref C_Unknown)))
    (q_NotHeld : PySem.W.nsIn K mainGlobals "NotHeld" = some (some (.ref C_NotHeld)))
    (q_Fault : PySem.W.nsIn K mainGlobals "Fault" = some (some (.ref C_Fault)))
    (q_NoRoom : PySem.W.nsIn K mainGlobals "NoRoom" = some (some (.ref C_NoRoom)))
    (q_Cut : PySem.W.nsIn K mainGlobals "Cut" = some (some (.ref C_Cut)))
    (q_BadLine : PySem.W.nsIn K mainGlobals "BadLine" = some (some (.ref C_BadLine)))
    (q_Ground : PySem.W.nsIn K mainGlobals "Ground" = some (some (.ref C_Ground)))
    (a_c_BadValue_init : PySem.W.findIn K (.ref C_BadValue) "__init__" = some (some (.ref f_c_BadValue_init)))
    (t_c_BadValue_init : PySem.W.typeIn K (.ref f_c_BadValue_init) = some (.type "function"))
    (l_c_BadValue_init : K.lookup f_c_BadValue_init = some ⟨oc_c_BadValue_init, od_c_BadValue_init, .func (PySem.W.fnOf "__init__" "BadValue.__init__" (defArgs s_c_BadValue_init) (defBody s_c_BadValue_init) (defScope s_c_BadValue_init) .none kV_c_BadValue_init dc_c_BadValue_init pm_c_BadValue_init an_c_BadValue_init cd_c_BadValue_init ct_c_BadValue_init), sl_c_BadValue_init⟩)
    (c_c_BadValue_init : PySem.W.codeIn K cd_c_BadValue_init "BadValue.__init__" = true)
    (k_c_BadValue_init : PySem.W.keepIn K (.ref f_c_BadValue_init) = true)
    (a_c_Broken_init : PySem.W.findIn K (.ref C_Broken) "__init__" = some (some (.ref f_c_Broken_init)))
    (t_c_Broken_init : PySem.W.typeIn K (.ref f_c_Broken_init) = some (.type "function"))
    (l_c_Broken_init : K.lookup f_c_Broken_init = some ⟨oc_c_Broken_init, od_c_Broken_init, .func (PySem.W.fnOf "__init__" "Broken.__init__" (defArgs s_c_Broken_init) (defBody s_c_Broken_init) (defScope s_c_Broken_init) .none kV_c_Broken_init dc_c_Broken_init pm_c_Broken_init an_c_Broken_init cd_c_Broken_init ct_c_Broken_init), sl_c_Broken_init⟩)
    (c_c_Broken_init : PySem.W.codeIn K cd_c_Broken_init "Broken.__init__" = true)
    (k_c_Broken_init : PySem.W.keepIn K (.ref f_c_Broken_init) = true)
    (a_c_Unknown_init : PySem.W.findIn K (.ref C_Unknown) "__init__" = some (some (.ref f_c_Unknown_init)))
    (t_c_Unknown_init : PySem.W.typeIn K (.ref f_c_Unknown_init) = some (.type "function"))
    (l_c_Unknown_init : K.lookup f_c_Unknown_init = some ⟨oc_c_Unknown_init, od_c_Unknown_init, .func (PySem.W.fnOf "__init__" "Unknown.__init__" (defArgs s_c_Unknown_init) (defBody s_c_Unknown_init) (defScope s_c_Unknown_init) .none kV_c_Unknown_init dc_c_Unknown_init pm_c_Unknown_init an_c_Unknown_init cd_c_Unknown_init ct_c_Unknown_init), sl_c_Unknown_init⟩)
    (c_c_Unknown_init : PySem.W.codeIn K cd_c_Unknown_init "Unknown.__init__" = true)
    (k_c_Unknown_init : PySem.W.keepIn K (.ref f_c_Unknown_init) = true)
    (a_c_NotHeld_init : PySem.W.findIn K (.ref C_NotHeld) "__init__" = some (some (.ref f_c_NotHeld_init)))
    (t_c_NotHeld_init : PySem.W.typeIn K (.ref f_c_NotHeld_init) = some (.type "function"))
    (l_c_NotHeld_init : K.lookup f_c_NotHeld_init = some ⟨oc_c_NotHeld_init, od_c_NotHeld_init, .func (PySem.W.fnOf "__init__" "NotHeld.__init__" (defArgs s_c_NotHeld_init) (defBody s_c_NotHeld_init) (defScope s_c_NotHeld_init) .none kV_c_NotHeld_init dc_c_NotHeld_init pm_c_NotHeld_init an_c_NotHeld_init cd_c_NotHeld_init ct_c_NotHeld_init), sl_c_NotHeld_init⟩)
    (c_c_NotHeld_init : PySem.W.codeIn K cd_c_NotHeld_init "NotHeld.__init__" = true)
    (k_c_NotHeld_init : PySem.W.keepIn K (.ref f_c_NotHeld_init) = true)
    (a_c_Cut_init : PySem.W.findIn K (.ref C_Cut) "__init__" = some (some (.ref f_c_Cut_init)))
    (t_c_Cut_init : PySem.W.typeIn K (.ref f_c_Cut_init) = some (.type "function"))
    (l_c_Cut_init : K.lookup f_c_Cut_init = some ⟨oc_c_Cut_init, od_c_Cut_init, .func (PySem.W.fnOf "__init__" "Cut.__init__" (defArgs s_c_Cut_init) (defBody s_c_Cut_init) (defScope s_c_Cut_init) .none kV_c_Cut_init dc_c_Cut_init pm_c_Cut_init an_c_Cut_init cd_c_Cut_init ct_c_Cut_init), sl_c_Cut_init⟩)
    (c_c_Cut_init : PySem.W.codeIn K cd_c_Cut_init "Cut.__init__" = true)
    (k_c_Cut_init : PySem.W.keepIn K (.ref f_c_Cut_init) = true)
    (a_p_is_whole : PySem.W.nsIn K mainGlobals "is_whole" = some (some (.ref f_p_is_whole)))
    (l_p_is_whole : K.lookup f_p_is_whole = some ⟨oc_p_is_whole, od_p_is_whole, .func (PySem.W.fnOf "is_whole" "is_whole" (defArgs s_p_is_whole) (defBody s_p_is_whole) (defScope s_p_is_whole) .none kV_p_is_whole dc_p_is_whole pm_p_is_whole an_p_is_whole cd_p_is_whole ct_p_is_whole), sl_p_is_whole⟩)
    (c_p_is_whole : PySem.W.codeIn K cd_p_is_whole "is_whole" = true)
    (k_p_is_whole : PySem.W.keepIn K (.ref f_p_is_whole) = true)
    (a_p_whole_between : PySem.W.nsIn K mainGlobals "whole_between" = some (some (.ref f_p_whole_between)))
    (l_p_whole_between : K.lookup f_p_whole_between = some ⟨oc_p_whole_between, od_p_whole_between, .func (PySem.W.fnOf "whole_between" "whole_between" (defArgs s_p_whole_between) (defBody s_p_whole_between) (defScope s_p_whole_between) .none kV_p_whole_between dc_p_whole_between pm_p_whole_between an_p_whole_between cd_p_whole_between ct_p_whole_between), sl_p_whole_between⟩)
    (c_p_whole_between : PySem.W.codeIn K cd_p_whole_between "whole_between" = true)
    (k_p_whole_between : PySem.W.keepIn K (.ref f_p_whole_between) = true)
    (a_p_is_holder : PySem.W.nsIn K mainGlobals "is_holder" = some (some (.ref f_p_is_holder)))
    (l_p_is_holder : K.lookup f_p_is_holder = some ⟨oc_p_is_holder, od_p_is_holder, .func (PySem.W.fnOf "is_holder" "is_holder" (defArgs s_p_is_holder) (defBody s_p_is_holder) (defScope s_p_is_holder) .none kV_p_is_holder dc_p_is_holder pm_p_is_holder an_p_is_holder cd_p_is_holder ct_p_is_holder), sl_p_is_holder⟩)
    (c_p_is_holder : PySem.W.codeIn K cd_p_is_holder "is_holder" = true)
    (k_p_is_holder : PySem.W.keepIn K (.ref f_p_is_holder) = true)
    (a_p_is_between : PySem.W.nsIn K mainGlobals "is_between" = some (some (.ref f_p_is_between)))
    (l_p_is_between : K.lookup f_p_is_between = some ⟨oc_p_is_between, od_p_is_between, .func (PySem.W.fnOf "is_between" "is_between" (defArgs s_p_is_between) (defBody s_p_is_between) (defScope s_p_is_between) .none kV_p_is_between dc_p_is_between pm_p_is_between an_p_is_between cd_p_is_between ct_p_is_between), sl_p_is_between⟩)
    (c_p_is_between : PySem.W.codeIn K cd_p_is_between "is_between" = true)
    (k_p_is_between : PySem.W.keepIn K (.ref f_p_is_between) = true)
    (a_p_is_width : PySem.W.nsIn K mainGlobals "is_width" = some (some (.ref f_p_is_width)))
    (l_p_is_width : K.lookup f_p_is_width = some ⟨oc_p_is_width, od_p_is_width, .func (PySem.W.fnOf "is_width" "is_width" (defArgs s_p_is_width) (defBody s_p_is_width) (defScope s_p_is_width) .none kV_p_is_width dc_p_is_width pm_p_is_width an_p_is_width cd_p_is_width ct_p_is_width), sl_p_is_width⟩)
    (c_p_is_width : PySem.W.codeIn K cd_p_is_width "is_width" = true)
    (k_p_is_width : PySem.W.keepIn K (.ref f_p_is_width) = true)
    (a_p_is_budget : PySem.W.nsIn K mainGlobals "is_budget" = some (some (.ref f_p_is_budget)))
    (l_p_is_budget : K.lookup f_p_is_budget = some ⟨oc_p_is_budget, od_p_is_budget, .func (PySem.W.fnOf "is_budget" "is_budget" (defArgs s_p_is_budget) (defBody s_p_is_budget) (defScope s_p_is_budget) .none kV_p_is_budget dc_p_is_budget pm_p_is_budget an_p_is_budget cd_p_is_budget ct_p_is_budget), sl_p_is_budget⟩)
    (c_p_is_budget : PySem.W.codeIn K cd_p_is_budget "is_budget" = true)
    (k_p_is_budget : PySem.W.keepIn K (.ref f_p_is_budget) = true)
    (a_c_Ground_init : PySem.W.findIn K (.ref C_Ground) "__init__" = some (some (.ref f_c_Ground_init)))
    (fn_c_Ground_init : PySem.W.isFn K (.ref f_c_Ground_init) = true)
    (t_c_Ground_init : PySem.W.typeIn K (.ref f_c_Ground_init) = some (.type "function"))
    (l_c_Ground_init : K.lookup f_c_Ground_init = some ⟨oc_c_Ground_init, od_c_Ground_init, .func (PySem.W.fnOf "__init__" "Ground.__init__" (defArgs s_c_Ground_init) (defBody s_c_Ground_init) (defScope s_c_Ground_init) .none kV_c_Ground_init dc_c_Ground_init pm_c_Ground_init an_c_Ground_init cd_c_Ground_init ct_c_Ground_init), sl_c_Ground_init⟩)
    (c_c_Ground_init : PySem.W.codeIn K cd_c_Ground_init "Ground.__init__" = true)
    (k_c_Ground_init : PySem.W.keepIn K (.ref f_c_Ground_init) = true)
    (a_c_Ground_spent : PySem.W.findIn K (.ref C_Ground) "spent" = some (some (.ref p_c_Ground_spent)))
    (pg_c_Ground_spent : PySem.W.specialIn K (.ref p_c_Ground_spent) "__get__" = some (some (.builtin "property.__get__")))
    (pt_c_Ground_spent : PySem.W.takesIn K (.ref p_c_Ground_spent) = some true)
    (rc_c_Ground_spent : ∃ rest, PySem.W.recIn K p_c_Ground_spent "property" = some (.ref f_c_Ground_spent :: rest))
    (l_c_Ground_spent : K.lookup f_c_Ground_spent = some ⟨oc_c_Ground_spent, od_c_Ground_spent, .func (PySem.W.fnOf "spent" "Ground.spent" (defArgs s_c_Ground_spent) (defBody s_c_Ground_spent) (defScope s_c_Ground_spent) .none kV_c_Ground_spent dc_c_Ground_spent pm_c_Ground_spent an_c_Ground_spent cd_c_Ground_spent ct_c_Ground_spent), sl_c_Ground_spent⟩)
    (c_c_Ground_spent : PySem.W.codeIn K cd_c_Ground_spent "Ground.spent" = true)
    (k_c_Ground_spent : PySem.W.keepIn K (.ref f_c_Ground_spent) = true)
    (a_c_Ground_depth : PySem.W.findIn K (.ref C_Ground) "depth" = some (some (.ref p_c_Ground_depth)))
    (pg_c_Ground_depth : PySem.W.specialIn K (.ref p_c_Ground_depth) "__get__" = some (some (.builtin "property.__get__")))
    (pt_c_Ground_depth : PySem.W.takesIn K (.ref p_c_Ground_depth) = some true)
    (rc_c_Ground_depth : ∃ rest, PySem.W.recIn K p_c_Ground_depth "property" = some (.ref f_c_Ground_depth :: rest))
    (l_c_Ground_depth : K.lookup f_c_Ground_depth = some ⟨oc_c_Ground_depth, od_c_Ground_depth, .func (PySem.W.fnOf "depth" "Ground.depth" (defArgs s_c_Ground_depth) (defBody s_c_Ground_depth) (defScope s_c_Ground_depth) .none kV_c_Ground_depth dc_c_Ground_depth pm_c_Ground_depth an_c_Ground_depth cd_c_Ground_depth ct_c_Ground_depth), sl_c_Ground_depth⟩)
    (c_c_Ground_depth : PySem.W.codeIn K cd_c_Ground_depth "Ground.depth" = true)
    (k_c_Ground_depth : PySem.W.keepIn K (.ref f_c_Ground_depth) = true)
    (a_c_Ground_budget : PySem.W.findIn K (.ref C_Ground) "budget" = some (some (.ref p_c_Ground_budget)))
    (pg_c_Ground_budget : PySem.W.specialIn K (.ref p_c_Ground_budget) "__get__" = some (some (.builtin "property.__get__")))
    (pt_c_Ground_budget : PySem.W.takesIn K (.ref p_c_Ground_budget) = some true)
    (rc_c_Ground_budget : ∃ rest, PySem.W.recIn K p_c_Ground_budget "property" = some (.ref f_c_Ground_budget :: rest))
    (l_c_Ground_budget : K.lookup f_c_Ground_budget = some ⟨oc_c_Ground_budget, od_c_Ground_budget, .func (PySem.W.fnOf "budget" "Ground.budget" (defArgs s_c_Ground_budget) (defBody s_c_Ground_budget) (defScope s_c_Ground_budget) .none kV_c_Ground_budget dc_c_Ground_budget pm_c_Ground_budget an_c_Ground_budget cd_c_Ground_budget ct_c_Ground_budget), sl_c_Ground_budget⟩)
    (c_c_Ground_budget : PySem.W.codeIn K cd_c_Ground_budget "Ground.budget" = true)
    (k_c_Ground_budget : PySem.W.keepIn K (.ref f_c_Ground_budget) = true)
    (a_c_Ground_check_place : PySem.W.findIn K (.ref C_Ground) "check_place" = some (some (.ref f_c_Ground_check_place)))
    (fn_c_Ground_check_place : PySem.W.isFn K (.ref f_c_Ground_check_place) = true)
    (t_c_Ground_check_place : PySem.W.typeIn K (.ref f_c_Ground_check_place) = some (.type "function"))
    (l_c_Ground_check_place : K.lookup f_c_Ground_check_place = some ⟨oc_c_Ground_check_place, od_c_Ground_check_place, .func (PySem.W.fnOf "check_place" "Ground.check_place" (defArgs s_c_Ground_check_place) (defBody s_c_Ground_check_place) (defScope s_c_Ground_check_place) .none kV_c_Ground_check_place dc_c_Ground_check_place pm_c_Ground_check_place an_c_Ground_check_place cd_c_Ground_check_place ct_c_Ground_check_place), sl_c_Ground_check_place⟩)
    (c_c_Ground_check_place : PySem.W.codeIn K cd_c_Ground_check_place "Ground.check_place" = true)
    (k_c_Ground_check_place : PySem.W.keepIn K (.ref f_c_Ground_check_place) = true)
    (a_c_Ground_check_guard : PySem.W.findIn K (.ref C_Ground) "check_guard" = some (some (.ref f_c_Ground_check_guard)))
    (fn_c_Ground_check_guard : PySem.W.isFn K (.ref f_c_Ground_check_guard) = true)
    (t_c_Ground_check_guard : PySem.W.typeIn K (.ref f_c_Ground_check_guard) = some (.type "function"))
    (l_c_Ground_check_guard : K.lookup f_c_Ground_check_guard = some ⟨oc_c_Ground_check_guard, od_c_Ground_check_guard, .func (PySem.W.fnOf "check_guard" "Ground.check_guard" (defArgs s_c_Ground_check_guard) (defBody s_c_Ground_check_guard) (defScope s_c_Ground_check_guard) .none kV_c_Ground_check_guard dc_c_Ground_check_guard pm_c_Ground_check_guard an_c_Ground_check_guard cd_c_Ground_check_guard ct_c_Ground_check_guard), sl_c_Ground_check_guard⟩)
    (c_c_Ground_check_guard : PySem.W.codeIn K cd_c_Ground_check_guard "Ground.check_guard" = true)
    (k_c_Ground_check_guard : PySem.W.keepIn K (.ref f_c_Ground_check_guard) = true)
    (a_c_Ground_write : PySem.W.findIn K (.ref C_Ground) "write" = some (some (.ref f_c_Ground_write)))
    (fn_c_Ground_write : PySem.W.isFn K (.ref f_c_Ground_write) = true)
    (t_c_Ground_write : PySem.W.typeIn K (.ref f_c_Ground_write) = some (.type "function"))
    (l_c_Ground_write : K.lookup f_c_Ground_write = some ⟨oc_c_Ground_write, od_c_Ground_write, .func (PySem.W.fnOf "write" "Ground.write" (defArgs s_c_Ground_write) (defBody s_c_Ground_write) (defScope s_c_Ground_write) .none kV_c_Ground_write dc_c_Ground_write pm_c_Ground_write an_c_Ground_write cd_c_Ground_write ct_c_Ground_write), sl_c_Ground_write⟩)
    (c_c_Ground_write : PySem.W.codeIn K cd_c_Ground_write "Ground.write" = true)
    (k_c_Ground_write : PySem.W.keepIn K (.ref f_c_Ground_write) = true)
    (a_c_Ground_poke : PySem.W.findIn K (.ref C_Ground) "poke" = some (some (.ref f_c_Ground_poke)))
    (fn_c_Ground_poke : PySem.W.isFn K (.ref f_c_Ground_poke) = true)
    (t_c_Ground_poke : PySem.W.typeIn K (.ref f_c_Ground_poke) = some (.type "function"))
    (l_c_Ground_poke : K.lookup f_c_Ground_poke = some ⟨oc_c_Ground_poke, od_c_Ground_poke, .func (PySem.W.fnOf "poke" "Ground.poke" (defArgs s_c_Ground_poke) (defBody s_c_Ground_poke) (defScope s_c_Ground_poke) .none kV_c_Ground_poke dc_c_Ground_poke pm_c_Ground_poke an_c_Ground_poke cd_c_Ground_poke ct_c_Ground_poke), sl_c_Ground_poke⟩)
    (c_c_Ground_poke : PySem.W.codeIn K cd_c_Ground_poke "Ground.poke" = true)
    (k_c_Ground_poke : PySem.W.keepIn K (.ref f_c_Ground_poke) = true)
    (a_c_Ground_pass_on : PySem.W.findIn K (.ref C_Ground) "pass_on" = some (some (.ref f_c_Ground_pass_on)))
    (fn_c_Ground_pass_on : PySem.W.isFn K (.ref f_c_Ground_pass_on) = true)
    (t_c_Ground_pass_on : PySem.W.typeIn K (.ref f_c_Ground_pass_on) = some (.type "function"))
    (l_c_Ground_pass_on : K.lookup f_c_Ground_pass_on = some ⟨oc_c_Ground_pass_on, od_c_Ground_pass_on, .func (PySem.W.fnOf "pass_on" "Ground.pass_on" (defArgs s_c_Ground_pass_on) (defBody s_c_Ground_pass_on) (defScope s_c_Ground_pass_on) .none kV_c_Ground_pass_on dc_c_Ground_pass_on pm_c_Ground_pass_on an_c_Ground_pass_on cd_c_Ground_pass_on ct_c_Ground_pass_on), sl_c_Ground_pass_on⟩)
    (c_c_Ground_pass_on : PySem.W.codeIn K cd_c_Ground_pass_on "Ground.pass_on" = true)
    (k_c_Ground_pass_on : PySem.W.keepIn K (.ref f_c_Ground_pass_on) = true)
    (a_c_Ground_check_fill : PySem.W.findIn K (.ref C_Ground) "check_fill" = some (some (.ref f_c_Ground_check_fill)))
    (fn_c_Ground_check_fill : PySem.W.isFn K (.ref f_c_Ground_check_fill) = true)
    (t_c_Ground_check_fill : PySem.W.typeIn K (.ref f_c_Ground_check_fill) = some (.type "function"))
    (l_c_Ground_check_fill : K.lookup f_c_Ground_check_fill = some ⟨oc_c_Ground_check_fill, od_c_Ground_check_fill, .func (PySem.W.fnOf "check_fill" "Ground.check_fill" (defArgs s_c_Ground_check_fill) (defBody s_c_Ground_check_fill) (defScope s_c_Ground_check_fill) .none kV_c_Ground_check_fill dc_c_Ground_check_fill pm_c_Ground_check_fill an_c_Ground_check_fill cd_c_Ground_check_fill ct_c_Ground_check_fill), sl_c_Ground_check_fill⟩)
    (c_c_Ground_check_fill : PySem.W.codeIn K cd_c_Ground_check_fill "Ground.check_fill" = true)
    (k_c_Ground_check_fill : PySem.W.keepIn K (.ref f_c_Ground_check_fill) = true)
    (a_c_Ground_image : PySem.W.findIn K (.ref C_Ground) "image" = some (some (.ref f_c_Ground_image)))
    (fn_c_Ground_image : PySem.W.isFn K (.ref f_c_Ground_image) = true)
    (t_c_Ground_image : PySem.W.typeIn K (.ref f_c_Ground_image) = some (.type "function"))
    (l_c_Ground_image : K.lookup f_c_Ground_image = some ⟨oc_c_Ground_image, od_c_Ground_image, .func (PySem.W.fnOf "image" "Ground.image" (defArgs s_c_Ground_image) (defBody s_c_Ground_image) (defScope s_c_Ground_image) .none kV_c_Ground_image dc_c_Ground_image pm_c_Ground_image an_c_Ground_image cd_c_Ground_image ct_c_Ground_image), sl_c_Ground_image⟩)
    (c_c_Ground_image : PySem.W.codeIn K cd_c_Ground_image "Ground.image" = true)
    (k_c_Ground_image : PySem.W.keepIn K (.ref f_c_Ground_image) = true)
    (a_c_Ground_begin : PySem.W.findIn K (.ref C_Ground) "begin" = some (some (.ref f_c_Ground_begin)))
    (fn_c_Ground_begin : PySem.W.isFn K (.ref f_c_Ground_begin) = true)
    (t_c_Ground_begin : PySem.W.typeIn K (.ref f_c_Ground_begin) = some (.type "function"))
    (l_c_Ground_begin : K.lookup f_c_Ground_begin = some ⟨oc_c_Ground_begin, od_c_Ground_begin, .func (PySem.W.fnOf "begin" "Ground.begin" (defArgs s_c_Ground_begin) (defBody s_c_Ground_begin) (defScope s_c_Ground_begin) .none kV_c_Ground_begin dc_c_Ground_begin pm_c_Ground_begin an_c_Ground_begin cd_c_Ground_begin ct_c_Ground_begin), sl_c_Ground_begin⟩)
    (c_c_Ground_begin : PySem.W.codeIn K cd_c_Ground_begin "Ground.begin" = true)
    (k_c_Ground_begin : PySem.W.keepIn K (.ref f_c_Ground_begin) = true)
    (a_c_Ground_commit : PySem.W.findIn K (.ref C_Ground) "commit" = some (some (.ref f_c_Ground_commit)))
    (fn_c_Ground_commit : PySem.W.isFn K (.ref f_c_Ground_commit) = true)
    (t_c_Ground_commit : PySem.W.typeIn K (.ref f_c_Ground_commit) = some (.type "function"))
    (l_c_Ground_commit : K.lookup f_c_Ground_commit = some ⟨oc_c_Ground_commit, od_c_Ground_commit, .func (PySem.W.fnOf "commit" "Ground.commit" (defArgs s_c_Ground_commit) (defBody s_c_Ground_commit) (defScope s_c_Ground_commit) .none kV_c_Ground_commit dc_c_Ground_commit pm_c_Ground_commit an_c_Ground_commit cd_c_Ground_commit ct_c_Ground_commit), sl_c_Ground_commit⟩)
    (c_c_Ground_commit : PySem.W.codeIn K cd_c_Ground_commit "Ground.commit" = true)
    (k_c_Ground_commit : PySem.W.keepIn K (.ref f_c_Ground_commit) = true)
    (a_c_Ground_cancel : PySem.W.findIn K (.ref C_Ground) "cancel" = some (some (.ref f_c_Ground_cancel)))
    (fn_c_Ground_cancel : PySem.W.isFn K (.ref f_c_Ground_cancel) = true)
    (t_c_Ground_cancel : PySem.W.typeIn K (.ref f_c_Ground_cancel) = some (.type "function"))
    (l_c_Ground_cancel : K.lookup f_c_Ground_cancel = some ⟨oc_c_Ground_cancel, od_c_Ground_cancel, .func (PySem.W.fnOf "cancel" "Ground.cancel" (defArgs s_c_Ground_cancel) (defBody s_c_Ground_cancel) (defScope s_c_Ground_cancel) .none kV_c_Ground_cancel dc_c_Ground_cancel pm_c_Ground_cancel an_c_Ground_cancel cd_c_Ground_cancel ct_c_Ground_cancel), sl_c_Ground_cancel⟩)
    (c_c_Ground_cancel : PySem.W.codeIn K cd_c_Ground_cancel "Ground.cancel" = true)
    (k_c_Ground_cancel : PySem.W.keepIn K (.ref f_c_Ground_cancel) = true)
    (a_c_Ground_cost_since : PySem.W.findIn K (.ref C_Ground) "cost_since" = some (some (.ref f_c_Ground_cost_since)))
    (fn_c_Ground_cost_since : PySem.W.isFn K (.ref f_c_Ground_cost_since) = true)
    (t_c_Ground_cost_since : PySem.W.typeIn K (.ref f_c_Ground_cost_since) = some (.type "function"))
    (l_c_Ground_cost_since : K.lookup f_c_Ground_cost_since = some ⟨oc_c_Ground_cost_since, od_c_Ground_cost_since, .func (PySem.W.fnOf "cost_since" "Ground.cost_since" (defArgs s_c_Ground_cost_since) (defBody s_c_Ground_cost_since) (defScope s_c_Ground_cost_since) .none kV_c_Ground_cost_since dc_c_Ground_cost_since pm_c_Ground_cost_since an_c_Ground_cost_since cd_c_Ground_cost_since ct_c_Ground_cost_since), sl_c_Ground_cost_since⟩)
    (c_c_Ground_cost_since : PySem.W.codeIn K cd_c_Ground_cost_since "Ground.cost_since" = true)
    (k_c_Ground_cost_since : PySem.W.keepIn K (.ref f_c_Ground_cost_since) = true)
    (a_c_Ground_change_cell : PySem.W.findIn K (.ref C_Ground) "change_cell" = some (some (.ref f_c_Ground_change_cell)))
    (fn_c_Ground_change_cell : PySem.W.isFn K (.ref f_c_Ground_change_cell) = true)
    (t_c_Ground_change_cell : PySem.W.typeIn K (.ref f_c_Ground_change_cell) = some (.type "function"))
    (l_c_Ground_change_cell : K.lookup f_c_Ground_change_cell = some ⟨oc_c_Ground_change_cell, od_c_Ground_change_cell, .func (PySem.W.fnOf "change_cell" "Ground.change_cell" (defArgs s_c_Ground_change_cell) (defBody s_c_Ground_change_cell) (defScope s_c_Ground_change_cell) .none kV_c_Ground_change_cell dc_c_Ground_change_cell pm_c_Ground_change_cell an_c_Ground_change_cell cd_c_Ground_change_cell ct_c_Ground_change_cell), sl_c_Ground_change_cell⟩)
    (c_c_Ground_change_cell : PySem.W.codeIn K cd_c_Ground_change_cell "Ground.change_cell" = true)
    (k_c_Ground_change_cell : PySem.W.keepIn K (.ref f_c_Ground_change_cell) = true)
    (a_l_draws : PySem.W.nsIn K mainGlobals "_law_draws" = some (some (.ref f_l_draws)))
    (l_l_draws : K.lookup f_l_draws = some ⟨oc_l_draws, od_l_draws, .func (PySem.W.fnOf "_law_draws" "_law_draws" (defArgs s_l_draws) (defBody s_l_draws) (defScope s_l_draws) .none kV_l_draws dc_l_draws pm_l_draws an_l_draws cd_l_draws ct_l_draws), sl_l_draws⟩)
    (c_l_draws : PySem.W.codeIn K cd_l_draws "_law_draws" = true)
    (k_l_draws : PySem.W.keepIn K (.ref f_l_draws) = true)
    (a_l_next_cell : PySem.W.nsIn K mainGlobals "_law_next_cell" = some (some (.ref f_l_next_cell)))
    (l_l_next_cell : K.lookup f_l_next_cell = some ⟨oc_l_next_cell, od_l_next_cell, .func (PySem.W.fnOf "_law_next_cell" "_law_next_cell" (defArgs s_l_next_cell) (defBody s_l_next_cell) (defScope s_l_next_cell) .none kV_l_next_cell dc_l_next_cell pm_l_next_cell an_l_next_cell cd_l_next_cell ct_l_next_cell), sl_l_next_cell⟩)
    (c_l_next_cell : PySem.W.codeIn K cd_l_next_cell "_law_next_cell" = true)
    (k_l_next_cell : PySem.W.keepIn K (.ref f_l_next_cell) = true)
    (a_l_mixed : PySem.W.nsIn K mainGlobals "_law_mixed" = some (some (.ref f_l_mixed)))
    (l_l_mixed : K.lookup f_l_mixed = some ⟨oc_l_mixed, od_l_mixed, .func (PySem.W.fnOf "_law_mixed" "_law_mixed" (defArgs s_l_mixed) (defBody s_l_mixed) (defScope s_l_mixed) .none kV_l_mixed dc_l_mixed pm_l_mixed an_l_mixed cd_l_mixed ct_l_mixed), sl_l_mixed⟩)
    (c_l_mixed : PySem.W.codeIn K cd_l_mixed "_law_mixed" = true)
    (k_l_mixed : PySem.W.keepIn K (.ref f_l_mixed) = true)
    (a_l_take : PySem.W.nsIn K mainGlobals "_law_take" = some (some (.ref f_l_take)))
    (l_l_take : K.lookup f_l_take = some ⟨oc_l_take, od_l_take, .func (PySem.W.fnOf "_law_take" "_law_take" (defArgs s_l_take) (defBody s_l_take) (defScope s_l_take) .none kV_l_take dc_l_take pm_l_take an_l_take cd_l_take ct_l_take), sl_l_take⟩)
    (c_l_take : PySem.W.codeIn K cd_l_take "_law_take" = true)
    (k_l_take : PySem.W.keepIn K (.ref f_l_take) = true)
    (a_l_among : PySem.W.nsIn K mainGlobals "_law_among" = some (some (.ref f_l_among)))
    (l_l_among : K.lookup f_l_among = some ⟨oc_l_among, od_l_among, .func (PySem.W.fnOf "_law_among" "_law_among" (defArgs s_l_among) (defBody s_l_among) (defScope s_l_among) .none kV_l_among dc_l_among pm_l_among an_l_among cd_l_among ct_l_among), sl_l_among⟩)
    (c_l_among : PySem.W.codeIn K cd_l_among "_law_among" = true)
    (k_l_among : PySem.W.keepIn K (.ref f_l_among) = true)
    (a_l_between : PySem.W.nsIn K mainGlobals "_law_between" = some (some (.ref f_l_between)))
    (l_l_between : K.lookup f_l_between = some ⟨oc_l_between, od_l_between, .func (PySem.W.fnOf "_law_between" "_law_between" (defArgs s_l_between) (defBody s_l_between) (defScope s_l_between) .none kV_l_between dc_l_between pm_l_between an_l_between cd_l_between ct_l_between), sl_l_between⟩)
    (c_l_between : PySem.W.codeIn K cd_l_between "_law_between" = true)
    (k_l_between : PySem.W.keepIn K (.ref f_l_between) = true)
    (a_l_number : PySem.W.nsIn K mainGlobals "_law_number" = some (some (.ref f_l_number)))
    (l_l_number : K.lookup f_l_number = some ⟨oc_l_number, od_l_number, .func (PySem.W.fnOf "_law_number" "_law_number" (defArgs s_l_number) (defBody s_l_number) (defScope s_l_number) .none kV_l_number dc_l_number pm_l_number an_l_number cd_l_number ct_l_number), sl_l_number⟩)
    (c_l_number : PySem.W.codeIn K cd_l_number "_law_number" = true)
    (k_l_number : PySem.W.keepIn K (.ref f_l_number) = true)
    (a_l_count : PySem.W.nsIn K mainGlobals "_law_count" = some (some (.ref f_l_count)))
    (l_l_count : K.lookup f_l_count = some ⟨oc_l_count, od_l_count, .func (PySem.W.fnOf "_law_count" "_law_count" (defArgs s_l_count) (defBody s_l_count) (defScope s_l_count) .none kV_l_count dc_l_count pm_l_count an_l_count cd_l_count ct_l_count), sl_l_count⟩)
    (c_l_count : PySem.W.codeIn K cd_l_count "_law_count" = true)
    (k_l_count : PySem.W.keepIn K (.ref f_l_count) = true)
    (a_l_alignment : PySem.W.nsIn K mainGlobals "_law_alignment" = some (some (.ref f_l_alignment)))
    (l_l_alignment : K.lookup f_l_alignment = some ⟨oc_l_alignment, od_l_alignment, .func (PySem.W.fnOf "_law_alignment" "_law_alignment" (defArgs s_l_alignment) (defBody s_l_alignment) (defScope s_l_alignment) .none kV_l_alignment dc_l_alignment pm_l_alignment an_l_alignment cd_l_alignment ct_l_alignment), sl_l_alignment⟩)
    (c_l_alignment : PySem.W.codeIn K cd_l_alignment "_law_alignment" = true)
    (k_l_alignment : PySem.W.keepIn K (.ref f_l_alignment) = true)
    (a_l_is_int : PySem.W.nsIn K mainGlobals "_law_is_int" = some (some (.ref f_l_is_int)))
    (l_l_is_int : K.lookup f_l_is_int = some ⟨oc_l_is_int, od_l_is_int, .func (PySem.W.fnOf "_law_is_int" "_law_is_int" (defArgs s_l_is_int) (defBody s_l_is_int) (defScope s_l_is_int) .none kV_l_is_int dc_l_is_int pm_l_is_int an_l_is_int cd_l_is_int ct_l_is_int), sl_l_is_int⟩)
    (c_l_is_int : PySem.W.codeIn K cd_l_is_int "_law_is_int" = true)
    (k_l_is_int : PySem.W.keepIn K (.ref f_l_is_int) = true)
    (a_l_same : PySem.W.nsIn K mainGlobals "_law_same" = some (some (.ref f_l_same)))
    (l_l_same : K.lookup f_l_same = some ⟨oc_l_same, od_l_same, .func (PySem.W.fnOf "_law_same" "_law_same" (defArgs s_l_same) (defBody s_l_same) (defScope s_l_same) .none kV_l_same dc_l_same pm_l_same an_l_same cd_l_same ct_l_same), sl_l_same⟩)
    (c_l_same : PySem.W.codeIn K cd_l_same "_law_same" = true)
    (k_l_same : PySem.W.keepIn K (.ref f_l_same) = true)
    (a_l_holders : PySem.W.nsIn K mainGlobals "_law_holders" = some (some (.ref f_l_holders)))
    (l_l_holders : K.lookup f_l_holders = some ⟨oc_l_holders, od_l_holders, .func (PySem.W.fnOf "_law_holders" "_law_holders" (defArgs s_l_holders) (defBody s_l_holders) (defScope s_l_holders) .none kV_l_holders dc_l_holders pm_l_holders an_l_holders cd_l_holders ct_l_holders), sl_l_holders⟩)
    (c_l_holders : PySem.W.codeIn K cd_l_holders "_law_holders" = true)
    (k_l_holders : PySem.W.keepIn K (.ref f_l_holders) = true)
    (a_l_holder : PySem.W.nsIn K mainGlobals "_law_holder" = some (some (.ref f_l_holder)))
    (l_l_holder : K.lookup f_l_holder = some ⟨oc_l_holder, od_l_holder, .func (PySem.W.fnOf "_law_holder" "_law_holder" (defArgs s_l_holder) (defBody s_l_holder) (defScope s_l_holder) .none kV_l_holder dc_l_holder pm_l_holder an_l_holder cd_l_holder ct_l_holder), sl_l_holder⟩)
    (c_l_holder : PySem.W.codeIn K cd_l_holder "_law_holder" = true)
    (k_l_holder : PySem.W.keepIn K (.ref f_l_holder) = true)
    (a_l_word : PySem.W.nsIn K mainGlobals "_law_word" = some (some (.ref f_l_word)))
    (l_l_word : K.lookup f_l_word = some ⟨oc_l_word, od_l_word, .func (PySem.W.fnOf "_law_word" "_law_word" (defArgs s_l_word) (defBody s_l_word) (defScope s_l_word) .none kV_l_word dc_l_word pm_l_word an_l_word cd_l_word ct_l_word), sl_l_word⟩)
    (c_l_word : PySem.W.codeIn K cd_l_word "_law_word" = true)
    (k_l_word : PySem.W.keepIn K (.ref f_l_word) = true)
    (a_l_other_word : PySem.W.nsIn K mainGlobals "_law_other_word" = some (some (.ref f_l_other_word)))
    (l_l_other_word : K.lookup f_l_other_word = some ⟨oc_l_other_word, od_l_other_word, .func (PySem.W.fnOf "_law_other_word" "_law_other_word" (defArgs s_l_other_word) (defBody s_l_other_word) (defScope s_l_other_word) .none kV_l_other_word dc_l_other_word pm_l_other_word an_l_other_word cd_l_other_word ct_l_other_word), sl_l_other_word⟩)
    (c_l_other_word : PySem.W.codeIn K cd_l_other_word "_law_other_word" = true)
    (k_l_other_word : PySem.W.keepIn K (.ref f_l_other_word) = true)
    (a_l_blank : PySem.W.nsIn K mainGlobals "_law_blank" = some (some (.ref f_l_blank)))
    (l_l_blank : K.lookup f_l_blank = some ⟨oc_l_blank, od_l_blank, .func (PySem.W.fnOf "_law_blank" "_law_blank" (defArgs s_l_blank) (defBody s_l_blank) (defScope s_l_blank) .none kV_l_blank dc_l_blank pm_l_blank an_l_blank cd_l_blank ct_l_blank), sl_l_blank⟩)
    (c_l_blank : PySem.W.codeIn K cd_l_blank "_law_blank" = true)
    (k_l_blank : PySem.W.keepIn K (.ref f_l_blank) = true)
    (a_l_ground_args : PySem.W.nsIn K mainGlobals "_law_ground_args" = some (some (.ref f_l_ground_args)))
    (l_l_ground_args : K.lookup f_l_ground_args = some ⟨oc_l_ground_args, od_l_ground_args, .func (PySem.W.fnOf "_law_ground_args" "_law_ground_args" (defArgs s_l_ground_args) (defBody s_l_ground_args) (defScope s_l_ground_args) .none kV_l_ground_args dc_l_ground_args pm_l_ground_args an_l_ground_args cd_l_ground_args ct_l_ground_args), sl_l_ground_args⟩)
    (c_l_ground_args : PySem.W.codeIn K cd_l_ground_args "_law_ground_args" = true)
    (k_l_ground_args : PySem.W.keepIn K (.ref f_l_ground_args) = true)
    (a_l_ground_deed : PySem.W.nsIn K mainGlobals "_law_ground_deed" = some (some (.ref f_l_ground_deed)))
    (l_l_ground_deed : K.lookup f_l_ground_deed = some ⟨oc_l_ground_deed, od_l_ground_deed, .func (PySem.W.fnOf "_law_ground_deed" "_law_ground_deed" (defArgs s_l_ground_deed) (defBody s_l_ground_deed) (defScope s_l_ground_deed) .none kV_l_ground_deed dc_l_ground_deed pm_l_ground_deed an_l_ground_deed cd_l_ground_deed ct_l_ground_deed), sl_l_ground_deed⟩)
    (c_l_ground_deed : PySem.W.codeIn K cd_l_ground_deed "_law_ground_deed" = true)
    (k_l_ground_deed : PySem.W.keepIn K (.ref f_l_ground_deed) = true)
    (a_l_deed_due : PySem.W.nsIn K mainGlobals "_law_deed_due" = some (some (.ref f_l_deed_due)))
    (l_l_deed_due : K.lookup f_l_deed_due = some ⟨oc_l_deed_due, od_l_deed_due, .func (PySem.W.fnOf "_law_deed_due" "_law_deed_due" (defArgs s_l_deed_due) (defBody s_l_deed_due) (defScope s_l_deed_due) .none kV_l_deed_due dc_l_deed_due pm_l_deed_due an_l_deed_due cd_l_deed_due ct_l_deed_due), sl_l_deed_due⟩)
    (c_l_deed_due : PySem.W.codeIn K cd_l_deed_due "_law_deed_due" = true)
    (k_l_deed_due : PySem.W.keepIn K (.ref f_l_deed_due) = true)
    (a_l_deed_made : PySem.W.nsIn K mainGlobals "_law_deed_made" = some (some (.ref f_l_deed_made)))
    (l_l_deed_made : K.lookup f_l_deed_made = some ⟨oc_l_deed_made, od_l_deed_made, .func (PySem.W.fnOf "_law_deed_made" "_law_deed_made" (defArgs s_l_deed_made) (defBody s_l_deed_made) (defScope s_l_deed_made) .none kV_l_deed_made dc_l_deed_made pm_l_deed_made an_l_deed_made cd_l_deed_made ct_l_deed_made), sl_l_deed_made⟩)
    (c_l_deed_made : PySem.W.codeIn K cd_l_deed_made "_law_deed_made" = true)
    (k_l_deed_made : PySem.W.keepIn K (.ref f_l_deed_made) = true)
    (a_l_told : PySem.W.nsIn K mainGlobals "_law_told" = some (some (.ref f_l_told)))
    (l_l_told : K.lookup f_l_told = some ⟨oc_l_told, od_l_told, .func (PySem.W.fnOf "_law_told" "_law_told" (defArgs s_l_told) (defBody s_l_told) (defScope s_l_told) .none kV_l_told dc_l_told pm_l_told an_l_told cd_l_told ct_l_told), sl_l_told⟩)
    (c_l_told : PySem.W.codeIn K cd_l_told "_law_told" = true)
    (k_l_told : PySem.W.keepIn K (.ref f_l_told) = true)
    (a_l_is_image_of : PySem.W.nsIn K mainGlobals "_law_is_image_of" = some (some (.ref f_l_is_image_of)))
    (l_l_is_image_of : K.lookup f_l_is_image_of = some ⟨oc_l_is_image_of, od_l_is_image_of, .func (PySem.W.fnOf "_law_is_image_of" "_law_is_image_of" (defArgs s_l_is_image_of) (defBody s_l_is_image_of) (defScope s_l_is_image_of) .none kV_l_is_image_of dc_l_is_image_of pm_l_is_image_of an_l_is_image_of cd_l_is_image_of ct_l_is_image_of), sl_l_is_image_of⟩)
    (c_l_is_image_of : PySem.W.codeIn K cd_l_is_image_of "_law_is_image_of" = true)
    (k_l_is_image_of : PySem.W.keepIn K (.ref f_l_is_image_of) = true)
    (a_l_made : PySem.W.nsIn K mainGlobals "_law_made" = some (some (.ref f_l_made)))
    (l_l_made : K.lookup f_l_made = some ⟨oc_l_made, od_l_made, .func (PySem.W.fnOf "_law_made" "_law_made" (defArgs s_l_made) (defBody s_l_made) (defScope s_l_made) .none kV_l_made dc_l_made pm_l_made an_l_made cd_l_made ct_l_made), sl_l_made⟩)
    (c_l_made : PySem.W.codeIn K cd_l_made "_law_made" = true)
    (k_l_made : PySem.W.keepIn K (.ref f_l_made) = true)
    (a_l_side : PySem.W.nsIn K mainGlobals "_law_side" = some (some (.ref f_l_side)))
    (l_l_side : K.lookup f_l_side = some ⟨oc_l_side, od_l_side, .func (PySem.W.fnOf "_law_side" "_law_side" (defArgs s_l_side) (defBody s_l_side) (defScope s_l_side) .none kV_l_side dc_l_side pm_l_side an_l_side cd_l_side ct_l_side), sl_l_side⟩)
    (c_l_side : PySem.W.codeIn K cd_l_side "_law_side" = true)
    (k_l_side : PySem.W.keepIn K (.ref f_l_side) = true)
    (a_l_differing : PySem.W.nsIn K mainGlobals "_law_differing" = some (some (.ref f_l_differing)))
    (l_l_differing : K.lookup f_l_differing = some ⟨oc_l_differing, od_l_differing, .func (PySem.W.fnOf "_law_differing" "_law_differing" (defArgs s_l_differing) (defBody s_l_differing) (defScope s_l_differing) .none kV_l_differing dc_l_differing pm_l_differing an_l_differing cd_l_differing ct_l_differing), sl_l_differing⟩)
    (c_l_differing : PySem.W.codeIn K cd_l_differing "_law_differing" = true)
    (k_l_differing : PySem.W.keepIn K (.ref f_l_differing) = true)
    (a_l_step : PySem.W.nsIn K mainGlobals "_law_step" = some (some (.ref f_l_step)))
    (l_l_step : K.lookup f_l_step = some ⟨oc_l_step, od_l_step, .func (PySem.W.fnOf "_law_step" "_law_step" (defArgs s_l_step) (defBody s_l_step) (defScope s_l_step) .none kV_l_step dc_l_step pm_l_step an_l_step cd_l_step ct_l_step), sl_l_step⟩)
    (c_l_step : PySem.W.codeIn K cd_l_step "_law_step" = true)
    (k_l_step : PySem.W.keepIn K (.ref f_l_step) = true)
    (a_l_played : PySem.W.nsIn K mainGlobals "_law_played" = some (some (.ref f_l_played)))
    (l_l_played : K.lookup f_l_played = some ⟨oc_l_played, od_l_played, .func (PySem.W.fnOf "_law_played" "_law_played" (defArgs s_l_played) (defBody s_l_played) (defScope s_l_played) .none kV_l_played dc_l_played pm_l_played an_l_played cd_l_played ct_l_played), sl_l_played⟩)
    (c_l_played : PySem.W.codeIn K cd_l_played "_law_played" = true)
    (k_l_played : PySem.W.keepIn K (.ref f_l_played) = true)
    (a_l_charged : PySem.W.nsIn K mainGlobals "_law_charged" = some (some (.ref f_l_charged)))
    (l_l_charged : K.lookup f_l_charged = some ⟨oc_l_charged, od_l_charged, .func (PySem.W.fnOf "_law_charged" "_law_charged" (defArgs s_l_charged) (defBody s_l_charged) (defScope s_l_charged) .none kV_l_charged dc_l_charged pm_l_charged an_l_charged cd_l_charged ct_l_charged), sl_l_charged⟩)
    (c_l_charged : PySem.W.codeIn K cd_l_charged "_law_charged" = true)
    (k_l_charged : PySem.W.keepIn K (.ref f_l_charged) = true)
    (a_l_step_due : PySem.W.nsIn K mainGlobals "_law_step_due" = some (some (.ref f_l_step_due)))
    (l_l_step_due : K.lookup f_l_step_due = some ⟨oc_l_step_due, od_l_step_due, .func (PySem.W.fnOf "_law_step_due" "_law_step_due" (defArgs s_l_step_due) (defBody s_l_step_due) (defScope s_l_step_due) .none kV_l_step_due dc_l_step_due pm_l_step_due an_l_step_due cd_l_step_due ct_l_step_due), sl_l_step_due⟩)
    (c_l_step_due : PySem.W.codeIn K cd_l_step_due "_law_step_due" = true)
    (k_l_step_due : PySem.W.keepIn K (.ref f_l_step_due) = true)
    (a_l_stands : PySem.W.nsIn K mainGlobals "_law_stands" = some (some (.ref f_l_stands)))
    (l_l_stands : K.lookup f_l_stands = some ⟨oc_l_stands, od_l_stands, .func (PySem.W.fnOf "_law_stands" "_law_stands" (defArgs s_l_stands) (defBody s_l_stands) (defScope s_l_stands) .none kV_l_stands dc_l_stands pm_l_stands an_l_stands cd_l_stands ct_l_stands), sl_l_stands⟩)
    (c_l_stands : PySem.W.codeIn K cd_l_stands "_law_stands" = true)
    (k_l_stands : PySem.W.keepIn K (.ref f_l_stands) = true)
    (a_l_image_stands : PySem.W.nsIn K mainGlobals "_law_image_stands" = some (some (.ref f_l_image_stands)))
    (l_l_image_stands : K.lookup f_l_image_stands = some ⟨oc_l_image_stands, od_l_image_stands, .func (PySem.W.fnOf "_law_image_stands" "_law_image_stands" (defArgs s_l_image_stands) (defBody s_l_image_stands) (defScope s_l_image_stands) .none kV_l_image_stands dc_l_image_stands pm_l_image_stands an_l_image_stands cd_l_image_stands ct_l_image_stands), sl_l_image_stands⟩)
    (c_l_image_stands : PySem.W.codeIn K cd_l_image_stands "_law_image_stands" = true)
    (k_l_image_stands : PySem.W.keepIn K (.ref f_l_image_stands) = true)
    (a_l_near_step : PySem.W.nsIn K mainGlobals "_law_near_step" = some (some (.ref f_l_near_step)))
    (l_l_near_step : K.lookup f_l_near_step = some ⟨oc_l_near_step, od_l_near_step, .func (PySem.W.fnOf "_law_near_step" "_law_near_step" (defArgs s_l_near_step) (defBody s_l_near_step) (defScope s_l_near_step) .none kV_l_near_step dc_l_near_step pm_l_near_step an_l_near_step cd_l_near_step ct_l_near_step), sl_l_near_step⟩)
    (c_l_near_step : PySem.W.codeIn K cd_l_near_step "_law_near_step" = true)
    (k_l_near_step : PySem.W.keepIn K (.ref f_l_near_step) = true)
    (a_l_kept : PySem.W.nsIn K mainGlobals "_law_kept" = some (some (.ref f_l_kept)))
    (l_l_kept : K.lookup f_l_kept = some ⟨oc_l_kept, od_l_kept, .func (PySem.W.fnOf "_law_kept" "_law_kept" (defArgs s_l_kept) (defBody s_l_kept) (defScope s_l_kept) .none kV_l_kept dc_l_kept pm_l_kept an_l_kept cd_l_kept ct_l_kept), sl_l_kept⟩)
    (c_l_kept : PySem.W.codeIn K cd_l_kept "_law_kept" = true)
    (k_l_kept : PySem.W.keepIn K (.ref f_l_kept) = true)
    (a_l_law : PySem.W.nsIn K mainGlobals "law" = some (some (.ref f_l_law)))
    (l_l_law : K.lookup f_l_law = some ⟨oc_l_law, od_l_law, .func (PySem.W.fnOf "law" "law" (defArgs s_l_law) (defBody s_l_law) (defScope s_l_law) .none kV_l_law dc_l_law pm_l_law an_l_law cd_l_law ct_l_law), sl_l_law⟩)
    (c_l_law : PySem.W.codeIn K cd_l_law "law" = true)
    (k_l_law : PySem.W.keepIn K (.ref f_l_law) = true)
    (kd_Ground : kV_c_Ground_init = .ref D_Ground)
    (kx_Ground_fill : PySem.W.nsIn K D_Ground "fill" = some (some kv_Ground_fill))
    (kr_Ground_fill : RelV (.int 0) kv_Ground_fill)
    (kx_Ground_budget : PySem.W.nsIn K D_Ground "budget" = some (some kv_Ground_budget))
    (kr_Ground_budget : RelV .non kv_Ground_budget)
    (z_ValueError : PySem.W.nsIn K mainGlobals "ValueError" = some none)
    (z_bool : PySem.W.nsIn K mainGlobals "bool" = some none)
    (z_dict : PySem.W.nsIn K mainGlobals "dict" = some none)
    (z_int : PySem.W.nsIn K mainGlobals "int" = some none)
    (z_isinstance : PySem.W.nsIn K mainGlobals "isinstance" = some none)
    (z_len : PySem.W.nsIn K mainGlobals "len" = some none)
    (z_list : PySem.W.nsIn K mainGlobals "list" = some none)
    (z_max : PySem.W.nsIn K mainGlobals "max" = some none)
    (z_min : PySem.W.nsIn K mainGlobals "min" = some none)
    (z_range : PySem.W.nsIn K mainGlobals "range" = some none)
    (z_str : PySem.W.nsIn K mainGlobals "str" = some none)
    (z_tuple : PySem.W.nsIn K mainGlobals "tuple" = some none)
    (g_MAP : PySem.W.nsIn K mainGlobals "MAP" = some (some v_MAP))
    (r_MAP : RelV (.int 21) v_MAP)
    (g_MOST_BUDGET : PySem.W.nsIn K mainGlobals "MOST_BUDGET" = some (some v_MOST_BUDGET))
    (r_MOST_BUDGET : RelV (.int 1000000000) v_MOST_BUDGET)
    (g_MOST_PAGES : PySem.W.nsIn K mainGlobals "MOST_PAGES" = some (some v_MOST_PAGES))
    (r_MOST_PAGES : RelV (.int 256) v_MOST_PAGES)
    (g_MOST_WORD : PySem.W.nsIn K mainGlobals "MOST_WORD" = some (some v_MOST_WORD))
    (r_MOST_WORD : RelV (.int 65535) v_MOST_WORD)
    (g_NOBODY : PySem.W.nsIn K mainGlobals "NOBODY" = some (some v_NOBODY))
    (r_NOBODY : RelV (.int 0) v_NOBODY)
    (g_NODE : PySem.W.nsIn K mainGlobals "NODE" = some (some v_NODE))
    (r_NODE : RelV (.int 28) v_NODE)
    (g_WIDTHS : PySem.W.nsIn K mainGlobals "WIDTHS" = some (some (.ref X_WIDTHS)))
    (u_WIDTHS : KTup K X_WIDTHS [16, 32, 64])
    (sa_StoreError : PySem.W.findIn K (.ref C_StoreError) "__setattr__" = some (some (.builtin "object.__setattr__")))
    (ga_StoreError : PySem.W.findIn K (.ref C_StoreError) "__getattribute__" = some (some (.builtin "BaseException.__getattribute__")))
    (gg_StoreError : PySem.W.findIn K (.ref C_StoreError) "__getattr__" = some none)
    (cc_StoreError : PySem.W.findIn K (.ref C_StoreError) "__class__" = some (some (.builtin "object.__class__")))
    (eb_StoreError : PySem.W.subIn K (.ref C_StoreError) (.type "BaseException") = some true)
    (ty_StoreError : PySem.W.typeIn K (.ref C_StoreError) = some (.type "type"))
    (kp_StoreError : PySem.W.keepIn K (.ref C_StoreError) = true)
    (hd_StoreError : PySem.W.hasDictIn K C_StoreError = true)
    (mo_StoreError : PySem.W.mroIn K C_StoreError (.type "object") = some true)
    (sa_BadValue : PySem.W.findIn K (.ref C_BadValue) "__setattr__" = some (some (.builtin "object.__setattr__")))
    (ga_BadValue : PySem.W.findIn K (.ref C_BadValue) "__getattribute__" = some (some (.builtin "BaseException.__getattribute__")))
    (gg_BadValue : PySem.W.findIn K (.ref C_BadValue) "__getattr__" = some none)
    (cc_BadValue : PySem.W.findIn K (.ref C_BadValue) "__class__" = some (some (.builtin "object.__class__")))
    (eb_BadValue : PySem.W.subIn K (.ref C_BadValue) (.type "BaseException") = some true)
    (ty_BadValue : PySem.W.typeIn K (.ref C_BadValue) = some (.type "type"))
    (kp_BadValue : PySem.W.keepIn K (.ref C_BadValue) = true)
    (hd_BadValue : PySem.W.hasDictIn K C_BadValue = true)
    (mo_BadValue : PySem.W.mroIn K C_BadValue (.type "object") = some true)
    (sa_Broken : PySem.W.findIn K (.ref C_Broken) "__setattr__" = some (some (.builtin "object.__setattr__")))
    (ga_Broken : PySem.W.findIn K (.ref C_Broken) "__getattribute__" = some (some (.builtin "BaseException.__getattribute__")))
    (gg_Broken : PySem.W.findIn K (.ref C_Broken) "__getattr__" = some none)
    (cc_Broken : PySem.W.findIn K (.ref C_Broken) "__class__" = some (some (.builtin "object.__class__")))
    (eb_Broken : PySem.W.subIn K (.ref C_Broken) (.type "BaseException") = some true)
    (ty_Broken : PySem.W.typeIn K (.ref C_Broken) = some (.type "type"))
    (kp_Broken : PySem.W.keepIn K (.ref C_Broken) = true)
    (hd_Broken : PySem.W.hasDictIn K C_Broken = true)
    (mo_Broken : PySem.W.mroIn K C_Broken (.type "object") = some true)
    (sa_Unknown : PySem.W.findIn K (.ref C_Unknown) "__setattr__" = some (some (.builtin "object.__setattr__")))
    (ga_Unknown : PySem.W.findIn K (.ref C_Unknown) "__getattribute__" = some (some (.builtin "BaseException.__getattribute__")))
    (gg_Unknown : PySem.W.findIn K (.ref C_Unknown) "__getattr__" = some none)
    (cc_Unknown : PySem.W.findIn K (.ref C_Unknown) "__class__" = some (some (.builtin "object.__class__")))
    (eb_Unknown : PySem.W.subIn K (.ref C_Unknown) (.type "BaseException") = some true)
    (ty_Unknown : PySem.W.typeIn K (.ref C_Unknown) = some (.type "type"))
    (kp_Unknown : PySem.W.keepIn K (.ref C_Unknown) = true)
    (hd_Unknown : PySem.W.hasDictIn K C_Unknown = true)
    (mo_Unknown : PySem.W.mroIn K C_Unknown (.type "object") = some true)
    (sa_NotHeld : PySem.W.findIn K (.ref C_NotHeld) "__setattr__" = some (some (.builtin "object.__setattr__")))
    (ga_NotHeld : PySem.W.findIn K (.ref C_NotHeld) "__getattribute__" = some (some (.builtin "BaseException.__getattribute__")))
    (gg_NotHeld : PySem.W.findIn K (.ref C_NotHeld) "__getattr__" = some none)
    (cc_NotHeld : PySem.W.findIn K (.ref C_NotHeld) "__class__" = some (some (.builtin "object.__class__")))
    (eb_NotHeld : PySem.W.subIn K (.ref C_NotHeld) (.type "BaseException") = some true)
    (ty_NotHeld : PySem.W.typeIn K (.ref C_NotHeld) = some (.type "type"))
    (kp_NotHeld : PySem.W.keepIn K (.ref C_NotHeld) = true)
    (hd_NotHeld : PySem.W.hasDictIn K C_NotHeld = true)
    (mo_NotHeld : PySem.W.mroIn K C_NotHeld (.type "object") = some true)
    (sa_Fault : PySem.W.findIn K (.ref C_Fault) "__setattr__" = some (some (.builtin "object.__setattr__")))
    (ga_Fault : PySem.W.findIn K (.ref C_Fault) "__getattribute__" = some (some (.builtin "BaseException.__getattribute__")))
    (gg_Fault : PySem.W.findIn K (.ref C_Fault) "__getattr__" = some none)
    (cc_Fault : PySem.W.findIn K (.ref C_Fault) "__class__" = some (some (.builtin "object.__class__")))
    (eb_Fault : PySem.W.subIn K (.ref C_Fault) (.type "BaseException") = some true)
    (ty_Fault : PySem.W.typeIn K (.ref C_Fault) = some (.type "type"))
    (kp_Fault : PySem.W.keepIn K (.ref C_Fault) = true)
    (hd_Fault : PySem.W.hasDictIn K C_Fault = true)
    (mo_Fault : PySem.W.mroIn K C_Fault (.type "object") = some true)
    (sa_NoRoom : PySem.W.findIn K (.ref C_NoRoom) "__setattr__" = some (some (.builtin "object.__setattr__")))
    (ga_NoRoom : PySem.W.findIn K (.ref C_NoRoom) "__getattribute__" = some (some (.builtin "BaseException.__getattribute__")))
    (gg_NoRoom : PySem.W.findIn K (.ref C_NoRoom) "__getattr__" = some none)
    (cc_NoRoom : PySem.W.findIn K (.ref C_NoRoom) "__class__" = some (some (.builtin "object.__class__")))
    (eb_NoRoom : PySem.W.subIn K (.ref C_NoRoom) (.type "BaseException") = some true)
    (ty_NoRoom : PySem.W.typeIn K (.ref C_NoRoom) = some (.type "type"))
    (kp_NoRoom : PySem.W.keepIn K (.ref C_NoRoom) = true)
    (hd_NoRoom : PySem.W.hasDictIn K C_NoRoom = true)
    (mo_NoRoom : PySem.W.mroIn K C_NoRoom (.type "object") = some true)
    (sa_Cut : PySem.W.findIn K (.ref C_Cut) "__setattr__" = some (some (.builtin "object.__setattr__")))
    (ga_Cut : PySem.W.findIn K (.ref C_Cut) "__getattribute__" = some (some (.builtin "BaseException.__getattribute__")))
    (gg_Cut : PySem.W.findIn K (.ref C_Cut) "__getattr__" = some none)
    (cc_Cut : PySem.W.findIn K (.ref C_Cut) "__class__" = some (some (.builtin "object.__class__")))
    (eb_Cut : PySem.W.subIn K (.ref C_Cut) (.type "BaseException") = some true)
    (ty_Cut : PySem.W.typeIn K (.ref C_Cut) = some (.type "type"))
    (kp_Cut : PySem.W.keepIn K (.ref C_Cut) = true)
    (hd_Cut : PySem.W.hasDictIn K C_Cut = true)
    (mo_Cut : PySem.W.mroIn K C_Cut (.type "object") = some true)
    (sa_BadLine : PySem.W.findIn K (.ref C_BadLine) "__setattr__" = some (some (.builtin "object.__setattr__")))
    (ga_BadLine : PySem.W.findIn K (.ref C_BadLine) "__getattribute__" = some (some (.builtin "BaseException.__getattribute__")))
    (gg_BadLine : PySem.W.findIn K (.ref C_BadLine) "__getattr__" = some none)
    (cc_BadLine : PySem.W.findIn K (.ref C_BadLine) "__class__" = some (some (.builtin "object.__class__")))
    (eb_BadLine : PySem.W.subIn K (.ref C_BadLine) (.type "BaseException") = some true)
    (ty_BadLine : PySem.W.typeIn K (.ref C_BadLine) = some (.type "type"))
    (kp_BadLine : PySem.W.keepIn K (.ref C_BadLine) = true)
    (hd_BadLine : PySem.W.hasDictIn K C_BadLine = true)
    (mo_BadLine : PySem.W.mroIn K C_BadLine (.type "object") = some true)
    (x_BadValue : K.lookup C_BadValue = some (excClassObj nm_BadValue qn_BadValue C_BadValue N_BadValue bs_BadValue [.ref C_StoreError, .type "ValueError", .type "Exception", .type "BaseException", .type "object"] true sn_BadValue sub_BadValue ab_BadValue col_BadValue dd_BadValue m0_BadValue m1_BadValue m2_BadValue m3_BadValue m5_BadValue "ValueError.__new__"))
    (nf_BadValue_parameter : PySem.W.findIn K (.ref C_BadValue) "parameter" = some none)
    (nf_BadValue_told : PySem.W.findIn K (.ref C_BadValue) "told" = some none)
    (x_Broken : K.lookup C_Broken = some (excClassObj nm_Broken qn_Broken C_Broken N_Broken bs_Broken [.ref C_StoreError, .type "ValueError", .type "Exception", .type "BaseException", .type "object"] true sn_Broken sub_Broken ab_Broken col_Broken dd_Broken m0_Broken m1_Broken m2_Broken m3_Broken m5_Broken "ValueError.__new__"))
    (nf_Broken_told : PySem.W.findIn K (.ref C_Broken) "told" = some none)
    (nf_Broken_place : PySem.W.findIn K (.ref C_Broken) "place" = some none)
    (nf_Broken_found : PySem.W.findIn K (.ref C_Broken) "found" = some none)
    (nf_Broken_due : PySem.W.findIn K (.ref C_Broken) "due" = some none)
    (x_Unknown : K.lookup C_Unknown = some (excClassObj nm_Unknown qn_Unknown C_Unknown N_Unknown bs_Unknown [.ref C_StoreError, .type "ValueError", .type "Exception", .type "BaseException", .type "object"] true sn_Unknown sub_Unknown ab_Unknown col_Unknown dd_Unknown m0_Unknown m1_Unknown m2_Unknown m3_Unknown m5_Unknown "ValueError.__new__"))
    (nf_Unknown_told : PySem.W.findIn K (.ref C_Unknown) "told" = some none)
    (nf_Unknown_parameter : PySem.W.findIn K (.ref C_Unknown) "parameter" = some none)
    (x_NotHeld : K.lookup C_NotHeld = some (excClassObj nm_NotHeld qn_NotHeld C_NotHeld N_NotHeld bs_NotHeld [.ref C_StoreError, .type "ValueError", .type "Exception", .type "BaseException", .type "object"] true sn_NotHeld sub_NotHeld ab_NotHeld col_NotHeld dd_NotHeld m0_NotHeld m1_NotHeld m2_NotHeld m3_NotHeld m5_NotHeld "ValueError.__new__"))
    (nf_NotHeld_told : PySem.W.findIn K (.ref C_NotHeld) "told" = some none)
    (nf_NotHeld_place : PySem.W.findIn K (.ref C_NotHeld) "place" = some none)
    (nf_NotHeld_found : PySem.W.findIn K (.ref C_NotHeld) "found" = some none)
    (x_Fault : K.lookup C_Fault = some (excClassObj nm_Fault qn_Fault C_Fault N_Fault bs_Fault [.ref C_StoreError, .type "ValueError", .type "Exception", .type "BaseException", .type "object"] true sn_Fault sub_Fault ab_Fault col_Fault dd_Fault m0_Fault m1_Fault m2_Fault m3_Fault m5_Fault "ValueError.__new__"))
    (nf_Fault_told : PySem.W.findIn K (.ref C_Fault) "told" = some none)
    (nf_Fault_kind : PySem.W.findIn K (.ref C_Fault) "kind" = some none)
    (nf_Fault_place : PySem.W.findIn K (.ref C_Fault) "place" = some none)
    (x_NoRoom : K.lookup C_NoRoom = some (excClassObj nm_NoRoom qn_NoRoom C_NoRoom N_NoRoom bs_NoRoom [.ref C_StoreError, .type "ValueError", .type "Exception", .type "BaseException", .type "object"] true sn_NoRoom sub_NoRoom ab_NoRoom col_NoRoom dd_NoRoom m0_NoRoom m1_NoRoom m2_NoRoom m3_NoRoom m5_NoRoom "ValueError.__new__"))
    (nf_NoRoom_told : PySem.W.findIn K (.ref C_NoRoom) "told" = some none)
    (nf_NoRoom_paper : PySem.W.findIn K (.ref C_NoRoom) "paper" = some none)
    (x_Cut : K.lookup C_Cut = some (excClassObj nm_Cut qn_Cut C_Cut N_Cut bs_Cut [.ref C_StoreError, .type "ValueError", .type "Exception", .type "BaseException", .type "object"] true sn_Cut sub_Cut ab_Cut col_Cut dd_Cut m0_Cut m1_Cut m2_Cut m3_Cut m5_Cut "ValueError.__new__"))
    (nf_Cut_told : PySem.W.findIn K (.ref C_Cut) "told" = some none)
    (nf_Cut_needed : PySem.W.findIn K (.ref C_Cut) "needed" = some none)
    (nf_Cut_left : PySem.W.findIn K (.ref C_Cut) "left" = some none)
    (x_BadLine : K.lookup C_BadLine = some (excClassObj nm_BadLine qn_BadLine C_BadLine N_BadLine bs_BadLine [.ref C_StoreError, .type "ValueError", .type "Exception", .type "BaseException", .type "object"] true sn_BadLine sub_BadLine ab_BadLine col_BadLine dd_BadLine m0_BadLine m1_BadLine m2_BadLine m3_BadLine m5_BadLine "ValueError.__new__"))
    (nf_BadLine_told : PySem.W.findIn K (.ref C_BadLine) "told" = some none)
    (nf_BadLine_line : PySem.W.findIn K (.ref C_BadLine) "line" = some none)
    (nf_BadLine_column : PySem.W.findIn K (.ref C_BadLine) "column" = some none)
    (pg_Ground : PySem.W.plainGet K C_Ground Str.empty = true)
    (hd_Ground : PySem.W.hasDictIn K C_Ground = true)
    (po_Ground : PySem.W.plainOver K C_Ground = true)
    (sa_Ground : PySem.W.findIn K (.ref C_Ground) "__setattr__" = some (some (.builtin "object.__setattr__")))
    (kp_Ground : PySem.W.keepIn K (.ref C_Ground) = true)
    (mi_Ground : PySem.W.makesIn K C_Ground = true)
    (na_Ground_pages : PySem.W.findIn K (.ref C_Ground) "pages" = some none)
    (na_Ground_width : PySem.W.findIn K (.ref C_Ground) "width" = some none)
    (na_Ground_fill : PySem.W.findIn K (.ref C_Ground) "fill" = some none)
    (na_Ground_allowance : PySem.W.findIn K (.ref C_Ground) "allowance" = some none)
    (na_Ground_charged : PySem.W.findIn K (.ref C_Ground) "charged" = some none)
    (na_Ground_cell_words : PySem.W.findIn K (.ref C_Ground) "cell_words" = some none)
    (na_Ground_cell_holders : PySem.W.findIn K (.ref C_Ground) "cell_holders" = some none)
    (na_Ground_open_deeds : PySem.W.findIn K (.ref C_Ground) "open_deeds" = some none)
    (sp1 : PySem.W.specialIn K (.builtin "object.__class__") "__get__" = some (some (.builtin "getset_descriptor.__get__")))
    (sp2 : PySem.W.takesIn K (.builtin "object.__class__") = some true)
    (kit_BadValue_StoreError : PySem.W.kitOne K (.ref C_BadValue) (.ref C_StoreError) = some true)
    (kit_BadValue_ValueError : PySem.W.kitOne K (.ref C_BadValue) (.type "ValueError") = some true)
    (kit_Broken_StoreError : PySem.W.kitOne K (.ref C_Broken) (.ref C_StoreError) = some true)
    (kit_Broken_ValueError : PySem.W.kitOne K (.ref C_Broken) (.type "ValueError") = some true)
    (kit_Unknown_StoreError : PySem.W.kitOne K (.ref C_Unknown) (.ref C_StoreError) = some true)
    (kit_Unknown_ValueError : PySem.W.kitOne K (.ref C_Unknown) (.type "ValueError") = some true)
    (kit_NotHeld_StoreError : PySem.W.kitOne K (.ref C_NotHeld) (.ref C_StoreError) = some true)
    (kit_NotHeld_ValueError : PySem.W.kitOne K (.ref C_NotHeld) (.type "ValueError") = some true)
    (kit_Fault_StoreError : PySem.W.kitOne K (.ref C_Fault) (.ref C_StoreError) = some true)
    (kit_Fault_ValueError : PySem.W.kitOne K (.ref C_Fault) (.type "ValueError") = some true)
    (kit_NoRoom_StoreError : PySem.W.kitOne K (.ref C_NoRoom) (.ref C_StoreError) = some true)
    (kit_NoRoom_ValueError : PySem.W.kitOne K (.ref C_NoRoom) (.type "ValueError") = some true)
    (kit_Cut_StoreError : PySem.W.kitOne K (.ref C_Cut) (.ref C_StoreError) = some true)
    (kit_Cut_ValueError : PySem.W.kitOne K (.ref C_Cut) (.type "ValueError") = some true)
    (kit_BadLine_StoreError : PySem.W.kitOne K (.ref C_BadLine) (.ref C_StoreError) = some true)
    (kit_BadLine_ValueError : PySem.W.kitOne K (.ref C_BadLine) (.type "ValueError") = some true)
    (kit_BadValue_BadValue : PySem.W.kitOne K (.ref C_BadValue) (.ref C_BadValue) = some true)
    (kit_BadValue_Broken : PySem.W.kitOne K (.ref C_BadValue) (.ref C_Broken) = some false)
    (kit_BadValue_Unknown : PySem.W.kitOne K (.ref C_BadValue) (.ref C_Unknown) = some false)
    (kit_BadValue_NotHeld : PySem.W.kitOne K (.ref C_BadValue) (.ref C_NotHeld) = some false)
    (kit_BadValue_Fault : PySem.W.kitOne K (.ref C_BadValue) (.ref C_Fault) = some false)
    (kit_BadValue_NoRoom : PySem.W.kitOne K (.ref C_BadValue) (.ref C_NoRoom) = some false)
    (kit_BadValue_Cut : PySem.W.kitOne K (.ref C_BadValue) (.ref C_Cut) = some false)
    (kit_BadValue_BadLine : PySem.W.kitOne K (.ref C_BadValue) (.ref C_BadLine) = some false)
    (kit_Broken_BadValue : PySem.W.kitOne K (.ref C_Broken) (.ref C_BadValue) = some false)
    (kit_Broken_Broken : PySem.W.kitOne K (.ref C_Broken) (.ref C_Broken) = some true)
    (kit_Broken_Unknown : PySem.W.kitOne K (.ref C_Broken) (.ref C_Unknown) = some false)
    (kit_Broken_NotHeld : PySem.W.kitOne K (.ref C_Broken) (.ref C_NotHeld) = some false)
    (kit_Broken_Fault : PySem.W.kitOne K (.ref C_Broken) (.ref C_Fault) = some false)
    (kit_Broken_NoRoom : PySem.W.kitOne K (.ref C_Broken) (.ref C_NoRoom) = some false)
    (kit_Broken_Cut : PySem.W.kitOne K (.ref C_Broken) (.ref C_Cut) = some false)
    (kit_Broken_BadLine : PySem.W.kitOne K (.ref C_Broken) (.ref C_BadLine) = some false)
    (kit_Unknown_BadValue : PySem.W.kitOne K (.ref C_Unknown) (.ref C_BadValue) = some false)
    (kit_Unknown_Broken : PySem.W.kitOne K (.ref C_Unknown) (.ref C_Broken) = some false)
    (kit_Unknown_Unknown : PySem.W.kitOne K (.ref C_Unknown) (.ref C_Unknown) = some true)
    (kit_Unknown_NotHeld : PySem.W.kitOne K (.ref C_Unknown) (.ref C_NotHeld) = some false)
    (kit_Unknown_Fault : PySem.W.kitOne K (.ref C_Unknown) (.ref C_Fault) = some false)
    (kit_Unknown_NoRoom : PySem.W.kitOne K (.ref C_Unknown) (.ref C_NoRoom) = some false)
    (kit_Unknown_Cut : PySem.W.kitOne K (.ref C_Unknown) (.ref C_Cut) = some false)
    (kit_Unknown_BadLine : PySem.W.kitOne K (.ref C_Unknown) (.ref C_BadLine) = some false)
    (kit_NotHeld_BadValue : PySem.W.kitOne K (.ref C_NotHeld) (.ref C_BadValue) = some false)
    (kit_NotHeld_Broken : PySem.W.kitOne K (.ref C_NotHeld) (.ref C_Broken) = some false)
    (kit_NotHeld_Unknown : PySem.W.kitOne K (.ref C_NotHeld) (.ref C_Unknown) = some false)
    (kit_NotHeld_NotHeld : PySem.W.kitOne K (.ref C_NotHeld) (.ref C_NotHeld) = some true)
    (kit_NotHeld_Fault : PySem.W.kitOne K (.ref C_NotHeld) (.ref C_Fault) = some false)
    (kit_NotHeld_NoRoom : PySem.W.kitOne K (.ref C_NotHeld) (.ref C_NoRoom) = some false)
    (kit_NotHeld_Cut : PySem.W.kitOne K (.ref C_NotHeld) (.ref C_Cut) = some false)
    (kit_NotHeld_BadLine : PySem.W.kitOne K (.ref C_NotHeld) (.ref C_BadLine) = some false)
    (kit_Fault_BadValue : PySem.W.kitOne K (.ref C_Fault) (.ref C_BadValue) = some false)
    (kit_Fault_Broken : PySem.W.kitOne K (.ref C_Fault) (.ref C_Broken) = some false)
    (kit_Fault_Unknown : PySem.W.kitOne K (.ref C_Fault) (.ref C_Unknown) = some false)
    (kit_Fault_NotHeld : PySem.W.kitOne K (.ref C_Fault) (.ref C_NotHeld) = some false)
    (kit_Fault_Fault : PySem.W.kitOne K (.ref C_Fault) (.ref C_Fault) = some true)
    (kit_Fault_NoRoom : PySem.W.kitOne K (.ref C_Fault) (.ref C_NoRoom) = some false)
    (kit_Fault_Cut : PySem.W.kitOne K (.ref C_Fault) (.ref C_Cut) = some false)
    (kit_Fault_BadLine : PySem.W.kitOne K (.ref C_Fault) (.ref C_BadLine) = some false)
    (kit_NoRoom_BadValue : PySem.W.kitOne K (.ref C_NoRoom) (.ref C_BadValue) = some false)
    (kit_NoRoom_Broken : PySem.W.kitOne K (.ref C_NoRoom) (.ref C_Broken) = some false)
    (kit_NoRoom_Unknown : PySem.W.kitOne K (.ref C_NoRoom) (.ref C_Unknown) = some false)
    (kit_NoRoom_NotHeld : PySem.W.kitOne K (.ref C_NoRoom) (.ref C_NotHeld) = some false)
    (kit_NoRoom_Fault : PySem.W.kitOne K (.ref C_NoRoom) (.ref C_Fault) = some false)
    (kit_NoRoom_NoRoom : PySem.W.kitOne K (.ref C_NoRoom) (.ref C_NoRoom) = some true)
    (kit_NoRoom_Cut : PySem.W.kitOne K (.ref C_NoRoom) (.ref C_Cut) = some false)
    (kit_NoRoom_BadLine : PySem.W.kitOne K (.ref C_NoRoom) (.ref C_BadLine) = some false)
    (kit_Cut_BadValue : PySem.W.kitOne K (.ref C_Cut) (.ref C_BadValue) = some false)
    (kit_Cut_Broken : PySem.W.kitOne K (.ref C_Cut) (.ref C_Broken) = some false)
    (kit_Cut_Unknown : PySem.W.kitOne K (.ref C_Cut) (.ref C_Unknown) = some false)
    (kit_Cut_NotHeld : PySem.W.kitOne K (.ref C_Cut) (.ref C_NotHeld) = some false)
    (kit_Cut_Fault : PySem.W.kitOne K (.ref C_Cut) (.ref C_Fault) = some false)
    (kit_Cut_NoRoom : PySem.W.kitOne K (.ref C_Cut) (.ref C_NoRoom) = some false)
    (kit_Cut_Cut : PySem.W.kitOne K (.ref C_Cut) (.ref C_Cut) = some true)
    (kit_Cut_BadLine : PySem.W.kitOne K (.ref C_Cut) (.ref C_BadLine) = some false)
    (kit_BadLine_BadValue : PySem.W.kitOne K (.ref C_BadLine) (.ref C_BadValue) = some false)
    (kit_BadLine_Broken : PySem.W.kitOne K (.ref C_BadLine) (.ref C_Broken) = some false)
    (kit_BadLine_Unknown : PySem.W.kitOne K (.ref C_BadLine) (.ref C_Unknown) = some false)
    (kit_BadLine_NotHeld : PySem.W.kitOne K (.ref C_BadLine) (.ref C_NotHeld) = some false)
    (kit_BadLine_Fault : PySem.W.kitOne K (.ref C_BadLine) (.ref C_Fault) = some false)
    (kit_BadLine_NoRoom : PySem.W.kitOne K (.ref C_BadLine) (.ref C_NoRoom) = some false)
    (kit_BadLine_Cut : PySem.W.kitOne K (.ref C_BadLine) (.ref C_Cut) = some false)
    (kit_BadLine_BadLine : PySem.W.kitOne K (.ref C_BadLine) (.ref C_BadLine) = some true)
    (sub_BadValue_BadValue : PySem.W.subIn K (.ref C_BadValue) (.ref C_BadValue) = some true)
    (sub_Unknown_StoreError : PySem.W.subIn K (.ref C_Unknown) (.ref C_StoreError) = some true)
    (sub_NotHeld_StoreError : PySem.W.subIn K (.ref C_NotHeld) (.ref C_StoreError) = some true)
    (sub_Broken_StoreError : PySem.W.subIn K (.ref C_Broken) (.ref C_StoreError) = some true)
    (sub_Cut_StoreError : PySem.W.subIn K (.ref C_Cut) (.ref C_StoreError) = some true)
    : ∃ fd : FuncData, (∀ (s : Shared) (u : Value), BindsTo s fd ⟨[u], []⟩ [("_law_script", u)]) ∧ ∀ base : Heap, K.In base → base.Ns mainGlobals mg → FnOk P w K mg base CX0 11 fa fd ["_law_script"] (sp_end K) := by
  have e := hfa.symm.trans (PySem.W.mg_of X G a_l_law)
  cases e
  have F_c_BadValue_init := fun_mk (st := s_c_BadValue_init) l_c_BadValue_init c_c_BadValue_init k_c_BadValue_init
  have B_c_BadValue_init := F_c_BadValue_init.binds (ps := ["self", "parameter"]) fun _ _ _ _ _ _ us hl => match us, hl with | [_, _], _ => rfl
  have F_c_Broken_init := fun_mk (st := s_c_Broken_init) l_c_Broken_init c_c_Broken_init k_c_Broken_init
  have B_c_Broken_init := F_c_Broken_init.binds (ps := ["self", "place", "found", "due"]) fun _ _ _ _ _ _ us hl => match us, hl with | [_, _, _, _], _ => rfl
  have F_c_Unknown_init := fun_mk (st := s_c_Unknown_init) l_c_Unknown_init c_c_Unknown_init k_c_Unknown_init
  have B_c_Unknown_init := F_c_Unknown_init.binds (ps := ["self", "parameter"]) fun _ _ _ _ _ _ us hl => match us, hl with | [_, _], _ => rfl
  have F_c_NotHeld_init := fun_mk (st := s_c_NotHeld_init) l_c_NotHeld_init c_c_NotHeld_init k_c_NotHeld_init
  have B_c_NotHeld_init := F_c_NotHeld_init.binds (ps := ["self", "place", "found"]) fun _ _ _ _ _ _ us hl => match us, hl with | [_, _, _], _ => rfl
  have F_c_Cut_init := fun_mk (st := s_c_Cut_init) l_c_Cut_init c_c_Cut_init k_c_Cut_init
  have B_c_Cut_init := F_c_Cut_init.binds (ps := ["self", "needed", "left"]) fun _ _ _ _ _ _ us hl => match us, hl with | [_, _, _], _ => rfl
  have F_p_is_whole := fun_mk (st := s_p_is_whole) l_p_is_whole c_p_is_whole k_p_is_whole
  have B_p_is_whole := F_p_is_whole.binds (ps := ["value"]) fun _ _ _ _ _ _ us hl => match us, hl with | [_], _ => rfl
  have F_p_whole_between := fun_mk (st := s_p_whole_between) l_p_whole_between c_p_whole_between k_p_whole_between
  have B_p_whole_between := F_p_whole_between.binds (ps := ["value", "low", "high"]) fun _ _ _ _ _ _ us hl => match us, hl with | [_, _, _], _ => rfl
  have F_p_is_holder := fun_mk (st := s_p_is_holder) l_p_is_holder c_p_is_holder k_p_is_holder
  have B_p_is_holder := F_p_is_holder.binds (ps := ["value"]) fun _ _ _ _ _ _ us hl => match us, hl with | [_], _ => rfl
  have F_p_is_between := fun_mk (st := s_p_is_between) l_p_is_between c_p_is_between k_p_is_between
  have B_p_is_between := F_p_is_between.binds (ps := ["value", "low", "high"]) fun _ _ _ _ _ _ us hl => match us, hl with | [_, _, _], _ => rfl
  have F_p_is_width := fun_mk (st := s_p_is_width) l_p_is_width c_p_is_width k_p_is_width
  have B_p_is_width := F_p_is_width.binds (ps := ["value"]) fun _ _ _ _ _ _ us hl => match us, hl with | [_], _ => rfl
  have F_p_is_budget := fun_mk (st := s_p_is_budget) l_p_is_budget c_p_is_budget k_p_is_budget
  have B_p_is_budget := F_p_is_budget.binds (ps := ["value"]) fun _ _ _ _ _ _ us hl => match us, hl with | [_], _ => rfl
  have F_c_Ground_init := fun_mk (st := s_c_Ground_init) l_c_Ground_init c_c_Ground_init k_c_Ground_init
  have F_c_Ground_spent := fun_mk (st := s_c_Ground_spent) l_c_Ground_spent c_c_Ground_spent k_c_Ground_spent
  have B_c_Ground_spent := F_c_Ground_spent.binds (ps := ["self"]) fun _ _ _ _ _ _ us hl => match us, hl with | [_], _ => rfl
  have F_c_Ground_depth := fun_mk (st := s_c_Ground_depth) l_c_Ground_depth c_c_Ground_depth k_c_Ground_depth
  have B_c_Ground_depth := F_c_Ground_depth.binds (ps := ["self"]) fun _ _ _ _ _ _ us hl => match us, hl with | [_], _ => rfl
  have F_c_Ground_budget := fun_mk (st := s_c_Ground_budget) l_c_Ground_budget c_c_Ground_budget k_c_Ground_budget
  have B_c_Ground_budget := F_c_Ground_budget.binds (ps := ["self"]) fun _ _ _ _ _ _ us hl => match us, hl with | [_], _ => rfl
  have F_c_Ground_check_place := fun_mk (st := s_c_Ground_check_place) l_c_Ground_check_place c_c_Ground_check_place k_c_Ground_check_place
  have B_c_Ground_check_place := F_c_Ground_check_place.binds (ps := ["self", "place"]) fun _ _ _ _ _ _ us hl => match us, hl with | [_, _], _ => rfl
  have F_c_Ground_check_guard := fun_mk (st := s_c_Ground_check_guard) l_c_Ground_check_guard c_c_Ground_check_guard k_c_Ground_check_guard
  have B_c_Ground_check_guard := F_c_Ground_check_guard.binds (ps := ["self", "place", "holder"]) fun _ _ _ _ _ _ us hl => match us, hl with | [_, _, _], _ => rfl
  have F_c_Ground_write := fun_mk (st := s_c_Ground_write) l_c_Ground_write c_c_Ground_write k_c_Ground_write
  have B_c_Ground_write := F_c_Ground_write.binds (ps := ["self", "place", "word", "holder"]) fun _ _ _ _ _ _ us hl => match us, hl with | [_, _, _, _], _ => rfl
  have F_c_Ground_poke := fun_mk (st := s_c_Ground_poke) l_c_Ground_poke c_c_Ground_poke k_c_Ground_poke
  have B_c_Ground_poke := F_c_Ground_poke.binds (ps := ["self", "place", "word"]) fun _ _ _ _ _ _ us hl => match us, hl with | [_, _, _], _ => rfl
  have F_c_Ground_pass_on := fun_mk (st := s_c_Ground_pass_on) l_c_Ground_pass_on c_c_Ground_pass_on k_c_Ground_pass_on
  have B_c_Ground_pass_on := F_c_Ground_pass_on.binds (ps := ["self", "start", "size", "giver", "taker"]) fun _ _ _ _ _ _ us hl => match us, hl with | [_, _, _, _, _], _ => rfl
  have F_c_Ground_check_fill := fun_mk (st := s_c_Ground_check_fill) l_c_Ground_check_fill c_c_Ground_check_fill k_c_Ground_check_fill
  have B_c_Ground_check_fill := F_c_Ground_check_fill.binds (ps := ["self", "start", "size"]) fun _ _ _ _ _ _ us hl => match us, hl with | [_, _, _], _ => rfl
  have F_c_Ground_image := fun_mk (st := s_c_Ground_image) l_c_Ground_image c_c_Ground_image k_c_Ground_image
  have B_c_Ground_image := F_c_Ground_image.binds (ps := ["self"]) fun _ _ _ _ _ _ us hl => match us, hl with | [_], _ => rfl
  have F_c_Ground_begin := fun_mk (st := s_c_Ground_begin) l_c_Ground_begin c_c_Ground_begin k_c_Ground_begin
  have B_c_Ground_begin := F_c_Ground_begin.binds (ps := ["self"]) fun _ _ _ _ _ _ us hl => match us, hl with | [_], _ => rfl
  have F_c_Ground_commit := fun_mk (st := s_c_Ground_commit) l_c_Ground_commit c_c_Ground_commit k_c_Ground_commit
  have B_c_Ground_commit := F_c_Ground_commit.binds (ps := ["self"]) fun _ _ _ _ _ _ us hl => match us, hl with | [_], _ => rfl
  have F_c_Ground_cancel := fun_mk (st := s_c_Ground_cancel) l_c_Ground_cancel c_c_Ground_cancel k_c_Ground_cancel
  have B_c_Ground_cancel := F_c_Ground_cancel.binds (ps := ["self"]) fun _ _ _ _ _ _ us hl => match us, hl with | [_], _ => rfl
  have F_c_Ground_cost_since := fun_mk (st := s_c_Ground_cost_since) l_c_Ground_cost_since c_c_Ground_cost_since k_c_Ground_cost_since
  have B_c_Ground_cost_since := F_c_Ground_cost_since.binds (ps := ["self", "deed"]) fun _ _ _ _ _ _ us hl => match us, hl with | [_, _], _ => rfl
  have F_c_Ground_change_cell := fun_mk (st := s_c_Ground_change_cell) l_c_Ground_change_cell c_c_Ground_change_cell k_c_Ground_change_cell
  have B_c_Ground_change_cell := F_c_Ground_change_cell.binds (ps := ["self", "place", "word", "holder"]) fun _ _ _ _ _ _ us hl => match us, hl with | [_, _, _, _], _ => rfl
  have F_l_draws := fun_mk (st := s_l_draws) l_l_draws c_l_draws k_l_draws
  have B_l_draws := F_l_draws.binds (ps := ["_law_script"]) fun _ _ _ _ _ _ us hl => match us, hl with | [_], _ => rfl
  have F_l_next_cell := fun_mk (st := s_l_next_cell) l_l_next_cell c_l_next_cell k_l_next_cell
  have B_l_next_cell := F_l_next_cell.binds (ps := ["_law_draws_here"]) fun _ _ _ _ _ _ us hl => match us, hl with | [_], _ => rfl
  have F_l_mixed := fun_mk (st := s_l_mixed) l_l_mixed c_l_mixed k_l_mixed
  have B_l_mixed := F_l_mixed.binds (ps := ["_law_seed", "_law_turn", "_law_many"]) fun _ _ _ _ _ _ us hl => match us, hl with | [_, _, _], _ => rfl
  have F_l_take := fun_mk (st := s_l_take) l_l_take c_l_take k_l_take
  have B_l_take := F_l_take.binds (ps := ["_law_draws_here", "_law_many"]) fun _ _ _ _ _ _ us hl => match us, hl with | [_, _], _ => rfl
  have F_l_among := fun_mk (st := s_l_among) l_l_among c_l_among k_l_among
  have B_l_among := F_l_among.binds (ps := ["_law_draws_here", "_law_row"]) fun _ _ _ _ _ _ us hl => match us, hl with | [_, _], _ => rfl
  have F_l_between := fun_mk (st := s_l_between) l_l_between c_l_between k_l_between
  have B_l_between := F_l_between.binds (ps := ["_law_draws_here", "_law_low", "_law_high"]) fun _ _ _ _ _ _ us hl => match us, hl with | [_, _, _], _ => rfl
  have F_l_number := fun_mk (st := s_l_number) l_l_number c_l_number k_l_number
  have B_l_number := F_l_number.binds (ps := ["_law_draws_here", "_law_low", "_law_high"]) fun _ _ _ _ _ _ us hl => match us, hl with | [_, _, _], _ => rfl
  have F_l_count := fun_mk (st := s_l_count) l_l_count c_l_count k_l_count
  have B_l_count := F_l_count.binds (ps := ["_law_draws_here", "_law_small", "_law_great"]) fun _ _ _ _ _ _ us hl => match us, hl with | [_, _, _], _ => rfl
  have F_l_alignment := fun_mk (st := s_l_alignment) l_l_alignment c_l_alignment k_l_alignment
  have B_l_alignment := F_l_alignment.binds (ps := ["_law_draws_here", "_law_most"]) fun _ _ _ _ _ _ us hl => match us, hl with | [_, _], _ => rfl
  have F_l_is_int := fun_mk (st := s_l_is_int) l_l_is_int c_l_is_int k_l_is_int
  have B_l_is_int := F_l_is_int.binds (ps := ["_law_value"]) fun _ _ _ _ _ _ us hl => match us, hl with | [_], _ => rfl
  have F_l_same := fun_mk (st := s_l_same) l_l_same c_l_same k_l_same
  have B_l_same := F_l_same.binds (ps := ["_law_actual", "_law_expected"]) fun _ _ _ _ _ _ us hl => match us, hl with | [_, _], _ => rfl
  have F_l_holders := fun_mk (st := s_l_holders) l_l_holders c_l_holders k_l_holders
  have B_l_holders := F_l_holders.binds (ps := []) fun _ _ _ _ _ _ us hl => match us, hl with | [], _ => rfl
  have F_l_holder := fun_mk (st := s_l_holder) l_l_holder c_l_holder k_l_holder
  have B_l_holder := F_l_holder.binds (ps := ["_law_draws_here"]) fun _ _ _ _ _ _ us hl => match us, hl with | [_], _ => rfl
  have F_l_word := fun_mk (st := s_l_word) l_l_word c_l_word k_l_word
  have B_l_word := F_l_word.binds (ps := ["_law_draws_here", "_law_blank_here"]) fun _ _ _ _ _ _ us hl => match us, hl with | [_, _], _ => rfl
  have F_l_other_word := fun_mk (st := s_l_other_word) l_l_other_word c_l_other_word k_l_other_word
  have B_l_other_word := F_l_other_word.binds (ps := ["_law_draws_here", "_law_word_here"]) fun _ _ _ _ _ _ us hl => match us, hl with | [_, _], _ => rfl
  have F_l_blank := fun_mk (st := s_l_blank) l_l_blank c_l_blank k_l_blank
  have B_l_blank := F_l_blank.binds (ps := ["_law_draws_here"]) fun _ _ _ _ _ _ us hl => match us, hl with | [_], _ => rfl
  have F_l_ground_args := fun_mk (st := s_l_ground_args) l_l_ground_args c_l_ground_args k_l_ground_args
  have B_l_ground_args := F_l_ground_args.binds (ps := ["_law_draws_here"]) fun _ _ _ _ _ _ us hl => match us, hl with | [_], _ => rfl
  have F_l_ground_deed := fun_mk (st := s_l_ground_deed) l_l_ground_deed c_l_ground_deed k_l_ground_deed
  have B_l_ground_deed := F_l_ground_deed.binds (ps := ["_law_draws_here", "_law_words", "_law_holders_here", "_law_blank_here"]) fun _ _ _ _ _ _ us hl => match us, hl with | [_, _, _, _], _ => rfl
  have F_l_deed_due := fun_mk (st := s_l_deed_due) l_l_deed_due c_l_deed_due k_l_deed_due
  have B_l_deed_due := F_l_deed_due.binds (ps := ["_law_words", "_law_holders_here", "_law_blank_here", "_law_deed"]) fun _ _ _ _ _ _ us hl => match us, hl with | [_, _, _, _], _ => rfl
  have F_l_deed_made := fun_mk (st := s_l_deed_made) l_l_deed_made c_l_deed_made k_l_deed_made
  have B_l_deed_made := F_l_deed_made.binds (ps := ["_law_words", "_law_holders_here", "_law_blank_here", "_law_deed"]) fun _ _ _ _ _ _ us hl => match us, hl with | [_, _, _, _], _ => rfl
  have F_l_told := fun_mk (st := s_l_told) l_l_told c_l_told k_l_told
  have B_l_told := F_l_told.binds (ps := ["_law_error"]) fun _ _ _ _ _ _ us hl => match us, hl with | [_], _ => rfl
  have F_l_is_image_of := fun_mk (st := s_l_is_image_of) l_l_is_image_of c_l_is_image_of k_l_is_image_of
  have B_l_is_image_of := F_l_is_image_of.binds (ps := ["_law_actual", "_law_page_width", "_law_blank_here", "_law_words", "_law_holders_here"]) fun _ _ _ _ _ _ us hl => match us, hl with | [_, _, _, _, _], _ => rfl
  have F_l_made := fun_mk (st := s_l_made) l_l_made c_l_made k_l_made
  have B_l_made := F_l_made.binds (ps := ["_law_size", "_law_purse"]) fun _ _ _ _ _ _ us hl => match us, hl with | [_, _], _ => rfl
  have F_l_side := fun_mk (st := s_l_side) l_l_side c_l_side k_l_side
  have B_l_side := F_l_side.binds (ps := ["_law_size", "_law_purse"]) fun _ _ _ _ _ _ us hl => match us, hl with | [_, _], _ => rfl
  have F_l_differing := fun_mk (st := s_l_differing) l_l_differing c_l_differing k_l_differing
  have B_l_differing := F_l_differing.binds (ps := ["_law_old", "_law_side_here"]) fun _ _ _ _ _ _ us hl => match us, hl with | [_, _], _ => rfl
  have F_l_step := fun_mk (st := s_l_step) l_l_step c_l_step k_l_step
  have B_l_step := F_l_step.binds (ps := ["_law_draws_here", "_law_side_here", "_law_blank_here"]) fun _ _ _ _ _ _ us hl => match us, hl with | [_, _, _], _ => rfl
  have F_l_played := fun_mk (st := s_l_played) l_l_played c_l_played k_l_played
  have B_l_played := F_l_played.binds (ps := ["_law_ground", "_law_step_here"]) fun _ _ _ _ _ _ us hl => match us, hl with | [_, _], _ => rfl
  have F_l_charged := fun_mk (st := s_l_charged) l_l_charged c_l_charged k_l_charged
  have B_l_charged := F_l_charged.binds (ps := ["_law_side_here", "_law_old", "_law_told_here"]) fun _ _ _ _ _ _ us hl => match us, hl with | [_, _, _], _ => rfl
  have F_l_step_due := fun_mk (st := s_l_step_due) l_l_step_due c_l_step_due k_l_step_due
  have B_l_step_due := F_l_step_due.binds (ps := ["_law_side_here", "_law_blank_here", "_law_step_here"]) fun _ _ _ _ _ _ us hl => match us, hl with | [_, _, _], _ => rfl
  have F_l_stands := fun_mk (st := s_l_stands) l_l_stands c_l_stands k_l_stands
  have B_l_stands := F_l_stands.binds (ps := ["_law_side_here"]) fun _ _ _ _ _ _ us hl => match us, hl with | [_], _ => rfl
  have F_l_image_stands := fun_mk (st := s_l_image_stands) l_l_image_stands c_l_image_stands k_l_image_stands
  have B_l_image_stands := F_l_image_stands.binds (ps := ["_law_side_here", "_law_size"]) fun _ _ _ _ _ _ us hl => match us, hl with | [_, _], _ => rfl
  have F_l_near_step := fun_mk (st := s_l_near_step) l_l_near_step c_l_near_step k_l_near_step
  have B_l_near_step := F_l_near_step.binds (ps := ["_law_draws_here", "_law_side_here"]) fun _ _ _ _ _ _ us hl => match us, hl with | [_, _], _ => rfl
  have F_l_kept := fun_mk (st := s_l_kept) l_l_kept c_l_kept k_l_kept
  have B_l_kept := F_l_kept.binds (ps := ["_law_side_here", "_law_size", "_law_step_here"]) fun _ _ _ _ _ _ us hl => match us, hl with | [_, _, _], _ => rfl
  have F_l_law := fun_mk (st := s_l_law) l_l_law c_l_law k_l_law
  have B_l_law := F_l_law.binds (ps := ["_law_script"]) fun _ _ _ _ _ _ us hl => match us, hl with | [_], _ => rfl
  have FD_Ground : FunD K "__init__" "Ground.__init__" (defArgs s_c_Ground_init) (defBody s_c_Ground_init) (defScope s_c_Ground_init) [] [("fill", (.int 0)), ("budget", .non)] f_c_Ground_init (PySem.W.fnOf "__init__" "Ground.__init__" (defArgs s_c_Ground_init) (defBody s_c_Ground_init) (defScope s_c_Ground_init) .none kV_c_Ground_init dc_c_Ground_init pm_c_Ground_init an_c_Ground_init cd_c_Ground_init ct_c_Ground_init) := ⟨⟨_, _, _, _, _, _, _, _, _, _, rfl, l_c_Ground_init, c_c_Ground_init, .inl ⟨rfl, rfl⟩, .inr ⟨D_Ground, kd_Ground, by intro q hq; simp only [List.mem_cons, List.not_mem_nil, or_false] at hq; rcases hq with rfl | rfl <;> first | exact ⟨_, kx_Ground_fill, kr_Ground_fill⟩ | exact ⟨_, kx_Ground_budget, kr_Ground_budget⟩⟩⟩, k_c_Ground_init⟩
  have db_Ground_2 : ∃ ds, Vals [(.int 0), .non] ds ∧ Binds K (PySem.W.fnOf "__init__" "Ground.__init__" (defArgs s_c_Ground_init) (defBody s_c_Ground_init) (defScope s_c_Ground_init) .none kV_c_Ground_init dc_c_Ground_init pm_c_Ground_init an_c_Ground_init cd_c_Ground_init ct_c_Ground_init) ["self", "pages", "width", "fill", "budget"] ds := FD_Ground.binds0 3 (by simp) rfl fun _ _ _ _ _ _ us ks h1 h2 => match us, ks, h1, h2 with | [_, _, _], [_, _], _, _ => ⟨_, _, _, _, _, _, rfl, rfl, ⟨_, _, _, _, _, _, rfl, rfl, rfl⟩⟩
  have kb_Ground_2_fill : ∃ g, KBn K (PySem.W.fnOf "__init__" "Ground.__init__" (defArgs s_c_Ground_init) (defBody s_c_Ground_init) (defScope s_c_Ground_init) .none kV_c_Ground_init dc_c_Ground_init pm_c_Ground_init an_c_Ground_init cd_c_Ground_init ct_c_Ground_init) ["self", "pages", "width", "fill", "budget"] 3 ["fill"] g (gv_Ground_2_fill) := by
    obtain ⟨mv, hk⟩ := FD_Ground.kbinds0 (ps := ["self", "pages", "width", "fill", "budget"]) 3 ["fill"] [("budget", .non)] (fun us mv ws => us ++ ws ++ mv) (by simp) (by simp) (fun r1 r2 r3 => (r1.append r3).append r2) fun _ _ _ _ _ _ us mv ws h1 h2 h3 => match us, mv, ws, h1, h2, h3 with | [_, _, _], [_], [_], _, _, _ => ⟨_, _, _, _, _, _, rfl, rfl, rfl⟩
    exact ⟨_, hk⟩
  have kb_Ground_2_fill_budget : ∃ g, KBn K (PySem.W.fnOf "__init__" "Ground.__init__" (defArgs s_c_Ground_init) (defBody s_c_Ground_init) (defScope s_c_Ground_init) .none kV_c_Ground_init dc_c_Ground_init pm_c_Ground_init an_c_Ground_init cd_c_Ground_init ct_c_Ground_init) ["self", "pages", "width", "fill", "budget"] 3 ["fill", "budget"] g (gv_Ground_2_fill_budget) := ⟨fun us ws => us ++ ws, ⟨fun s us ws _ h1 h2 => match us, ws, h1, h2 with | [_, _, _], [_, _], _, _ => .of_eq rfl, fun r1 r2 => r1.append r2⟩⟩
  have cl_Ground : Cls K C_Ground := ⟨pg_Ground, hd_Ground, po_Ground, sa_Ground⟩
  have ox_BadValue : OexC K C_BadValue := { cls := ⟨nm_BadValue, qn_BadValue, N_BadValue, bs_BadValue, _, sn_BadValue, sub_BadValue, ab_BadValue, col_BadValue, dd_BadValue, m0_BadValue, m1_BadValue, m2_BadValue, m3_BadValue, m5_BadValue, x_BadValue, rfl⟩, sa := sa_BadValue, exC := eb_BadValue, tyC := ty_BadValue, kC := kp_BadValue }
  have ox_Broken : OexC K C_Broken := { cls := ⟨nm_Broken, qn_Broken, N_Broken, bs_Broken, _, sn_Broken, sub_Broken, ab_Broken, col_Broken, dd_Broken, m0_Broken, m1_Broken, m2_Broken, m3_Broken, m5_Broken, x_Broken, rfl⟩, sa := sa_Broken, exC := eb_Broken, tyC := ty_Broken, kC := kp_Broken }
  have ox_Unknown : OexC K C_Unknown := { cls := ⟨nm_Unknown, qn_Unknown, N_Unknown, bs_Unknown, _, sn_Unknown, sub_Unknown, ab_Unknown, col_Unknown, dd_Unknown, m0_Unknown, m1_Unknown, m2_Unknown, m3_Unknown, m5_Unknown, x_Unknown, rfl⟩, sa := sa_Unknown, exC := eb_Unknown, tyC := ty_Unknown, kC := kp_Unknown }
  have ox_NotHeld : OexC K C_NotHeld := { cls := ⟨nm_NotHeld, qn_NotHeld, N_NotHeld, bs_NotHeld, _, sn_NotHeld, sub_NotHeld, ab_NotHeld, col_NotHeld, dd_NotHeld, m0_NotHeld, m1_NotHeld, m2_NotHeld, m3_NotHeld, m5_NotHeld, x_NotHeld, rfl⟩, sa := sa_NotHeld, exC := eb_NotHeld, tyC := ty_NotHeld, kC := kp_NotHeld }
  have ox_Fault : OexC K C_Fault := { cls := ⟨nm_Fault, qn_Fault, N_Fault, bs_Fault, _, sn_Fault, sub_Fault, ab_Fault, col_Fault, dd_Fault, m0_Fault, m1_Fault, m2_Fault, m3_Fault, m5_Fault, x_Fault, rfl⟩, sa := sa_Fault, exC := eb_Fault, tyC := ty_Fault, kC := kp_Fault }
  have ox_NoRoom : OexC K C_NoRoom := { cls := ⟨nm_NoRoom, qn_NoRoom, N_NoRoom, bs_NoRoom, _, sn_NoRoom, sub_NoRoom, ab_NoRoom, col_NoRoom, dd_NoRoom, m0_NoRoom, m1_NoRoom, m2_NoRoom, m3_NoRoom, m5_NoRoom, x_NoRoom, rfl⟩, sa := sa_NoRoom, exC := eb_NoRoom, tyC := ty_NoRoom, kC := kp_NoRoom }
  have ox_Cut : OexC K C_Cut := { cls := ⟨nm_Cut, qn_Cut, N_Cut, bs_Cut, _, sn_Cut, sub_Cut, ab_Cut, col_Cut, dd_Cut, m0_Cut, m1_Cut, m2_Cut, m3_Cut, m5_Cut, x_Cut, rfl⟩, sa := sa_Cut, exC := eb_Cut, tyC := ty_Cut, kC := kp_Cut }
  have ox_BadLine : OexC K C_BadLine := { cls := ⟨nm_BadLine, qn_BadLine, N_BadLine, bs_BadLine, _, sn_BadLine, sub_BadLine, ab_BadLine, col_BadLine, dd_BadLine, m0_BadLine, m1_BadLine, m2_BadLine, m3_BadLine, m5_BadLine, x_BadLine, rfl⟩, sa := sa_BadLine, exC := eb_BadLine, tyC := ty_BadLine, kC := kp_BadLine }
  have xf_BadValue : XfC K C_BadValue := ⟨ga_BadValue, gg_BadValue, eb_BadValue, hd_BadValue⟩
  have ex_BadValue : ExcC K C_BadValue := ⟨ga_BadValue, gg_BadValue, eb_BadValue, hd_BadValue, cc_BadValue, sp1, sp2, mo_BadValue⟩
  have xf_Broken : XfC K C_Broken := ⟨ga_Broken, gg_Broken, eb_Broken, hd_Broken⟩
  have ex_Broken : ExcC K C_Broken := ⟨ga_Broken, gg_Broken, eb_Broken, hd_Broken, cc_Broken, sp1, sp2, mo_Broken⟩
  have xf_Unknown : XfC K C_Unknown := ⟨ga_Unknown, gg_Unknown, eb_Unknown, hd_Unknown⟩
  have ex_Unknown : ExcC K C_Unknown := ⟨ga_Unknown, gg_Unknown, eb_Unknown, hd_Unknown, cc_Unknown, sp1, sp2, mo_Unknown⟩
  have xf_NotHeld : XfC K C_NotHeld := ⟨ga_NotHeld, gg_NotHeld, eb_NotHeld, hd_NotHeld⟩
  have ex_NotHeld : ExcC K C_NotHeld := ⟨ga_NotHeld, gg_NotHeld, eb_NotHeld, hd_NotHeld, cc_NotHeld, sp1, sp2, mo_NotHeld⟩
  have xf_Fault : XfC K C_Fault := ⟨ga_Fault, gg_Fault, eb_Fault, hd_Fault⟩
  have ex_Fault : ExcC K C_Fault := ⟨ga_Fault, gg_Fault, eb_Fault, hd_Fault, cc_Fault, sp1, sp2, mo_Fault⟩
  have xf_NoRoom : XfC K C_NoRoom := ⟨ga_NoRoom, gg_NoRoom, eb_NoRoom, hd_NoRoom⟩
  have ex_NoRoom : ExcC K C_NoRoom := ⟨ga_NoRoom, gg_NoRoom, eb_NoRoom, hd_NoRoom, cc_NoRoom, sp1, sp2, mo_NoRoom⟩
  have xf_Cut : XfC K C_Cut := ⟨ga_Cut, gg_Cut, eb_Cut, hd_Cut⟩
  have ex_Cut : ExcC K C_Cut := ⟨ga_Cut, gg_Cut, eb_Cut, hd_Cut, cc_Cut, sp1, sp2, mo_Cut⟩
  have xf_BadLine : XfC K C_BadLine := ⟨ga_BadLine, gg_BadLine, eb_BadLine, hd_BadLine⟩
  have ex_BadLine : ExcC K C_BadLine := ⟨ga_BadLine, gg_BadLine, eb_BadLine, hd_BadLine, cc_BadLine, sp1, sp2, mo_BadLine⟩
  have xm_BadValue_BadValue : PySem.W.exmOne K (.ref C_BadValue) (.ref C_BadValue) = some true := PySem.W.exm_ref eb_BadValue hd_BadValue ty_BadValue sub_BadValue_BadValue
  have xm_Unknown_StoreError : PySem.W.exmOne K (.ref C_Unknown) (.ref C_StoreError) = some true := PySem.W.exm_ref eb_StoreError hd_StoreError ty_StoreError sub_Unknown_StoreError
  have xm_NotHeld_StoreError : PySem.W.exmOne K (.ref C_NotHeld) (.ref C_StoreError) = some true := PySem.W.exm_ref eb_StoreError hd_StoreError ty_StoreError sub_NotHeld_StoreError
  have xm_Broken_StoreError : PySem.W.exmOne K (.ref C_Broken) (.ref C_StoreError) = some true := PySem.W.exm_ref eb_StoreError hd_StoreError ty_StoreError sub_Broken_StoreError
  have xm_Cut_StoreError : PySem.W.exmOne K (.ref C_Cut) (.ref C_StoreError) = some true := PySem.W.exm_ref eb_StoreError hd_StoreError ty_StoreError sub_Cut_StoreError
  have bv : BvC K C_BadValue := ⟨ox_BadValue, nf_BadValue_parameter, nf_BadValue_told⟩
  have bk : BvK K { k_StoreError := C_StoreError, k_BadValue := C_BadValue, k_Broken := C_Broken, k_Unknown := C_Unknown, k_NotHeld := C_NotHeld, k_Fault := C_Fault, k_NoRoom := C_NoRoom, k_Cut := C_Cut, k_BadLine := C_BadLine, x_WIDTHS := X_WIDTHS, k_Ground := C_Ground } := ⟨bv, ⟨ex_BadValue, xf_BadValue, kit_BadValue_StoreError, kit_BadValue_ValueError, kit_BadValue_BadValue, kit_BadValue_Broken, kit_BadValue_Unknown, kit_BadValue_NotHeld, kit_BadValue_Fault, kit_BadValue_NoRoom, kit_BadValue_Cut, kit_BadValue_BadLine⟩, xm_BadValue_BadValue⟩
  have er_Broken : ErC K C_Broken ["told", "place", "found", "due"] := ⟨ox_Broken, by intro f hf; simp only [List.mem_cons, List.not_mem_nil, or_false] at hf; rcases hf with rfl | rfl | rfl | rfl <;> first | exact nf_Broken_told | exact nf_Broken_place | exact nf_Broken_found | exact nf_Broken_due⟩
  have kk_Broken : ExK K { k_StoreError := C_StoreError, k_BadValue := C_BadValue, k_Broken := C_Broken, k_Unknown := C_Unknown, k_NotHeld := C_NotHeld, k_Fault := C_Fault, k_NoRoom := C_NoRoom, k_Cut := C_Cut, k_BadLine := C_BadLine, x_WIDTHS := X_WIDTHS, k_Ground := C_Ground } C_Broken false true false false false false false false := ⟨ex_Broken, xf_Broken, kit_Broken_StoreError, kit_Broken_ValueError, kit_Broken_BadValue, kit_Broken_Broken, kit_Broken_Unknown, kit_Broken_NotHeld, kit_Broken_Fault, kit_Broken_NoRoom, kit_Broken_Cut, kit_Broken_BadLine⟩
  have er_Unknown : ErC K C_Unknown ["told", "parameter"] := ⟨ox_Unknown, by intro f hf; simp only [List.mem_cons, List.not_mem_nil, or_false] at hf; rcases hf with rfl | rfl <;> first | exact nf_Unknown_told | exact nf_Unknown_parameter⟩
  have kk_Unknown : ExK K { k_StoreError := C_StoreError, k_BadValue := C_BadValue, k_Broken := C_Broken, k_Unknown := C_Unknown, k_NotHeld := C_NotHeld, k_Fault := C_Fault, k_NoRoom := C_NoRoom, k_Cut := C_Cut, k_BadLine := C_BadLine, x_WIDTHS := X_WIDTHS, k_Ground := C_Ground } C_Unknown false false true false false false false false := ⟨ex_Unknown, xf_Unknown, kit_Unknown_StoreError, kit_Unknown_ValueError, kit_Unknown_BadValue, kit_Unknown_Broken, kit_Unknown_Unknown, kit_Unknown_NotHeld, kit_Unknown_Fault, kit_Unknown_NoRoom, kit_Unknown_Cut, kit_Unknown_BadLine⟩
  have er_NotHeld : ErC K C_NotHeld ["told", "place", "found"] := ⟨ox_NotHeld, by intro f hf; simp only [List.mem_cons, List.not_mem_nil, or_false] at hf; rcases hf with rfl | rfl | rfl <;> first | exact nf_NotHeld_told | exact nf_NotHeld_place | exact nf_NotHeld_found⟩
  have kk_NotHeld : ExK K { k_StoreError := C_StoreError, k_BadValue := C_BadValue, k_Broken := C_Broken, k_Unknown := C_Unknown, k_NotHeld := C_NotHeld, k_Fault := C_Fault, k_NoRoom := C_NoRoom, k_Cut := C_Cut, k_BadLine := C_BadLine, x_WIDTHS := X_WIDTHS, k_Ground := C_Ground } C_NotHeld false false false true false false false false := ⟨ex_NotHeld, xf_NotHeld, kit_NotHeld_StoreError, kit_NotHeld_ValueError, kit_NotHeld_BadValue, kit_NotHeld_Broken, kit_NotHeld_Unknown, kit_NotHeld_NotHeld, kit_NotHeld_Fault, kit_NotHeld_NoRoom, kit_NotHeld_Cut, kit_NotHeld_BadLine⟩
  have er_Fault : ErC K C_Fault ["told", "kind", "place"] := ⟨ox_Fault, by intro f hf; simp only [List.mem_cons, List.not_mem_nil, or_false] at hf; rcases hf with rfl | rfl | rfl <;> first | exact nf_Fault_told | exact nf_Fault_kind | exact nf_Fault_place⟩
  have kk_Fault : ExK K { k_StoreError := C_StoreError, k_BadValue := C_BadValue, k_Broken := C_Broken, k_Unknown := C_Unknown, k_NotHeld := C_NotHeld, k_Fault := C_Fault, k_NoRoom := C_NoRoom, k_Cut := C_Cut, k_BadLine := C_BadLine, x_WIDTHS := X_WIDTHS, k_Ground := C_Ground } C_Fault false false false false true false false false := ⟨ex_Fault, xf_Fault, kit_Fault_StoreError, kit_Fault_ValueError, kit_Fault_BadValue, kit_Fault_Broken, kit_Fault_Unknown, kit_Fault_NotHeld, kit_Fault_Fault, kit_Fault_NoRoom, kit_Fault_Cut, kit_Fault_BadLine⟩
  have er_NoRoom : ErC K C_NoRoom ["told", "paper"] := ⟨ox_NoRoom, by intro f hf; simp only [List.mem_cons, List.not_mem_nil, or_false] at hf; rcases hf with rfl | rfl <;> first | exact nf_NoRoom_told | exact nf_NoRoom_paper⟩
  have kk_NoRoom : ExK K { k_StoreError := C_StoreError, k_BadValue := C_BadValue, k_Broken := C_Broken, k_Unknown := C_Unknown, k_NotHeld := C_NotHeld, k_Fault := C_Fault, k_NoRoom := C_NoRoom, k_Cut := C_Cut, k_BadLine := C_BadLine, x_WIDTHS := X_WIDTHS, k_Ground := C_Ground } C_NoRoom false false false false false true false false := ⟨ex_NoRoom, xf_NoRoom, kit_NoRoom_StoreError, kit_NoRoom_ValueError, kit_NoRoom_BadValue, kit_NoRoom_Broken, kit_NoRoom_Unknown, kit_NoRoom_NotHeld, kit_NoRoom_Fault, kit_NoRoom_NoRoom, kit_NoRoom_Cut, kit_NoRoom_BadLine⟩
  have er_Cut : ErC K C_Cut ["told", "needed", "left"] := ⟨ox_Cut, by intro f hf; simp only [List.mem_cons, List.not_mem_nil, or_false] at hf; rcases hf with rfl | rfl | rfl <;> first | exact nf_Cut_told | exact nf_Cut_needed | exact nf_Cut_left⟩
  have kk_Cut : ExK K { k_StoreError := C_StoreError, k_BadValue := C_BadValue, k_Broken := C_Broken, k_Unknown := C_Unknown, k_NotHeld := C_NotHeld, k_Fault := C_Fault, k_NoRoom := C_NoRoom, k_Cut := C_Cut, k_BadLine := C_BadLine, x_WIDTHS := X_WIDTHS, k_Ground := C_Ground } C_Cut false false false false false false true false := ⟨ex_Cut, xf_Cut, kit_Cut_StoreError, kit_Cut_ValueError, kit_Cut_BadValue, kit_Cut_Broken, kit_Cut_Unknown, kit_Cut_NotHeld, kit_Cut_Fault, kit_Cut_NoRoom, kit_Cut_Cut, kit_Cut_BadLine⟩
  have er_BadLine : ErC K C_BadLine ["told", "line", "column"] := ⟨ox_BadLine, by intro f hf; simp only [List.mem_cons, List.not_mem_nil, or_false] at hf; rcases hf with rfl | rfl | rfl <;> first | exact nf_BadLine_told | exact nf_BadLine_line | exact nf_BadLine_column⟩
  have kk_BadLine : ExK K { k_StoreError := C_StoreError, k_BadValue := C_BadValue, k_Broken := C_Broken, k_Unknown := C_Unknown, k_NotHeld := C_NotHeld, k_Fault := C_Fault, k_NoRoom := C_NoRoom, k_Cut := C_Cut, k_BadLine := C_BadLine, x_WIDTHS := X_WIDTHS, k_Ground := C_Ground } C_BadLine false false false false false false false true := ⟨ex_BadLine, xf_BadLine, kit_BadLine_StoreError, kit_BadLine_ValueError, kit_BadLine_BadValue, kit_BadLine_Broken, kit_BadLine_Unknown, kit_BadLine_NotHeld, kit_BadLine_Fault, kit_BadLine_NoRoom, kit_BadLine_Cut, kit_BadLine_BadLine⟩
  have ak : AllK K { k_StoreError := C_StoreError, k_BadValue := C_BadValue, k_Broken := C_Broken, k_Unknown := C_Unknown, k_NotHeld := C_NotHeld, k_Fault := C_Fault, k_NoRoom := C_NoRoom, k_Cut := C_Cut, k_BadLine := C_BadLine, x_WIDTHS := X_WIDTHS, k_Ground := C_Ground } := ⟨bk, er_Broken, kk_Broken, er_Unknown, kk_Unknown, er_NotHeld, kk_NotHeld, er_Fault, kk_Fault, er_NoRoom, kk_NoRoom, er_Cut, kk_Cut, er_BadLine, kk_BadLine⟩
  have gk : GdK K { k_StoreError := C_StoreError, k_BadValue := C_BadValue, k_Broken := C_Broken, k_Unknown := C_Unknown, k_NotHeld := C_NotHeld, k_Fault := C_Fault, k_NoRoom := C_NoRoom, k_Cut := C_Cut, k_BadLine := C_BadLine, x_WIDTHS := X_WIDTHS, k_Ground := C_Ground } := ⟨cl_Ground, by intro f hf; simp only [List.mem_cons, List.not_mem_nil, or_false] at hf; rcases hf with rfl | rfl | rfl | rfl | rfl | rfl | rfl | rfl <;> first | exact na_Ground_pages | exact na_Ground_width | exact na_Ground_fill | exact na_Ground_allowance | exact na_Ground_charged | exact na_Ground_cell_words | exact na_Ground_cell_holders | exact na_Ground_open_deeds⟩
  have ge : GdE K { k_StoreError := C_StoreError, k_BadValue := C_BadValue, k_Broken := C_Broken, k_Unknown := C_Unknown, k_NotHeld := C_NotHeld, k_Fault := C_Fault, k_NoRoom := C_NoRoom, k_Cut := C_Cut, k_BadLine := C_BadLine, x_WIDTHS := X_WIDTHS, k_Ground := C_Ground } := ⟨gk, bv, er_Unknown, er_Cut, er_NotHeld, er_Broken⟩
  have xmk : XmK13 K { k_StoreError := C_StoreError, k_BadValue := C_BadValue, k_Broken := C_Broken, k_Unknown := C_Unknown, k_NotHeld := C_NotHeld, k_Fault := C_Fault, k_NoRoom := C_NoRoom, k_Cut := C_Cut, k_BadLine := C_BadLine, x_WIDTHS := X_WIDTHS, k_Ground := C_Ground } := ⟨xm_Unknown_StoreError, xm_NotHeld_StoreError, xm_Broken_StoreError, xm_Cut_StoreError⟩
  have k12 : K13K K { k_StoreError := C_StoreError, k_BadValue := C_BadValue, k_Broken := C_Broken, k_Unknown := C_Unknown, k_NotHeld := C_NotHeld, k_Fault := C_Fault, k_NoRoom := C_NoRoom, k_Cut := C_Cut, k_BadLine := C_BadLine, x_WIDTHS := X_WIDTHS, k_Ground := C_Ground } := ⟨ge, ak, xmk, u_WIDTHS⟩
  let a : Ad := { c := { k_StoreError := C_StoreError, k_BadValue := C_BadValue, k_Broken := C_Broken, k_Unknown := C_Unknown, k_NotHeld := C_NotHeld, k_Fault := C_Fault, k_NoRoom := C_NoRoom, k_Cut := C_Cut, k_BadLine := C_BadLine, x_WIDTHS := X_WIDTHS, k_Ground := C_Ground }, c_BadValue_init := f_c_BadValue_init, c_BadValue_init_d := (PySem.W.fnOf "__init__" "BadValue.__init__" (defArgs s_c_BadValue_init) (defBody s_c_BadValue_init) (defScope s_c_BadValue_init) .none kV_c_BadValue_init dc_c_BadValue_init pm_c_BadValue_init an_c_BadValue_init cd_c_BadValue_init ct_c_BadValue_init), c_Broken_init := f_c_Broken_init, c_Broken_init_d := (PySem.W.fnOf "__init__" "Broken.__init__" (defArgs s_c_Broken_init) (defBody s_c_Broken_init) (defScope s_c_Broken_init) .none kV_c_Broken_init dc_c_Broken_init pm_c_Broken_init an_c_Broken_init cd_c_Broken_init ct_c_Broken_init), c_Unknown_init := f_c_Unknown_init, c_Unknown_init_d := (PySem.W.fnOf "__init__" "Unknown.__init__" (defArgs s_c_Unknown_init) (defBody s_c_Unknown_init) (defScope s_c_Unknown_init) .none kV_c_Unknown_init dc_c_Unknown_init pm_c_Unknown_init an_c_Unknown_init cd_c_Unknown_init ct_c_Unknown_init), c_NotHeld_init := f_c_NotHeld_init, c_NotHeld_init_d := (PySem.W.fnOf "__init__" "NotHeld.__init__" (defArgs s_c_NotHeld_init) (defBody s_c_NotHeld_init) (defScope s_c_NotHeld_init) .none kV_c_NotHeld_init dc_c_NotHeld_init pm_c_NotHeld_init an_c_NotHeld_init cd_c_NotHeld_init ct_c_NotHeld_init), c_Cut_init := f_c_Cut_init, c_Cut_init_d := (PySem.W.fnOf "__init__" "Cut.__init__" (defArgs s_c_Cut_init) (defBody s_c_Cut_init) (defScope s_c_Cut_init) .none kV_c_Cut_init dc_c_Cut_init pm_c_Cut_init an_c_Cut_init cd_c_Cut_init ct_c_Cut_init), p_is_whole := f_p_is_whole, p_is_whole_d := (PySem.W.fnOf "is_whole" "is_whole" (defArgs s_p_is_whole) (defBody s_p_is_whole) (defScope s_p_is_whole) .none kV_p_is_whole dc_p_is_whole pm_p_is_whole an_p_is_whole cd_p_is_whole ct_p_is_whole), p_whole_between := f_p_whole_between, p_whole_between_d := (PySem.W.fnOf "whole_between" "whole_between" (defArgs s_p_whole_between) (defBody s_p_whole_between) (defScope s_p_whole_between) .none kV_p_whole_between dc_p_whole_between pm_p_whole_between an_p_whole_between cd_p_whole_between ct_p_whole_between), p_is_holder := f_p_is_holder, p_is_holder_d := (PySem.W.fnOf "is_holder" "is_holder" (defArgs s_p_is_holder) (defBody s_p_is_holder) (defScope s_p_is_holder) .none kV_p_is_holder dc_p_is_holder pm_p_is_holder an_p_is_holder cd_p_is_holder ct_p_is_holder), p_is_between := f_p_is_between, p_is_between_d := (PySem.W.fnOf "is_between" "is_between" (defArgs s_p_is_between) (defBody s_p_is_between) (defScope s_p_is_between) .none kV_p_is_between dc_p_is_between pm_p_is_between an_p_is_between cd_p_is_between ct_p_is_between), p_is_width := f_p_is_width, p_is_width_d := (PySem.W.fnOf "is_width" "is_width" (defArgs s_p_is_width) (defBody s_p_is_width) (defScope s_p_is_width) .none kV_p_is_width dc_p_is_width pm_p_is_width an_p_is_width cd_p_is_width ct_p_is_width), p_is_budget := f_p_is_budget, p_is_budget_d := (PySem.W.fnOf "is_budget" "is_budget" (defArgs s_p_is_budget) (defBody s_p_is_budget) (defScope s_p_is_budget) .none kV_p_is_budget dc_p_is_budget pm_p_is_budget an_p_is_budget cd_p_is_budget ct_p_is_budget), c_Ground_init := f_c_Ground_init, c_Ground_init_d := (PySem.W.fnOf "__init__" "Ground.__init__" (defArgs s_c_Ground_init) (defBody s_c_Ground_init) (defScope s_c_Ground_init) .none kV_c_Ground_init dc_c_Ground_init pm_c_Ground_init an_c_Ground_init cd_c_Ground_init ct_c_Ground_init), c_Ground_spent := f_c_Ground_spent, c_Ground_spent_d := (PySem.W.fnOf "spent" "Ground.spent" (defArgs s_c_Ground_spent) (defBody s_c_Ground_spent) (defScope s_c_Ground_spent) .none kV_c_Ground_spent dc_c_Ground_spent pm_c_Ground_spent an_c_Ground_spent cd_c_Ground_spent ct_c_Ground_spent), c_Ground_depth := f_c_Ground_depth, c_Ground_depth_d := (PySem.W.fnOf "depth" "Ground.depth" (defArgs s_c_Ground_depth) (defBody s_c_Ground_depth) (defScope s_c_Ground_depth) .none kV_c_Ground_depth dc_c_Ground_depth pm_c_Ground_depth an_c_Ground_depth cd_c_Ground_depth ct_c_Ground_depth), c_Ground_budget := f_c_Ground_budget, c_Ground_budget_d := (PySem.W.fnOf "budget" "Ground.budget" (defArgs s_c_Ground_budget) (defBody s_c_Ground_budget) (defScope s_c_Ground_budget) .none kV_c_Ground_budget dc_c_Ground_budget pm_c_Ground_budget an_c_Ground_budget cd_c_Ground_budget ct_c_Ground_budget), c_Ground_check_place := f_c_Ground_check_place, c_Ground_check_place_d := (PySem.W.fnOf "check_place" "Ground.check_place" (defArgs s_c_Ground_check_place) (defBody s_c_Ground_check_place) (defScope s_c_Ground_check_place) .none kV_c_Ground_check_place dc_c_Ground_check_place pm_c_Ground_check_place an_c_Ground_check_place cd_c_Ground_check_place ct_c_Ground_check_place), c_Ground_check_guard := f_c_Ground_check_guard, c_Ground_check_guard_d := (PySem.W.fnOf "check_guard" "Ground.check_guard" (defArgs s_c_Ground_check_guard) (defBody s_c_Ground_check_guard) (defScope s_c_Ground_check_guard) .none kV_c_Ground_check_guard dc_c_Ground_check_guard pm_c_Ground_check_guard an_c_Ground_check_guard cd_c_Ground_check_guard ct_c_Ground_check_guard), c_Ground_write := f_c_Ground_write, c_Ground_write_d := (PySem.W.fnOf "write" "Ground.write" (defArgs s_c_Ground_write) (defBody s_c_Ground_write) (defScope s_c_Ground_write) .none kV_c_Ground_write dc_c_Ground_write pm_c_Ground_write an_c_Ground_write cd_c_Ground_write ct_c_Ground_write), c_Ground_poke := f_c_Ground_poke, c_Ground_poke_d := (PySem.W.fnOf "poke" "Ground.poke" (defArgs s_c_Ground_poke) (defBody s_c_Ground_poke) (defScope s_c_Ground_poke) .none kV_c_Ground_poke dc_c_Ground_poke pm_c_Ground_poke an_c_Ground_poke cd_c_Ground_poke ct_c_Ground_poke), c_Ground_pass_on := f_c_Ground_pass_on, c_Ground_pass_on_d := (PySem.W.fnOf "pass_on" "Ground.pass_on" (defArgs s_c_Ground_pass_on) (defBody s_c_Ground_pass_on) (defScope s_c_Ground_pass_on) .none kV_c_Ground_pass_on dc_c_Ground_pass_on pm_c_Ground_pass_on an_c_Ground_pass_on cd_c_Ground_pass_on ct_c_Ground_pass_on), c_Ground_check_fill := f_c_Ground_check_fill, c_Ground_check_fill_d := (PySem.W.fnOf "check_fill" "Ground.check_fill" (defArgs s_c_Ground_check_fill) (defBody s_c_Ground_check_fill) (defScope s_c_Ground_check_fill) .none kV_c_Ground_check_fill dc_c_Ground_check_fill pm_c_Ground_check_fill an_c_Ground_check_fill cd_c_Ground_check_fill ct_c_Ground_check_fill), c_Ground_image := f_c_Ground_image, c_Ground_image_d := (PySem.W.fnOf "image" "Ground.image" (defArgs s_c_Ground_image) (defBody s_c_Ground_image) (defScope s_c_Ground_image) .none kV_c_Ground_image dc_c_Ground_image pm_c_Ground_image an_c_Ground_image cd_c_Ground_image ct_c_Ground_image), c_Ground_begin := f_c_Ground_begin, c_Ground_begin_d := (PySem.W.fnOf "begin" "Ground.begin" (defArgs s_c_Ground_begin) (defBody s_c_Ground_begin) (defScope s_c_Ground_begin) .none kV_c_Ground_begin dc_c_Ground_begin pm_c_Ground_begin an_c_Ground_begin cd_c_Ground_begin ct_c_Ground_begin), c_Ground_commit := f_c_Ground_commit, c_Ground_commit_d := (PySem.W.fnOf "commit" "Ground.commit" (defArgs s_c_Ground_commit) (defBody s_c_Ground_commit) (defScope s_c_Ground_commit) .none kV_c_Ground_commit dc_c_Ground_commit pm_c_Ground_commit an_c_Ground_commit cd_c_Ground_commit ct_c_Ground_commit), c_Ground_cancel := f_c_Ground_cancel, c_Ground_cancel_d := (PySem.W.fnOf "cancel" "Ground.cancel" (defArgs s_c_Ground_cancel) (defBody s_c_Ground_cancel) (defScope s_c_Ground_cancel) .none kV_c_Ground_cancel dc_c_Ground_cancel pm_c_Ground_cancel an_c_Ground_cancel cd_c_Ground_cancel ct_c_Ground_cancel), c_Ground_cost_since := f_c_Ground_cost_since, c_Ground_cost_since_d := (PySem.W.fnOf "cost_since" "Ground.cost_since" (defArgs s_c_Ground_cost_since) (defBody s_c_Ground_cost_since) (defScope s_c_Ground_cost_since) .none kV_c_Ground_cost_since dc_c_Ground_cost_since pm_c_Ground_cost_since an_c_Ground_cost_since cd_c_Ground_cost_since ct_c_Ground_cost_since), c_Ground_change_cell := f_c_Ground_change_cell, c_Ground_change_cell_d := (PySem.W.fnOf "change_cell" "Ground.change_cell" (defArgs s_c_Ground_change_cell) (defBody s_c_Ground_change_cell) (defScope s_c_Ground_change_cell) .none kV_c_Ground_change_cell dc_c_Ground_change_cell pm_c_Ground_change_cell an_c_Ground_change_cell cd_c_Ground_change_cell ct_c_Ground_change_cell), l_draws := f_l_draws, l_draws_d := (PySem.W.fnOf "_law_draws" "_law_draws" (defArgs s_l_draws) (defBody s_l_draws) (defScope s_l_draws) .none kV_l_draws dc_l_draws pm_l_draws an_l_draws cd_l_draws ct_l_draws), l_next_cell := f_l_next_cell, l_next_cell_d := (PySem.W.fnOf "_law_next_cell" "_law_next_cell" (defArgs s_l_next_cell) (defBody s_l_next_cell) (defScope s_l_next_cell) .none kV_l_next_cell dc_l_next_cell pm_l_next_cell an_l_next_cell cd_l_next_cell ct_l_next_cell), l_mixed := f_l_mixed, l_mixed_d := (PySem.W.fnOf "_law_mixed" "_law_mixed" (defArgs s_l_mixed) (defBody s_l_mixed) (defScope s_l_mixed) .none kV_l_mixed dc_l_mixed pm_l_mixed an_l_mixed cd_l_mixed ct_l_mixed), l_take := f_l_take, l_take_d := (PySem.W.fnOf "_law_take" "_law_take" (defArgs s_l_take) (defBody s_l_take) (defScope s_l_take) .none kV_l_take dc_l_take pm_l_take an_l_take cd_l_take ct_l_take), l_among := f_l_among, l_among_d := (PySem.W.fnOf "_law_among" "_law_among" (defArgs s_l_among) (defBody s_l_among) (defScope s_l_among) .none kV_l_among dc_l_among pm_l_among an_l_among cd_l_among ct_l_among), l_between := f_l_between, l_between_d := (PySem.W.fnOf "_law_between" "_law_between" (defArgs s_l_between) (defBody s_l_between) (defScope s_l_between) .none kV_l_between dc_l_between pm_l_between an_l_between cd_l_between ct_l_between), l_number := f_l_number, l_number_d := (PySem.W.fnOf "_law_number" "_law_number" (defArgs s_l_number) (defBody s_l_number) (defScope s_l_number) .none kV_l_number dc_l_number pm_l_number an_l_number cd_l_number ct_l_number), l_count := f_l_count, l_count_d := (PySem.W.fnOf "_law_count" "_law_count" (defArgs s_l_count) (defBody s_l_count) (defScope s_l_count) .none kV_l_count dc_l_count pm_l_count an_l_count cd_l_count ct_l_count), l_alignment := f_l_alignment, l_alignment_d := (PySem.W.fnOf "_law_alignment" "_law_alignment" (defArgs s_l_alignment) (defBody s_l_alignment) (defScope s_l_alignment) .none kV_l_alignment dc_l_alignment pm_l_alignment an_l_alignment cd_l_alignment ct_l_alignment), l_is_int := f_l_is_int, l_is_int_d := (PySem.W.fnOf "_law_is_int" "_law_is_int" (defArgs s_l_is_int) (defBody s_l_is_int) (defScope s_l_is_int) .none kV_l_is_int dc_l_is_int pm_l_is_int an_l_is_int cd_l_is_int ct_l_is_int), l_same := f_l_same, l_same_d := (PySem.W.fnOf "_law_same" "_law_same" (defArgs s_l_same) (defBody s_l_same) (defScope s_l_same) .none kV_l_same dc_l_same pm_l_same an_l_same cd_l_same ct_l_same), l_holders := f_l_holders, l_holders_d := (PySem.W.fnOf "_law_holders" "_law_holders" (defArgs s_l_holders) (defBody s_l_holders) (defScope s_l_holders) .none kV_l_holders dc_l_holders pm_l_holders an_l_holders cd_l_holders ct_l_holders), l_holder := f_l_holder, l_holder_d := (PySem.W.fnOf "_law_holder" "_law_holder" (defArgs s_l_holder) (defBody s_l_holder) (defScope s_l_holder) .none kV_l_holder dc_l_holder pm_l_holder an_l_holder cd_l_holder ct_l_holder), l_word := f_l_word, l_word_d := (PySem.W.fnOf "_law_word" "_law_word" (defArgs s_l_word) (defBody s_l_word) (defScope s_l_word) .none kV_l_word dc_l_word pm_l_word an_l_word cd_l_word ct_l_word), l_other_word := f_l_other_word, l_other_word_d := (PySem.W.fnOf "_law_other_word" "_law_other_word" (defArgs s_l_other_word) (defBody s_l_other_word) (defScope s_l_other_word) .none kV_l_other_word dc_l_other_word pm_l_other_word an_l_other_word cd_l_other_word ct_l_other_word), l_blank := f_l_blank, l_blank_d := (PySem.W.fnOf "_law_blank" "_law_blank" (defArgs s_l_blank) (defBody s_l_blank) (defScope s_l_blank) .none kV_l_blank dc_l_blank pm_l_blank an_l_blank cd_l_blank ct_l_blank), l_ground_args := f_l_ground_args, l_ground_args_d := (PySem.W.fnOf "_law_ground_args" "_law_ground_args" (defArgs s_l_ground_args) (defBody s_l_ground_args) (defScope s_l_ground_args) .none kV_l_ground_args dc_l_ground_args pm_l_ground_args an_l_ground_args cd_l_ground_args ct_l_ground_args), l_ground_deed := f_l_ground_deed, l_ground_deed_d := (PySem.W.fnOf "_law_ground_deed" "_law_ground_deed" (defArgs s_l_ground_deed) (defBody s_l_ground_deed) (defScope s_l_ground_deed) .none kV_l_ground_deed dc_l_ground_deed pm_l_ground_deed an_l_ground_deed cd_l_ground_deed ct_l_ground_deed), l_deed_due := f_l_deed_due, l_deed_due_d := (PySem.W.fnOf "_law_deed_due" "_law_deed_due" (defArgs s_l_deed_due) (defBody s_l_deed_due) (defScope s_l_deed_due) .none kV_l_deed_due dc_l_deed_due pm_l_deed_due an_l_deed_due cd_l_deed_due ct_l_deed_due), l_deed_made := f_l_deed_made, l_deed_made_d := (PySem.W.fnOf "_law_deed_made" "_law_deed_made" (defArgs s_l_deed_made) (defBody s_l_deed_made) (defScope s_l_deed_made) .none kV_l_deed_made dc_l_deed_made pm_l_deed_made an_l_deed_made cd_l_deed_made ct_l_deed_made), l_told := f_l_told, l_told_d := (PySem.W.fnOf "_law_told" "_law_told" (defArgs s_l_told) (defBody s_l_told) (defScope s_l_told) .none kV_l_told dc_l_told pm_l_told an_l_told cd_l_told ct_l_told), l_is_image_of := f_l_is_image_of, l_is_image_of_d := (PySem.W.fnOf "_law_is_image_of" "_law_is_image_of" (defArgs s_l_is_image_of) (defBody s_l_is_image_of) (defScope s_l_is_image_of) .none kV_l_is_image_of dc_l_is_image_of pm_l_is_image_of an_l_is_image_of cd_l_is_image_of ct_l_is_image_of), l_made := f_l_made, l_made_d := (PySem.W.fnOf "_law_made" "_law_made" (defArgs s_l_made) (defBody s_l_made) (defScope s_l_made) .none kV_l_made dc_l_made pm_l_made an_l_made cd_l_made ct_l_made), l_side := f_l_side, l_side_d := (PySem.W.fnOf "_law_side" "_law_side" (defArgs s_l_side) (defBody s_l_side) (defScope s_l_side) .none kV_l_side dc_l_side pm_l_side an_l_side cd_l_side ct_l_side), l_differing := f_l_differing, l_differing_d := (PySem.W.fnOf "_law_differing" "_law_differing" (defArgs s_l_differing) (defBody s_l_differing) (defScope s_l_differing) .none kV_l_differing dc_l_differing pm_l_differing an_l_differing cd_l_differing ct_l_differing), l_step := f_l_step, l_step_d := (PySem.W.fnOf "_law_step" "_law_step" (defArgs s_l_step) (defBody s_l_step) (defScope s_l_step) .none kV_l_step dc_l_step pm_l_step an_l_step cd_l_step ct_l_step), l_played := f_l_played, l_played_d := (PySem.W.fnOf "_law_played" "_law_played" (defArgs s_l_played) (defBody s_l_played) (defScope s_l_played) .none kV_l_played dc_l_played pm_l_played an_l_played cd_l_played ct_l_played), l_charged := f_l_charged, l_charged_d := (PySem.W.fnOf "_law_charged" "_law_charged" (defArgs s_l_charged) (defBody s_l_charged) (defScope s_l_charged) .none kV_l_charged dc_l_charged pm_l_charged an_l_charged cd_l_charged ct_l_charged), l_step_due := f_l_step_due, l_step_due_d := (PySem.W.fnOf "_law_step_due" "_law_step_due" (defArgs s_l_step_due) (defBody s_l_step_due) (defScope s_l_step_due) .none kV_l_step_due dc_l_step_due pm_l_step_due an_l_step_due cd_l_step_due ct_l_step_due), l_stands := f_l_stands, l_stands_d := (PySem.W.fnOf "_law_stands" "_law_stands" (defArgs s_l_stands) (defBody s_l_stands) (defScope s_l_stands) .none kV_l_stands dc_l_stands pm_l_stands an_l_stands cd_l_stands ct_l_stands), l_image_stands := f_l_image_stands, l_image_stands_d := (PySem.W.fnOf "_law_image_stands" "_law_image_stands" (defArgs s_l_image_stands) (defBody s_l_image_stands) (defScope s_l_image_stands) .none kV_l_image_stands dc_l_image_stands pm_l_image_stands an_l_image_stands cd_l_image_stands ct_l_image_stands), l_near_step := f_l_near_step, l_near_step_d := (PySem.W.fnOf "_law_near_step" "_law_near_step" (defArgs s_l_near_step) (defBody s_l_near_step) (defScope s_l_near_step) .none kV_l_near_step dc_l_near_step pm_l_near_step an_l_near_step cd_l_near_step ct_l_near_step), l_kept := f_l_kept, l_kept_d := (PySem.W.fnOf "_law_kept" "_law_kept" (defArgs s_l_kept) (defBody s_l_kept) (defScope s_l_kept) .none kV_l_kept dc_l_kept pm_l_kept an_l_kept cd_l_kept ct_l_kept), l_law := fa, l_law_d := (PySem.W.fnOf "law" "law" (defArgs s_l_law) (defBody s_l_law) (defScope s_l_law) .none kV_l_law dc_l_law pm_l_law an_l_law cd_l_law ct_l_law), p_c_Ground_spent := p_c_Ground_spent, p_c_Ground_depth := p_c_Ground_depth, p_c_Ground_budget := p_c_Ground_budget, v_MAP := v_MAP, v_MOST_BUDGET := v_MOST_BUDGET, v_MOST_PAGES := v_MOST_PAGES, v_MOST_WORD := v_MOST_WORD, v_NOBODY := v_NOBODY, v_NODE := v_NODE }
  have T : Txt K mg a := { b_ValueError := PySem.W.mg_none_of X G z_ValueError, b_bool := PySem.W.mg_none_of X G z_bool, b_dict := PySem.W.mg_none_of X G z_dict, b_int := PySem.W.mg_none_of X G z_int, b_isinstance := PySem.W.mg_none_of X G z_isinstance, b_len := PySem.W.mg_none_of X G z_len, b_list := PySem.W.mg_none_of X G z_list, b_max := PySem.W.mg_none_of X G z_max, b_min := PySem.W.mg_none_of X G z_min, b_range := PySem.W.mg_none_of X G z_range, b_str := PySem.W.mg_none_of X G z_str, b_tuple := PySem.W.mg_none_of X G z_tuple, g_MAP := PySem.W.mg_of X G g_MAP, r_MAP := r_MAP, g_MOST_BUDGET := PySem.W.mg_of X G g_MOST_BUDGET, r_MOST_BUDGET := r_MOST_BUDGET, g_MOST_PAGES := PySem.W.mg_of X G g_MOST_PAGES, r_MOST_PAGES := r_MOST_PAGES, g_MOST_WORD := PySem.W.mg_of X G g_MOST_WORD, r_MOST_WORD := r_MOST_WORD, g_NOBODY := PySem.W.mg_of X G g_NOBODY, r_NOBODY := r_NOBODY, g_NODE := PySem.W.mg_of X G g_NODE, r_NODE := r_NODE, g_WIDTHS := PySem.W.mg_of X G g_WIDTHS, u_WIDTHS := u_WIDTHS, k_StoreError := PySem.W.mg_of X G q_StoreError, k_BadValue := PySem.W.mg_of X G q_BadValue, k_Broken := PySem.W.mg_of X G q_Broken, k_Unknown := PySem.W.mg_of X G q_Unknown, k_NotHeld := PySem.W.mg_of X G q_NotHeld, k_Fault := PySem.W.mg_of X G q_Fault, k_NoRoom := PySem.W.mg_of X G q_NoRoom, k_Cut := PySem.W.mg_of X G q_Cut, k_BadLine := PySem.W.mg_of X G q_BadLine, k_Ground := PySem.W.mg_of X G q_Ground, c_BadValue_init := ⟨F_c_BadValue_init, B_c_BadValue_init⟩, c_Broken_init := ⟨F_c_Broken_init, B_c_Broken_init⟩, c_Unknown_init := ⟨F_c_Unknown_init, B_c_Unknown_init⟩, c_NotHeld_init := ⟨F_c_NotHeld_init, B_c_NotHeld_init⟩, c_Cut_init := ⟨F_c_Cut_init, B_c_Cut_init⟩, p_is_whole := ⟨F_p_is_whole, PySem.W.mg_of X G a_p_is_whole, B_p_is_whole⟩, p_whole_between := ⟨F_p_whole_between, PySem.W.mg_of X G a_p_whole_between, B_p_whole_between⟩, p_is_holder := ⟨F_p_is_holder, PySem.W.mg_of X G a_p_is_holder, B_p_is_holder⟩, p_is_between := ⟨F_p_is_between, PySem.W.mg_of X G a_p_is_between, B_p_is_between⟩, p_is_width := ⟨F_p_is_width, PySem.W.mg_of X G a_p_is_width, B_p_is_width⟩, p_is_budget := ⟨F_p_is_budget, PySem.W.mg_of X G a_p_is_budget, B_p_is_budget⟩, c_Ground_init := ⟨F_c_Ground_init⟩, c_Ground_spent := ⟨F_c_Ground_spent, B_c_Ground_spent⟩, c_Ground_depth := ⟨F_c_Ground_depth, B_c_Ground_depth⟩, c_Ground_budget := ⟨F_c_Ground_budget, B_c_Ground_budget⟩, c_Ground_check_place := ⟨F_c_Ground_check_place, B_c_Ground_check_place⟩, c_Ground_check_guard := ⟨F_c_Ground_check_guard, B_c_Ground_check_guard⟩, c_Ground_write := ⟨F_c_Ground_write, B_c_Ground_write⟩, c_Ground_poke := ⟨F_c_Ground_poke, B_c_Ground_poke⟩, c_Ground_pass_on := ⟨F_c_Ground_pass_on, B_c_Ground_pass_on⟩, c_Ground_check_fill := ⟨F_c_Ground_check_fill, B_c_Ground_check_fill⟩, c_Ground_image := ⟨F_c_Ground_image, B_c_Ground_image⟩, c_Ground_begin := ⟨F_c_Ground_begin, B_c_Ground_begin⟩, c_Ground_commit := ⟨F_c_Ground_commit, B_c_Ground_commit⟩, c_Ground_cancel := ⟨F_c_Ground_cancel, B_c_Ground_cancel⟩, c_Ground_cost_since := ⟨F_c_Ground_cost_since, B_c_Ground_cost_since⟩, c_Ground_change_cell := ⟨F_c_Ground_change_cell, B_c_Ground_change_cell⟩, l_draws := ⟨F_l_draws, PySem.W.mg_of X G a_l_draws, B_l_draws⟩, l_next_cell := ⟨F_l_next_cell, PySem.W.mg_of X G a_l_next_cell, B_l_next_cell⟩, l_mixed := ⟨F_l_mixed, PySem.W.mg_of X G a_l_mixed, B_l_mixed⟩, l_take := ⟨F_l_take, PySem.W.mg_of X G a_l_take, B_l_take⟩, l_among := ⟨F_l_among, PySem.W.mg_of X G a_l_among, B_l_among⟩, l_between := ⟨F_l_between, PySem.W.mg_of X G a_l_between, B_l_between⟩, l_number := ⟨F_l_number, PySem.W.mg_of X G a_l_number, B_l_number⟩, l_count := ⟨F_l_count, PySem.W.mg_of X G a_l_count, B_l_count⟩, l_alignment := ⟨F_l_alignment, PySem.W.mg_of X G a_l_alignment, B_l_alignment⟩, l_is_int := ⟨F_l_is_int, PySem.W.mg_of X G a_l_is_int, B_l_is_int⟩, l_same := ⟨F_l_same, PySem.W.mg_of X G a_l_same, B_l_same⟩, l_holders := ⟨F_l_holders, PySem.W.mg_of X G a_l_holders, B_l_holders⟩, l_holder := ⟨F_l_holder, PySem.W.mg_of X G a_l_holder, B_l_holder⟩, l_word := ⟨F_l_word, PySem.W.mg_of X G a_l_word, B_l_word⟩, l_other_word := ⟨F_l_other_word, PySem.W.mg_of X G a_l_other_word, B_l_other_word⟩, l_blank := ⟨F_l_blank, PySem.W.mg_of X G a_l_blank, B_l_blank⟩, l_ground_args := ⟨F_l_ground_args, PySem.W.mg_of X G a_l_ground_args, B_l_ground_args⟩, l_ground_deed := ⟨F_l_ground_deed, PySem.W.mg_of X G a_l_ground_deed, B_l_ground_deed⟩, l_deed_due := ⟨F_l_deed_due, PySem.W.mg_of X G a_l_deed_due, B_l_deed_due⟩, l_deed_made := ⟨F_l_deed_made, PySem.W.mg_of X G a_l_deed_made, B_l_deed_made⟩, l_told := ⟨F_l_told, PySem.W.mg_of X G a_l_told, B_l_told⟩, l_is_image_of := ⟨F_l_is_image_of, PySem.W.mg_of X G a_l_is_image_of, B_l_is_image_of⟩, l_made := ⟨F_l_made, PySem.W.mg_of X G a_l_made, B_l_made⟩, l_side := ⟨F_l_side, PySem.W.mg_of X G a_l_side, B_l_side⟩, l_differing := ⟨F_l_differing, PySem.W.mg_of X G a_l_differing, B_l_differing⟩, l_step := ⟨F_l_step, PySem.W.mg_of X G a_l_step, B_l_step⟩, l_played := ⟨F_l_played, PySem.W.mg_of X G a_l_played, B_l_played⟩, l_charged := ⟨F_l_charged, PySem.W.mg_of X G a_l_charged, B_l_charged⟩, l_step_due := ⟨F_l_step_due, PySem.W.mg_of X G a_l_step_due, B_l_step_due⟩, l_stands := ⟨F_l_stands, PySem.W.mg_of X G a_l_stands, B_l_stands⟩, l_image_stands := ⟨F_l_image_stands, PySem.W.mg_of X G a_l_image_stands, B_l_image_stands⟩, l_near_step := ⟨F_l_near_step, PySem.W.mg_of X G a_l_near_step, B_l_near_step⟩, l_kept := ⟨F_l_kept, PySem.W.mg_of X G a_l_kept, B_l_kept⟩, l_law := ⟨F_l_law, PySem.W.mg_of X G a_l_law, B_l_law⟩, cl_Ground := cl_Ground, mk_Ground := ⟨mi_Ground, a_c_Ground_init, fn_c_Ground_init, kp_Ground⟩, kb_Ground_2_fill := kb_Ground_2_fill, kb_Ground_2_fill_budget := kb_Ground_2_fill_budget, db_Ground_2 := db_Ground_2, pr_c_Ground_spent := ⟨a_c_Ground_spent, pg_c_Ground_spent, pt_c_Ground_spent, rc_c_Ground_spent⟩, pr_c_Ground_depth := ⟨a_c_Ground_depth, pg_c_Ground_depth, pt_c_Ground_depth, rc_c_Ground_depth⟩, pr_c_Ground_budget := ⟨a_c_Ground_budget, pg_c_Ground_budget, pt_c_Ground_budget, rc_c_Ground_budget⟩, mt_c_Ground_check_place := ⟨a_c_Ground_check_place, fn_c_Ground_check_place, k_c_Ground_check_place⟩, mt_c_Ground_check_guard := ⟨a_c_Ground_check_guard, fn_c_Ground_check_guard, k_c_Ground_check_guard⟩, mt_c_Ground_write := ⟨a_c_Ground_write, fn_c_Ground_write, k_c_Ground_write⟩, mt_c_Ground_poke := ⟨a_c_Ground_poke, fn_c_Ground_poke, k_c_Ground_poke⟩, mt_c_Ground_pass_on := ⟨a_c_Ground_pass_on, fn_c_Ground_pass_on, k_c_Ground_pass_on⟩, mt_c_Ground_check_fill := ⟨a_c_Ground_check_fill, fn_c_Ground_check_fill, k_c_Ground_check_fill⟩, mt_c_Ground_image := ⟨a_c_Ground_image, fn_c_Ground_image, k_c_Ground_image⟩, mt_c_Ground_begin := ⟨a_c_Ground_begin, fn_c_Ground_begin, k_c_Ground_begin⟩, mt_c_Ground_commit := ⟨a_c_Ground_commit, fn_c_Ground_commit, k_c_Ground_commit⟩, mt_c_Ground_cancel := ⟨a_c_Ground_cancel, fn_c_Ground_cancel, k_c_Ground_cancel⟩, mt_c_Ground_cost_since := ⟨a_c_Ground_cost_since, fn_c_Ground_cost_since, k_c_Ground_cost_since⟩, mt_c_Ground_change_cell := ⟨a_c_Ground_change_cell, fn_c_Ground_change_cell, k_c_Ground_change_cell⟩, bv := bv, iC := a_c_BadValue_init, tI := t_c_BadValue_init, k12 := k12, e_Broken := er_Broken, iC_Broken := a_c_Broken_init, tI_Broken := t_c_Broken_init, e_Unknown := er_Unknown, iC_Unknown := a_c_Unknown_init, tI_Unknown := t_c_Unknown_init, e_NotHeld := er_NotHeld, iC_NotHeld := a_c_NotHeld_init, tI_NotHeld := t_c_NotHeld_init, e_Cut := er_Cut, iC_Cut := a_c_Cut_init, tI_Cut := t_c_Cut_init }
  exact ⟨PySem.W.fnOf "law" "law" (defArgs s_l_law) (defBody s_l_law) (defScope s_l_law) .none kV_l_law dc_l_law pm_l_law an_l_law cd_l_law ct_l_law, fun s u => .of_eq rfl, fun base _ _ => (ok_l_law T).imp fun vs H Q E h => by obtain ⟨x, ns, e, h1, h2, h3⟩ := h; exact ⟨x, ns, e, h1, h2, k12, h3⟩⟩
end K14
section
open PySem PySem.W PyProof.Rows
set_option maxHeartbeats 8000000
open_top K14_hd for PySem.Challenge.rw_allgivenback_k14_cut
end
open PySem PySem.W PyProof.Rows
set_option maxRecDepth 100000 in
set_option maxHeartbeats 8000000 in
theorem PySem.Challenge.cw_allgivenback_k14_cut_holds : PySem.Challenge.rw_allgivenback_k14_cut.Holds := by
  refine K14_hd ?_
  k_fill
  refine L2.walk_ofK (l := PySem.Challenge.rw_allgivenback_k14_cut) (n := 63) (k := 11) (x := "_law_script") (CX := L2.CX0) (sp := Gv.sp_end) rfl (by decide) rfl ⟨rfl, by decide, by decide⟩ (fun w h Y => PySem.W.kIn_of Y) ?F (fun K H a ns hl _ hS => ⟨a, ns, rfl, hS, hl, fun _ => rfl⟩) (fun _ _ _ _ z => z)
  case F =>
    intro w mg fa h KX G hmg
    refine' K14.all_mk KX G hmg ?q_StoreError ?q_BadValue ?q_Broken ?q_Unknown ?q_NotHeld ?q_Fault ?q_NoRoom ?q_Cut ?q_BadLine ?q_Ground ?a_c_BadValue_init ?t_c_BadValue_init ?l_c_BadValue_init ?c_c_BadValue_init ?k_c_BadValue_init ?a_c_Broken_init ?t_c_Broken_init ?l_c_Broken_init ?c_c_Broken_init ?k_c_Broken_init ?a_c_Unknown_init ?t_c_Unknown_init ?l_c_Unknown_init ?c_c_Unknown_init ?k_c_Unknown_init ?a_c_NotHeld_init ?t_c_NotHeld_init ?l_c_NotHeld_init ?c_c_NotHeld_init ?k_c_NotHeld_init ?a_c_Cut_init ?t_c_Cut_init ?l_c_Cut_init ?c_c_Cut_init ?k_c_Cut_init ?a_p_is_whole ?l_p_is_whole ?c_p_is_whole ?k_p_is_whole ?a_p_whole_between ?l_p_whole_between ?c_p_whole_between ?k_p_whole_between ?a_p_is_holder ?l_p_is_holder ?c_p_is_holder ?k_p_is_holder ?a_p_is_between ?l_p_is_between ?c_p_is_between ?k_p_is_between ?a_p_is_width ?l_p_is_width ?c_p_is_width ?k_p_is_width ?a_p_is_budget ?l_p_is_budget ?c_p_is_budget ?k_p_is_budget ?a_c_Ground_init ?fn_c_Ground_init ?t_c_Ground_init ?l_c_Ground_init ?c_c_Ground_init ?k_c_Ground_init ?a_c_Ground_spent ?pg_c_Ground_spent ?pt_c_Ground_spent ?rc_c_Ground_spent ?l_c_Ground_spent ?c_c_Ground_spent ?k_c_Ground_spent ?a_c_Ground_depth ?pg_c_Ground_depth ?pt_c_Ground_depth ?rc_c_Ground_depth ?l_c_Ground_depth ?c_c_Ground_depth ?k_c_Ground_depth ?a_c_Ground_budget ?pg_c_Ground_budget ?pt_c_Ground_budget ?rc_c_Ground_budget ?l_c_Ground_budget ?c_c_Ground_budget ?k_c_Ground_budget ?a_c_Ground_check_place ?fn_c_Ground_check_place ?t_c_Ground_check_place ?l_c_Ground_check_place ?c_c_Ground_check_place ?k_c_Ground_check_place ?a_c_Ground_check_guard ?fn_c_Ground_check_guard ?t_c_Ground_check_guard ?l_c_Ground_check_guard ?c_c_Ground_check_guard ?k_c_Ground_check_guard ?a_c_Ground_write ?fn_c_Ground_write ?t_c_Ground_write ?l_c_Ground_write ?c_c_Ground_write ?k_c_Ground_write ?a_c_Ground_poke ?fn_c_Ground_poke ?t_c_Ground_poke ?l_c_Ground_poke ?c_c_Ground_poke ?k_c_Ground_poke ?a_c_Ground_pass_on ?fn_c_Ground_pass_on ?t_c_Ground_pass_on ?l_c_Ground_pass_on ?c_c_Ground_pass_on ?k_c_Ground_pass_on ?a_c_Ground_check_fill ?fn_c_Ground_check_fill ?t_c_Ground_check_fill ?l_c_Ground_check_fill ?c_c_Ground_check_fill ?k_c_Ground_check_fill ?a_c_Ground_image ?fn_c_Ground_image ?t_c_Ground_image ?l_c_Ground_image ?c_c_Ground_image ?k_c_Ground_image ?a_c_Ground_begin ?fn_c_Ground_begin ?t_c_Ground_begin ?l_c_Ground_begin ?c_c_Ground_begin ?k_c_Ground_begin ?a_c_Ground_commit ?fn_c_Ground_commit ?t_c_Ground_commit ?l_c_Ground_commit ?c_c_Ground_commit ?k_c_Ground_commit ?a_c_Ground_cancel ?fn_c_Ground_cancel ?t_c_Ground_cancel ?l_c_Ground_cancel ?c_c_Ground_cancel ?k_c_Ground_cancel ?a_c_Ground_cost_since ?fn_c_Ground_cost_since ?t_c_Ground_cost_since ?l_c_Ground_cost_since ?c_c_Ground_cost_since ?k_c_Ground_cost_since ?a_c_Ground_change_cell ?fn_c_Ground_change_cell ?t_c_Ground_change_cell ?l_c_Ground_change_cell ?c_c_Ground_change_cell ?k_c_Ground_change_cell ?a_l_draws ?l_l_draws ?c_l_draws ?k_l_draws ?a_l_next_cell ?l_l_next_cell ?c_l_next_cell ?k_l_next_cell ?a_l_mixed ?l_l_mixed ?c_l_mixed ?k_l_mixed ?a_l_take ?l_l_take ?c_l_take ?k_l_take ?a_l_among ?l_l_among ?c_l_among ?k_l_among ?a_l_between ?l_l_between ?c_l_between ?k_l_between ?a_l_number ?l_l_number ?c_l_number ?k_l_number ?a_l_count ?l_l_count ?c_l_count ?k_l_count ?a_l_alignment ?l_l_alignment ?c_l_alignment ?k_l_alignment ?a_l_is_int ?l_l_is_int ?c_l_is_int ?k_l_is_int ?a_l_same ?l_l_same ?c_l_same ?k_l_same ?a_l_holders ?l_l_holders ?c_l_holders ?k_l_holders ?a_l_holder ?l_l_holder ?c_l_holder ?k_l_holder ?a_l_word ?l_l_word ?c_l_word ?k_l_word ?a_l_other_word ?l_l_other_word ?c_l_other_word ?k_l_other_word ?a_l_blank ?l_l_blank ?c_l_blank ?k_l_blank ?a_l_ground_args ?l_l_ground_args ?c_l_ground_args ?k_l_ground_args ?a_l_ground_deed ?l_l_ground_deed ?c_l_ground_deed ?k_l_ground_deed ?a_l_deed_due ?l_l_deed_due ?c_l_deed_due ?k_l_deed_due ?a_l_deed_made ?l_l_deed_made ?c_l_deed_made ?k_l_deed_made ?a_l_told ?l_l_told ?c_l_told ?k_l_told ?a_l_is_image_of ?l_l_is_image_of ?c_l_is_image_of ?k_l_is_image_of ?a_l_made ?l_l_made ?c_l_made ?k_l_made ?a_l_side ?l_l_side ?c_l_side ?k_l_side ?a_l_differing ?l_l_differing ?c_l_differing ?k_l_differing ?a_l_step ?l_l_step ?c_l_step ?k_l_step ?a_l_played ?l_l_played ?c_l_played ?k_l_played ?a_l_charged ?l_l_charged ?c_l_charged ?k_l_charged ?a_l_step_due ?l_l_step_due ?c_l_step_due ?k_l_step_due ?a_l_stands ?l_l_stands ?c_l_stands ?k_l_stands ?a_l_image_stands ?l_l_image_stands ?c_l_image_stands ?k_l_image_stands ?a_l_near_step ?l_l_near_step ?c_l_near_step ?k_l_near_step ?a_l_kept ?l_l_kept ?c_l_kept ?k_l_kept ?a_l_law ?l_l_law ?c_l_law ?k_l_law ?kd_Ground ?kx_Ground_fill ?kr_Ground_fill ?kx_Ground_budget ?kr_Ground_budget ?z_ValueError ?z_bool ?z_dict ?z_int ?z_isinstance ?z_len ?z_list ?z_max ?z_min ?z_range ?z_str ?z_tuple ?g_MAP ?r_MAP ?g_MOST_BUDGET ?r_MOST_BUDGET ?g_MOST_PAGES ?r_MOST_PAGES ?g_MOST_WORD ?r_MOST_WORD ?g_NOBODY ?r_NOBODY ?g_NODE ?r_NODE ?g_WIDTHS ?u_WIDTHS ?sa_StoreError ?ga_StoreError ?gg_StoreError ?cc_StoreError ?eb_StoreError ?ty_StoreError ?kp_StoreError ?hd_StoreError ?mo_StoreError ?sa_BadValue ?ga_BadValue ?gg_BadValue ?cc_BadValue ?eb_BadValue ?ty_BadValue ?kp_BadValue ?hd_BadValue ?mo_BadValue ?sa_Broken ?ga_Broken ?gg_Broken ?cc_Broken ?eb_Broken ?ty_Broken ?kp_Broken ?hd_Broken ?mo_Broken ?sa_Unknown ?ga_Unknown ?gg_Unknown ?cc_Unknown ?eb_Unknown ?ty_Unknown ?kp_Unknown ?hd_Unknown ?mo_Unknown ?sa_NotHeld ?ga_NotHeld ?gg_NotHeld ?cc_NotHeld ?eb_NotHeld ?ty_NotHeld ?kp_NotHeld ?hd_NotHeld ?mo_NotHeld ?sa_Fault ?ga_Fault ?gg_Fault ?cc_Fault ?eb_Fault ?ty_Fault ?kp_Fault ?hd_Fault ?mo_Fault ?sa_NoRoom ?ga_NoRoom ?gg_NoRoom ?cc_NoRoom ?eb_NoRoom ?ty_NoRoom ?kp_NoRoom ?hd_NoRoom ?mo_NoRoom ?sa_Cut ?ga_Cut ?gg_Cut ?cc_Cut ?eb_Cut ?ty_Cut ?kp_Cut ?hd_Cut ?mo_Cut ?sa_BadLine ?ga_BadLine ?gg_BadLine ?cc_BadLine ?eb_BadLine ?ty_BadLine ?kp_BadLine ?hd_BadLine ?mo_BadLine ?x_BadValue ?nf_BadValue_parameter ?nf_BadValue_told ?x_Broken ?nf_Broken_told ?nf_Broken_place ?nf_Broken_found ?nf_Broken_due ?x_Unknown ?nf_Unknown_told ?nf_Unknown_parameter ?x_NotHeld ?nf_NotHeld_told ?nf_NotHeld_place ?nf_NotHeld_found ?x_Fault ?nf_Fault_told ?nf_Fault_kind ?nf_Fault_place ?x_NoRoom ?nf_NoRoom_told ?nf_NoRoom_paper ?x_Cut ?nf_Cut_told ?nf_Cut_needed ?nf_Cut_left ?x_BadLine ?nf_BadLine_told ?nf_BadLine_line ?nf_BadLine_column ?pg_Ground ?hd_Ground ?po_Ground ?sa_Ground ?kp_Ground ?mi_Ground ?na_Ground_pages ?na_Ground_width ?na_Ground_fill ?na_Ground_allowance ?na_Ground_charged ?na_Ground_cell_words ?na_Ground_cell_holders ?na_Ground_open_deeds ?sp1 ?sp2 ?kit_BadValue_StoreError ?kit_BadValue_ValueError ?kit_Broken_StoreError ?kit_Broken_ValueError ?kit_Unknown_StoreError ?kit_Unknown_ValueError ?kit_NotHeld_StoreError ?kit_NotHeld_ValueError ?kit_Fault_StoreError ?kit_Fault_ValueError ?kit_NoRoom_StoreError ?kit_NoRoom_ValueError ?kit_Cut_StoreError ?kit_Cut_ValueError ?kit_BadLine_StoreError ?kit_BadLine_ValueError ?kit_BadValue_BadValue ?kit_BadValue_Broken ?kit_BadValue_Unknown ?kit_BadValue_NotHeld ?kit_BadValue_Fault ?kit_BadValue_NoRoom ?kit_BadValue_Cut ?kit_BadValue_BadLine ?kit_Broken_BadValue ?kit_Broken_Broken ?kit_Broken_Unknown ?kit_Broken_NotHeld ?kit_Broken_Fault ?kit_Broken_NoRoom ?kit_Broken_Cut ?kit_Broken_BadLine ?kit_Unknown_BadValue ?kit_Unknown_Broken ?kit_Unknown_Unknown ?kit_Unknown_NotHeld ?kit_Unknown_Fault ?kit_Unknown_NoRoom ?kit_Unknown_Cut ?kit_Unknown_BadLine ?kit_NotHeld_BadValue ?kit_NotHeld_Broken ?kit_NotHeld_Unknown ?kit_NotHeld_NotHeld ?kit_NotHeld_Fault ?kit_NotHeld_NoRoom ?kit_NotHeld_Cut ?kit_NotHeld_BadLine ?kit_Fault_BadValue ?kit_Fault_Broken ?kit_Fault_Unknown ?kit_Fault_NotHeld ?kit_Fault_Fault ?kit_Fault_NoRoom ?kit_Fault_Cut ?kit_Fault_BadLine ?kit_NoRoom_BadValue ?kit_NoRoom_Broken ?kit_NoRoom_Unknown ?kit_NoRoom_NotHeld ?kit_NoRoom_Fault ?kit_NoRoom_NoRoom ?kit_NoRoom_Cut ?kit_NoRoom_BadLine ?kit_Cut_BadValue ?kit_Cut_Broken ?kit_Cut_Unknown ?kit_Cut_NotHeld ?kit_Cut_Fault ?kit_Cut_NoRoom ?kit_Cut_Cut ?kit_Cut_BadLine ?kit_BadLine_BadValue ?kit_BadLine_Broken ?kit_BadLine_Unknown ?kit_BadLine_NotHeld ?kit_BadLine_Fault ?kit_BadLine_NoRoom ?kit_BadLine_Cut ?kit_BadLine_BadLine ?sub_BadValue_BadValue ?sub_Unknown_StoreError ?sub_NotHeld_StoreError ?sub_Broken_StoreError ?sub_Cut_StoreError
    (case q_StoreError => k_is)
    (case q_BadValue => k_is)
    (case q_Broken => k_is)
    (case q_Unknown => k_is)
    (case q_NotHeld => k_is)
    (case q_Fault => k_is)
    (case q_NoRoom => k_is)
    (case q_Cut => k_is)
    (case q_BadLine => k_is)
    (case q_Ground => k_is)
    (case a_c_BadValue_init => k_is)
    (case t_c_BadValue_init => k_is)
    (case l_c_BadValue_init => k_is)
    (case c_c_BadValue_init => k_is)
    (case k_c_BadValue_init => k_is)
    (case a_c_Broken_init => k_is)
    (case t_c_Broken_init => k_is)
    (case l_c_Broken_init => k_is)
    (case c_c_Broken_init => k_is)
    (case k_c_Broken_init => k_is)
    (case a_c_Unknown_init => k_is)
    (case t_c_Unknown_init => k_is)
    (case l_c_Unknown_init => k_is)
    (case c_c_Unknown_init => k_is)
    (case k_c_Unknown_init => k_is)
    (case a_c_NotHeld_init => k_is)
    (case t_c_NotHeld_init => k_is)
    (case l_c_NotHeld_init => k_is)
    (case c_c_NotHeld_init => k_is)
    (case k_c_NotHeld_init => k_is)
    (case a_c_Cut_init => k_is)
    (case t_c_Cut_init => k_is)
    (case l_c_Cut_init => k_is)
    (case c_c_Cut_init => k_is)
    (case k_c_Cut_init => k_is)
    (case a_p_is_whole => k_is)
    (case l_p_is_whole => k_is)
    (case c_p_is_whole => k_is)
    (case k_p_is_whole => k_is)
    (case a_p_whole_between => k_is)
    (case l_p_whole_between => k_is)
    (case c_p_whole_between => k_is)
    (case k_p_whole_between => k_is)
    (case a_p_is_holder => k_is)
    (case l_p_is_holder => k_is)
    (case c_p_is_holder => k_is)
    (case k_p_is_holder => k_is)
    (case a_p_is_between => k_is)
    (case l_p_is_between => k_is)
    (case c_p_is_between => k_is)
    (case k_p_is_between => k_is)
    (case a_p_is_width => k_is)
    (case l_p_is_width => k_is)
    (case c_p_is_width => k_is)
    (case k_p_is_width => k_is)
    (case a_p_is_budget => k_is)
    (case l_p_is_budget => k_is)
    (case c_p_is_budget => k_is)
    (case k_p_is_budget => k_is)
    (case a_c_Ground_init => k_is)
    (case fn_c_Ground_init => k_is)
    (case t_c_Ground_init => k_is)
    (case l_c_Ground_init => k_is)
    (case c_c_Ground_init => k_is)
    (case k_c_Ground_init => k_is)
    (case a_c_Ground_spent => k_is)
    (case pg_c_Ground_spent => k_is)
    (case pt_c_Ground_spent => k_is)
    (case rc_c_Ground_spent => first | exact ⟨_, rfl⟩ | exact ⟨_, by k_is⟩)
    (case l_c_Ground_spent => k_is)
    (case c_c_Ground_spent => k_is)
    (case k_c_Ground_spent => k_is)
    (case a_c_Ground_depth => k_is)
    (case pg_c_Ground_depth => k_is)
    (case pt_c_Ground_depth => k_is)
    (case rc_c_Ground_depth => first | exact ⟨_, rfl⟩ | exact ⟨_, by k_is⟩)
    (case l_c_Ground_depth => k_is)
    (case c_c_Ground_depth => k_is)
    (case k_c_Ground_depth => k_is)
    (case a_c_Ground_budget => k_is)
    (case pg_c_Ground_budget => k_is)
    (case pt_c_Ground_budget => k_is)
    (case rc_c_Ground_budget => first | exact ⟨_, rfl⟩ | exact ⟨_, by k_is⟩)
    (case l_c_Ground_budget => k_is)
    (case c_c_Ground_budget => k_is)
    (case k_c_Ground_budget => k_is)
    (case a_c_Ground_check_place => k_is)
    (case fn_c_Ground_check_place => k_is)
    (case t_c_Ground_check_place => k_is)
    (case l_c_Ground_check_place => k_is)
    (case c_c_Ground_check_place => k_is)
    (case k_c_Ground_check_place => k_is)
    (case a_c_Ground_check_guard => k_is)
    (case fn_c_Ground_check_guard => k_is)
    (case t_c_Ground_check_guard => k_is)
    (case l_c_Ground_check_guard => k_is)
    (case c_c_Ground_check_guard => k_is)
    (case k_c_Ground_check_guard => k_is)
    (case a_c_Ground_write => k_is)
    (case fn_c_Ground_write => k_is)
    (case t_c_Ground_write => k_is)
    (case l_c_Ground_write => k_is)
    (case c_c_Ground_write => k_is)
    (case k_c_Ground_write => k_is)
    (case a_c_Ground_poke => k_is)
    (case fn_c_Ground_poke => k_is)
    (case t_c_Ground_poke => k_is)
    (case l_c_Ground_poke => k_is)
    (case c_c_Ground_poke => k_is)
    (case k_c_Ground_poke => k_is)
    (case a_c_Ground_pass_on => k_is)
    (case fn_c_Ground_pass_on => k_is)
    (case t_c_Ground_pass_on => k_is)
    (case l_c_Ground_pass_on => k_is)
    (case c_c_Ground_pass_on => k_is)
    (case k_c_Ground_pass_on => k_is)
    (case a_c_Ground_check_fill => k_is)
    (case fn_c_Ground_check_fill => k_is)
    (case t_c_Ground_check_fill => k_is)
    (case l_c_Ground_check_fill => k_is)
    (case c_c_Ground_check_fill => k_is)
    (case k_c_Ground_check_fill => k_is)
    (case a_c_Ground_image => k_is)
    (case fn_c_Ground_image => k_is)
    (case t_c_Ground_image => k_is)
    (case l_c_Ground_image => k_is)
    (case c_c_Ground_image => k_is)
    (case k_c_Ground_image => k_is)
    (case a_c_Ground_begin => k_is)
    (case fn_c_Ground_begin => k_is)
    (case t_c_Ground_begin => k_is)
    (case l_c_Ground_begin => k_is)
    (case c_c_Ground_begin => k_is)
    (case k_c_Ground_begin => k_is)
    (case a_c_Ground_commit => k_is)
    (case fn_c_Ground_commit => k_is)
    (case t_c_Ground_commit => k_is)
    (case l_c_Ground_commit => k_is)
    (case c_c_Ground_commit => k_is)
    (case k_c_Ground_commit => k_is)
    (case a_c_Ground_cancel => k_is)
    (case fn_c_Ground_cancel => k_is)
    (case t_c_Ground_cancel => k_is)
    (case l_c_Ground_cancel => k_is)
    (case c_c_Ground_cancel => k_is)
    (case k_c_Ground_cancel => k_is)
    (case a_c_Ground_cost_since => k_is)
    (case fn_c_Ground_cost_since => k_is)
    (case t_c_Ground_cost_since => k_is)
    (case l_c_Ground_cost_since => k_is)
    (case c_c_Ground_cost_since => k_is)
    (case k_c_Ground_cost_since => k_is)
    (case a_c_Ground_change_cell => k_is)
    (case fn_c_Ground_change_cell => k_is)
    (case t_c_Ground_change_cell => k_is)
    (case l_c_Ground_change_cell => k_is)
    (case c_c_Ground_change_cell => k_is)
    (case k_c_Ground_change_cell => k_is)
    (case a_l_draws => k_is)
    (case l_l_draws => k_is)
    (case c_l_draws => k_is)
    (case k_l_draws => k_is)
    (case a_l_next_cell => k_is)
    (case l_l_next_cell => k_is)
    (case c_l_next_cell => k_is)
    (case k_l_next_cell => k_is)
    (case a_l_mixed => k_is)
    (case l_l_mixed => k_is)
    (case c_l_mixed => k_is)
    (case k_l_mixed => k_is)
    (case a_l_take => k_is)
    (case l_l_take => k_is)
    (case c_l_take => k_is)
    (case k_l_take => k_is)
    (case a_l_among => k_is)
    (case l_l_among => k_is)
    (case c_l_among => k_is)
    (case k_l_among => k_is)
    (case a_l_between => k_is)
    (case l_l_between => k_is)
    (case c_l_between => k_is)
    (case k_l_between => k_is)
    (case a_l_number => k_is)
    (case l_l_number => k_is)
    (case c_l_number => k_is)
    (case k_l_number => k_is)
    (case a_l_count => k_is)
    (case l_l_count => k_is)
    (case c_l_count => k_is)
    (case k_l_count => k_is)
    (case a_l_alignment => k_is)
    (case l_l_alignment => k_is)
    (case c_l_alignment => k_is)
    (case k_l_alignment => k_is)
    (case a_l_is_int => k_is)
    (case l_l_is_int => k_is)
    (case c_l_is_int => k_is)
    (case k_l_is_int => k_is)
    (case a_l_same => k_is)
    (case l_l_same => k_is)
    (case c_l_same => k_is)
    (case k_l_same => k_is)
    (case a_l_holders => k_is)
    (case l_l_holders => k_is)
    (case c_l_holders => k_is)
    (case k_l_holders => k_is)
    (case a_l_holder => k_is)
    (case l_l_holder => k_is)
    (case c_l_holder => k_is)
    (case k_l_holder => k_is)
    (case a_l_word => k_is)
    (case l_l_word => k_is)
    (case c_l_word => k_is)
    (case k_l_word => k_is)
    (case a_l_other_word => k_is)
    (case l_l_other_word => k_is)
    (case c_l_other_word => k_is)
    (case k_l_other_word => k_is)
    (case a_l_blank => k_is)
    (case l_l_blank => k_is)
    (case c_l_blank => k_is)
    (case k_l_blank => k_is)
    (case a_l_ground_args => k_is)
    (case l_l_ground_args => k_is)
    (case c_l_ground_args => k_is)
    (case k_l_ground_args => k_is)
    (case a_l_ground_deed => k_is)
    (case l_l_ground_deed => k_is)
    (case c_l_ground_deed => k_is)
    (case k_l_ground_deed => k_is)
    (case a_l_deed_due => k_is)
    (case l_l_deed_due => k_is)
    (case c_l_deed_due => k_is)
    (case k_l_deed_due => k_is)
    (case a_l_deed_made => k_is)
    (case l_l_deed_made => k_is)
    (case c_l_deed_made => k_is)
    (case k_l_deed_made => k_is)
    (case a_l_told => k_is)
    (case l_l_told => k_is)
    (case c_l_told => k_is)
    (case k_l_told => k_is)
    (case a_l_is_image_of => k_is)
    (case l_l_is_image_of => k_is)
    (case c_l_is_image_of => k_is)
    (case k_l_is_image_of => k_is)
    (case a_l_made => k_is)
    (case l_l_made => k_is)
    (case c_l_made => k_is)
    (case k_l_made => k_is)
    (case a_l_side => k_is)
    (case l_l_side => k_is)
    (case c_l_side => k_is)
    (case k_l_side => k_is)
    (case a_l_differing => k_is)
    (case l_l_differing => k_is)
    (case c_l_differing => k_is)
    (case k_l_differing => k_is)
    (case a_l_step => k_is)
    (case l_l_step => k_is)
    (case c_l_step => k_is)
    (case k_l_step => k_is)
    (case a_l_played => k_is)
    (case l_l_played => k_is)
    (case c_l_played => k_is)
    (case k_l_played => k_is)
    (case a_l_charged => k_is)
    (case l_l_charged => k_is)
    (case c_l_charged => k_is)
    (case k_l_charged => k_is)
    (case a_l_step_due => k_is)
    (case l_l_step_due => k_is)
    (case c_l_step_due => k_is)
    (case k_l_step_due => k_is)
    (case a_l_stands => k_is)
    (case l_l_stands => k_is)
    (case c_l_stands => k_is)
    (case k_l_stands => k_is)
    (case a_l_image_stands => k_is)
    (case l_l_image_stands => k_is)
    (case c_l_image_stands => k_is)
    (case k_l_image_stands => k_is)
    (case a_l_near_step => k_is)
    (case l_l_near_step => k_is)
    (case c_l_near_step => k_is)
    (case k_l_near_step => k_is)
    (case a_l_kept => k_is)
    (case l_l_kept => k_is)
    (case c_l_kept => k_is)
    (case k_l_kept => k_is)
    (case a_l_law => k_is)
    (case l_l_law => k_is)
    (case c_l_law => k_is)
    (case k_l_law => k_is)
    (case kd_Ground => rfl)
    (case kx_Ground_fill => k_is)
    (case kr_Ground_fill => first | exact rfl | exact ⟨_, rfl⟩)
    (case kx_Ground_budget => k_is)
    (case kr_Ground_budget => first | exact rfl | exact ⟨_, rfl⟩)
    (case z_ValueError => k_is)
    (case z_bool => k_is)
    (case z_dict => k_is)
    (case z_int => k_is)
    (case z_isinstance => k_is)
    (case z_len => k_is)
    (case z_list => k_is)
    (case z_max => k_is)
    (case z_min => k_is)
    (case z_range => k_is)
    (case z_str => k_is)
    (case z_tuple => k_is)
    (case g_MAP => k_is)
    (case r_MAP => exact ⟨_, rfl⟩)
    (case g_MOST_BUDGET => k_is)
    (case r_MOST_BUDGET => exact ⟨_, rfl⟩)
    (case g_MOST_PAGES => k_is)
    (case r_MOST_PAGES => exact ⟨_, rfl⟩)
    (case g_MOST_WORD => k_is)
    (case r_MOST_WORD => exact ⟨_, rfl⟩)
    (case g_NOBODY => k_is)
    (case r_NOBODY => exact ⟨_, rfl⟩)
    (case g_NODE => k_is)
    (case r_NODE => exact ⟨_, rfl⟩)
    (case g_WIDTHS => k_is)
    (case u_WIDTHS => first | exact ⟨_, _, _, rfl, rfl, rfl, by decide, .cons ⟨_, rfl⟩ (.cons ⟨_, rfl⟩ (.cons ⟨_, rfl⟩ (.nil)))⟩ | exact ⟨_, _, _, by k_is, rfl, rfl, by decide, .cons ⟨_, rfl⟩ (.cons ⟨_, rfl⟩ (.cons ⟨_, rfl⟩ (.nil)))⟩)
    (case sa_StoreError => k_is)
    (case ga_StoreError => k_is)
    (case gg_StoreError => k_is)
    (case cc_StoreError => k_is)
    (case eb_StoreError => k_is)
    (case ty_StoreError => k_is)
    (case kp_StoreError => k_is)
    (case hd_StoreError => k_is)
    (case mo_StoreError => k_is)
    (case sa_BadValue => k_is)
    (case ga_BadValue => k_is)
    (case gg_BadValue => k_is)
    (case cc_BadValue => k_is)
    (case eb_BadValue => k_is)
    (case ty_BadValue => k_is)
    (case kp_BadValue => k_is)
    (case hd_BadValue => k_is)
    (case mo_BadValue => k_is)
    (case sa_Broken => k_is)
    (case ga_Broken => k_is)
    (case gg_Broken => k_is)
    (case cc_Broken => k_is)
    (case eb_Broken => k_is)
    (case ty_Broken => k_is)
    (case kp_Broken => k_is)
    (case hd_Broken => k_is)
    (case mo_Broken => k_is)
    (case sa_Unknown => k_is)
    (case ga_Unknown => k_is)
    (case gg_Unknown => k_is)
    (case cc_Unknown => k_is)
    (case eb_Unknown => k_is)
    (case ty_Unknown => k_is)
    (case kp_Unknown => k_is)
    (case hd_Unknown => k_is)
    (case mo_Unknown => k_is)
    (case sa_NotHeld => k_is)
    (case ga_NotHeld => k_is)
    (case gg_NotHeld => k_is)
    (case cc_NotHeld => k_is)
    (case eb_NotHeld => k_is)
    (case ty_NotHeld => k_is)
    (case kp_NotHeld => k_is)
    (case hd_NotHeld => k_is)
    (case mo_NotHeld => k_is)
    (case sa_Fault => k_is)
    (case ga_Fault => k_is)
    (case gg_Fault => k_is)
    (case cc_Fault => k_is)
    (case eb_Fault => k_is)
    (case ty_Fault => k_is)
    (case kp_Fault => k_is)
    (case hd_Fault => k_is)
    (case mo_Fault => k_is)
    (case sa_NoRoom => k_is)
    (case ga_NoRoom => k_is)
    (case gg_NoRoom => k_is)
    (case cc_NoRoom => k_is)
    (case eb_NoRoom => k_is)
    (case ty_NoRoom => k_is)
    (case kp_NoRoom => k_is)
    (case hd_NoRoom => k_is)
    (case mo_NoRoom => k_is)
    (case sa_Cut => k_is)
    (case ga_Cut => k_is)
    (case gg_Cut => k_is)
    (case cc_Cut => k_is)
    (case eb_Cut => k_is)
    (case ty_Cut => k_is)
    (case kp_Cut => k_is)
    (case hd_Cut => k_is)
    (case mo_Cut => k_is)
    (case sa_BadLine => k_is)
    (case ga_BadLine => k_is)
    (case gg_BadLine => k_is)
    (case cc_BadLine => k_is)
    (case eb_BadLine => k_is)
    (case ty_BadLine => k_is)
    (case kp_BadLine => k_is)
    (case hd_BadLine => k_is)
    (case mo_BadLine => k_is)
    (case x_BadValue => k_is)
    (case nf_BadValue_parameter => k_is)
    (case nf_BadValue_told => k_is)
    (case x_Broken => k_is)
    (case nf_Broken_told => k_is)
    (case nf_Broken_place => k_is)
    (case nf_Broken_found => k_is)
    (case nf_Broken_due => k_is)
    (case x_Unknown => k_is)
    (case nf_Unknown_told => k_is)
    (case nf_Unknown_parameter => k_is)
    (case x_NotHeld => k_is)
    (case nf_NotHeld_told => k_is)
    (case nf_NotHeld_place => k_is)
    (case nf_NotHeld_found => k_is)
    (case x_Fault => k_is)
    (case nf_Fault_told => k_is)
    (case nf_Fault_kind => k_is)
    (case nf_Fault_place => k_is)
    (case x_NoRoom => k_is)
    (case nf_NoRoom_told => k_is)
    (case nf_NoRoom_paper => k_is)
    (case x_Cut => k_is)
    (case nf_Cut_told => k_is)
    (case nf_Cut_needed => k_is)
    (case nf_Cut_left => k_is)
    (case x_BadLine => k_is)
    (case nf_BadLine_told => k_is)
    (case nf_BadLine_line => k_is)
    (case nf_BadLine_column => k_is)
    (case pg_Ground => k_is)
    (case hd_Ground => k_is)
    (case po_Ground => k_is)
    (case sa_Ground => k_is)
    (case kp_Ground => k_is)
    (case mi_Ground => k_is)
    (case na_Ground_pages => k_is)
    (case na_Ground_width => k_is)
    (case na_Ground_fill => k_is)
    (case na_Ground_allowance => k_is)
    (case na_Ground_charged => k_is)
    (case na_Ground_cell_words => k_is)
    (case na_Ground_cell_holders => k_is)
    (case na_Ground_open_deeds => k_is)
    (case sp1 => k_is)
    (case sp2 => k_is)
    (case kit_BadValue_StoreError => first | rfl | k_is)
    (case kit_BadValue_ValueError => first | rfl | k_is)
    (case kit_Broken_StoreError => first | rfl | k_is)
    (case kit_Broken_ValueError => first | rfl | k_is)
    (case kit_Unknown_StoreError => first | rfl | k_is)
    (case kit_Unknown_ValueError => first | rfl | k_is)
    (case kit_NotHeld_StoreError => first | rfl | k_is)
    (case kit_NotHeld_ValueError => first | rfl | k_is)
    (case kit_Fault_StoreError => first | rfl | k_is)
    (case kit_Fault_ValueError => first | rfl | k_is)
    (case kit_NoRoom_StoreError => first | rfl | k_is)
    (case kit_NoRoom_ValueError => first | rfl | k_is)
    (case kit_Cut_StoreError => first | rfl | k_is)
    (case kit_Cut_ValueError => first | rfl | k_is)
    (case kit_BadLine_StoreError => first | rfl | k_is)
    (case kit_BadLine_ValueError => first | rfl | k_is)
    (case kit_BadValue_BadValue => first | rfl | k_is)
    (case kit_BadValue_Broken => first | rfl | k_is)
    (case kit_BadValue_Unknown => first | rfl | k_is)
    (case kit_BadValue_NotHeld => first | rfl | k_is)
    (case kit_BadValue_Fault => first | rfl | k_is)
    (case kit_BadValue_NoRoom => first | rfl | k_is)
    (case kit_BadValue_Cut => first | rfl | k_is)
    (case kit_BadValue_BadLine => first | rfl | k_is)
    (case kit_Broken_BadValue => first | rfl | k_is)
    (case kit_Broken_Broken => first | rfl | k_is)
    (case kit_Broken_Unknown => first | rfl | k_is)
    (case kit_Broken_NotHeld => first | rfl | k_is)
    (case kit_Broken_Fault => first | rfl | k_is)
    (case kit_Broken_NoRoom => first | rfl | k_is)
    (case kit_Broken_Cut => first | rfl | k_is)
    (case kit_Broken_BadLine => first | rfl | k_is)
    (case kit_Unknown_BadValue => first | rfl | k_is)
    (case kit_Unknown_Broken => first | rfl | k_is)
    (case kit_Unknown_Unknown => first | rfl | k_is)
    (case kit_Unknown_NotHeld => first | rfl | k_is)
    (case kit_Unknown_Fault => first | rfl | k_is)
    (case kit_Unknown_NoRoom => first | rfl | k_is)
    (case kit_Unknown_Cut => first | rfl | k_is)
    (case kit_Unknown_BadLine => first | rfl | k_is)
    (case kit_NotHeld_BadValue => first | rfl | k_is)
    (case kit_NotHeld_Broken => first | rfl | k_is)
    (case kit_NotHeld_Unknown => first | rfl | k_is)
    (case kit_NotHeld_NotHeld => first | rfl | k_is)
    (case kit_NotHeld_Fault => first | rfl | k_is)
    (case kit_NotHeld_NoRoom => first | rfl | k_is)
    (case kit_NotHeld_Cut => first | rfl | k_is)
    (case kit_NotHeld_BadLine => first | rfl | k_is)
    (case kit_Fault_BadValue => first | rfl | k_is)
    (case kit_Fault_Broken => first | rfl | k_is)
    (case kit_Fault_Unknown => first | rfl | k_is)
    (case kit_Fault_NotHeld => first | rfl | k_is)
    (case kit_Fault_Fault => first | rfl | k_is)
    (case kit_Fault_NoRoom => first | rfl | k_is)
    (case kit_Fault_Cut => first | rfl | k_is)
    (case kit_Fault_BadLine => first | rfl | k_is)
    (case kit_NoRoom_BadValue => first | rfl | k_is)
    (case kit_NoRoom_Broken => first | rfl | k_is)
    (case kit_NoRoom_Unknown => first | rfl | k_is)
    (case kit_NoRoom_NotHeld => first | rfl | k_is)
    (case kit_NoRoom_Fault => first | rfl | k_is)
    (case kit_NoRoom_NoRoom => first | rfl | k_is)
    (case kit_NoRoom_Cut => first | rfl | k_is)
    (case kit_NoRoom_BadLine => first | rfl | k_is)
    (case kit_Cut_BadValue => first | rfl | k_is)
    (case kit_Cut_Broken => first | rfl | k_is)
    (case kit_Cut_Unknown => first | rfl | k_is)
    (case kit_Cut_NotHeld => first | rfl | k_is)
    (case kit_Cut_Fault => first | rfl | k_is)
    (case kit_Cut_NoRoom => first | rfl | k_is)
    (case kit_Cut_Cut => first | rfl | k_is)
    (case kit_Cut_BadLine => first | rfl | k_is)
    (case kit_BadLine_BadValue => first | rfl | k_is)
    (case kit_BadLine_Broken => first | rfl | k_is)
    (case kit_BadLine_Unknown => first | rfl | k_is)
    (case kit_BadLine_NotHeld => first | rfl | k_is)
    (case kit_BadLine_Fault => first | rfl | k_is)
    (case kit_BadLine_NoRoom => first | rfl | k_is)
    (case kit_BadLine_Cut => first | rfl | k_is)
    (case kit_BadLine_BadLine => first | rfl | k_is)
    (case sub_BadValue_BadValue => first | rfl | k_is)
    (case sub_Unknown_StoreError => first | rfl | k_is)
    (case sub_NotHeld_StoreError => first | rfl | k_is)
    (case sub_Broken_StoreError => first | rfl | k_is)
    (case sub_Cut_StoreError => first | rfl | k_is)
