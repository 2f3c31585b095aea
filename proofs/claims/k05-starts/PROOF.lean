import PyProof.Rows.All
import Wide.All
import OpenK.AllK
import Wide.FinOn
import HandS.ForMost
import HandS.ForExc
import HandS.ExcInit
import HandS.ExcField
import HandS.ExcIs
import HandS.IsInst
import HandS.HotCalls
import HandS.Wide
import HandS.WideBits
import HandS.Flow
import KE.KExcIs
import KE.KCount
import KE.KBytesJoin
import HandS.More
import HandS.Text
import HandS.WordsExc
import HandS.ExcValue
import HandS.Property
import HandS.MakeKwOnly
import HandS.Iter
import HandS.SortRule
import HandS.TupSets
import HandS.SortInts
import HandS.DictComp
import HandS.Conv
import HandS.Defaults
import HandS.NoneIn
import HandS.TupAny
import HandS.ExcOwn
import KE.DataMinMax
import PySem.Challenge.RW_allgivenback_k05_starts
set_option Elab.async false
set_option linter.all false
set_option maxRecDepth 100000
set_option maxHeartbeats 3000000
namespace Gv
open PySem L2 PySem.Spec PyProof.Rows
/-! ## Rules -/
/-! Own rules: a caught exception tracked in the abstract heap; defs that run while one is handled. -/
abbrev St := L2.St
/-- at a: an exception object of the class cls, its dict at d -/
def exi (a : Addr) (cls : Value) (d : Option Addr) : HO := .ext fun g => ∃ (ob : Obj) (fv : Array Value), g.get? a = some ob ∧ L2N.Zn cls d ob ∧ ob.data = .fields fv
theorem exi_ok {P : Program} {w : World} {H : Hp} {g : Heap} {a : Addr} {cls : Value} {d : Option Addr} {ob : Obj} {fv : Array Value} (e : g.get? a = some ob) (z : L2N.Zn cls d ob) (hd : ob.data = .fields fv) : ObjOk P w H g a (exi a cls d) :=
  ⟨⟨ob, fv, e, z, hd⟩, ⟨ob, e⟩, fun _ _ ⟨o, v, q, r⟩ k => ⟨o, v, k o q, r⟩⟩
theorem exi_at {P : Program} {w : World} {H : Hp} {g : Heap} {a : Addr} {cls : Value} {d : Option Addr} (ok : HOk P w H g) (he : H a = some (exi a cls d)) : ∃ (ob : Obj) (fv : Array Value), g.get? a = some ob ∧ L2N.Zn cls d ob ∧ ob.data = .fields fv :=
  (show ObjOk P w H g a (.ext fun g => ∃ (ob : Obj) (fv : Array Value), g.get? a = some ob ∧ L2N.Zn cls d ob ∧ ob.data = .fields fv) from ok a _ he).1
/-- a pinned exception that the entry did not know becomes a tracked one -/
theorem track {X : Cx} {σ : St} {H : Hp} {s : Shared} {a : Addr} {ob : Obj} {pn : List (Addr × Obj)} {cls : Value} {d : Option Addr} (okX : X.Ok) (I : Inv (X.suite a ((a, ob) :: pn)) [] σ H s) (new0 : X.s_0.heap.get? a = none) (off : ∀ p ∈ pn, p.1 ≠ a) (hz : L2N.Zn cls d ob) (hd : ∃ fv, ob.data = .fields fv) :
    Inv (X.suite a pn) [] σ (upd H a (exi a cls d)) s := by
  obtain ⟨at0, free0, nloc, _, ncell⟩ := I.pin (a, ob) (List.mem_append_left _ List.mem_cons_self)
  obtain ⟨fv, hd⟩ := hd
  have old : ∀ {b : Addr} {o : HO}, H b = some o → upd H a (exi a cls d) b = some o := fun {b o} e => by rw [upd_ne (ne_of_none e free0)]; exact e
  have non : ∀ {b : Addr}, b ≠ a → H b = none → upd H a (exi a cls d) b = none := fun {b} n e => by rw [upd_ne n]; exact e
  exact
    { ok := okX.suite _ _, os := I.os, bare := I.bare, loc := I.loc, cell := I.cell, len := I.len
      base :=
        { keep := I.base.keep, slot := I.base.slot, there := I.base.there
          free := fun b o e n hx => non (fun z => by rw [z, new0] at e; cases e) (I.base.free b o e n hx)
          tups := fun b xs e => old (I.base.tups b xs e), frzs := fun b o u e => old (I.base.frzs b o u e)
          tbls := fun b ps e => (I.base.tbls b ps e).elim fun m q => ⟨m, old q⟩ }
      free := non (Ne.symm nloc) I.free
      freeC := fun x c e => non (fun z => (I.cell x c e).elim fun v ⟨o, ho, hv⟩ => ncell v (by rw [z] at ho; have q := Option.some.inj (at0.symm.trans ho); rw [← hv, ← q])) (I.freeC x c e)
      pin := fun p hp => by
        have hp' : p ∈ pn := by simpa using hp
        obtain ⟨c1, c2, c3⟩ := I.pin p (List.mem_append_left _ (List.mem_cons_of_mem _ hp'))
        exact ⟨c1, non (off p hp') c2, c3⟩
      hok := fun b o e => by
        by_cases hb : b = a
        · rw [hb, upd_same] at e
          rw [hb, ← Option.some.inj e]
          exact exi_ok at0 hz hd
        · rw [upd_ne hb] at e
          exact (I.hok b o e).stay (fun _ _ _ q => q) (fun _ q => old q) fun _ _ q => old q }
theorem unsuite0 {X : Cx} {pins pn' : List (Addr × Obj)} {σ : St} {H : Hp} {s : Shared} {a : Addr} (I : Inv (X.suite a (X.pn ++ pins)) pn' σ H s) (okX : X.Ok) : Inv X pins σ H s :=
  { ok := okX, os := I.os, bare := I.bare, base := I.base, loc := I.loc, cell := I.cell, free := I.free, freeC := I.freeC, pin := fun p hp => I.pin p (List.mem_append_left _ hp), hok := I.hok, len := I.len }
/-- except x as n: the exception is tracked while the suite runs, and behind it -/
def wAsD (K : PySem.W.Frag) (c : Value) (i : Nat) (ts : Addr → TS) (Wout : WX) (D : Ends) : WX := fun cls d σ H => ∃ yes, PySem.W.exmOne K cls c = some yes ∧ (yes = false → Wout cls d σ H) ∧
  (yes = true → ∀ a, H a = none → ts a ⟨fun σ' H' => D.nx (σ'.set i none) H', D.rt, fun σ' H' => D.bk (σ'.set i none) H', fun σ' H' => D.ct (σ'.set i none) H'⟩ (σ.set i (some (.ref a))) (upd H a (exi a cls d)))
def wAsT (K : PySem.W.Frag) (c : Value) (i : Nat) (ts : TS) (Wout : WX) (D : Ends) : WX := wAsD K c i (fun _ => ts) Wout D
section
variable {X : Cx} {x n : Str} {c : Value} {i : Nat} {body suite : List Stmt} {b₀ : Stmt} {np pos pos' : Pos} {tb : WX → TS} {ts : Addr → TS} {Wout : WX} {pins : List (Addr × Obj)} {D : Ends}
/-- the way of an exception of the body into the clause -/
theorem caught (hs : X.stack = X.env :: X.outer) (hf : X.env.frame = some X.env.locals) (hex : X.ex = []) (hN : X.N.Nodup) (hi : X.N[i]? = some n) (hln : X.env.kindOf n = some .local) (hc : Names X x c) (tk : L2N.Takes X Wout)
    (hsu : ∀ (a : Addr) (pn : List (Addr × Obj)), PSs (X.suite a pn) (b₀ :: suite) (ts a)) (okX : X.Ok) {ev : Value} {sE : Shared} {xe : Value → Shared → Prop} (air : L2N.XE (X.tr (X.pn ++ pins) xe) (wAsD X.K c i ts Wout D) ev sE) :
    wpAny (model X.prog X.w) X.A (noteFrame ev X.env) (fun _ s2 => wpAny (model X.prog X.w) X.A (setFlight ev none) (fun _ s3 => wpAny (model X.prog X.w) X.A (handleBy ev X.env [.ExceptHandler (some (.Name x np)) (some n) (b₀ :: suite) pos']) (SP X pins D) X.xe s3) X.xe s2) X.xe sE := by
  obtain ⟨ea, gr, sG, pG, σ1, H1, cls, dd, rfl, J1, inB, lift, sky, unk, eos, ebare, yes, hyes, hout, hin⟩ := air
  have J : Inv X pins σ1 H1 sG := J1.ofTry okX
  rw [show (X.tr (X.pn ++ pins) xe).stack = X.env :: X.outer from hs] at inB sky
  have frm : X.A.frames = some (X.env :: X.outer) := hs ▸ okX.frames
  have inB' : ∀ b o, sG.heap.get? b = some o → b ∉ frs X.stack → gr.get? b = some o := by rw [hs]; exact inB
  refine L2N.Sky.land L2N.Zn.steady frm hf sky fun hA flA upA => ?_
  obtain ⟨obA, fvA, getA, zA, dA⟩ := flA.there
  have offFr : ea ∉ frs (X.env :: X.outer) := fun hm => (flA.2.2.1.mem hm).elim fun _ ⟨o', e', hn⟩ => by
    rw [getA] at e'
    cases e'
    exact hn _ dA
  have offL : ea ≠ X.env.locals := fun z => offFr (List.mem_filterMap.mpr ⟨X.env, List.mem_cons_self, z ▸ hf⟩)
  have offF : ea ∉ X.fs := fun hm => offFr ((List.mem_filterMap.mp hm).elim fun e ⟨he, q⟩ => List.mem_filterMap.mpr ⟨e, List.mem_cons_of_mem _ he, q⟩)
  have newG : sG.heap.get? ea = none := by
    cases e : sG.heap.get? ea with
    | none => rfl
    | some o => exact absurd ((inB ea o e offFr).symm.trans flA.2.1) (by simp)
  have new0 : X.s_0.heap.get? ea = none := by
    cases e : X.s_0.heap.get? ea with
    | none => rfl
    | some o => exact (J.base.there ea o e (by rw [hex]; simp)).elim fun o' q => absurd (q.symm.trans newG) (by simp)
  have off : ∀ p ∈ X.pn ++ pins, p.1 ≠ ea := fun p hp z => absurd ((J.pin p hp).1.symm.trans (z ▸ newG)) (by simp)
  have JA : Inv X pins σ1 H1 { sE with heap := hA } := J.landed inB' flA.1 (lift.trans upA) eos ebare
  have SA := JA.suite getA dA unk offL offF
  refine wpAny_handleBy_cons (codeAny_handlers_test ?_) (fun q => nomatch q)
  have clsOf : PySem.W.Looks (model X.prog X.w) hA (typeOf (.ref ea)) cls := fun _ _ _ _ k q => wpAny_typeOf_ref (k _ _ getA) (by rw [zA.1]; exact q)
  have look : ∀ {Q : Value → Shared → Prop} {E : Value → Shared → Prop}, Q c { sE with heap := hA } → wpAny (model X.prog X.w) (X.A.mark (some (.ref ea))) (eval (.Name x np) X.env) Q E { sE with heap := hA } := fun {Q E} q => by
    rcases hc with ⟨hg, hdb, hm | ⟨hm, hv, hnn⟩⟩
    · exact ld_glob (X := X.suite ea ((ea, obA) :: (X.pn ++ pins))) SA hg hm q hdb
    · exact ld_blt (X := X.suite ea ((ea, obA) :: (X.pn ++ pins))) SA hg hm hv q hnn hdb
  refine look ((PySem.W.exm_one (M := model X.prog X.w) JA.kIn clsOf hyes).here ?_)
  cases yes with
  | false =>
    refine wpAny_handleBy_nil ?_
    obtain ⟨_, _, _, ob, fv, tr, _, _, e1, _, e3, e4, _⟩ := id flA
    have up : wpAny (model X.prog X.w) X.A (setFlight (.ref ea) X.env.frame) (fun _ s4 => wpAny (model X.prog X.w) X.A (throw (.ref ea) : Sem Flow) (SP X pins D) X.xe s4) X.xe { sE with heap := hA } := by
      rw [hf]
      exact HandSPX.setFlight_upZ flA fun h4 held u4 => wpAny_throw (tk _ _ ⟨ea, gr, sG, pins, σ1, H1, cls, dd, rfl, J, inB', (lift.trans upA).trans u4, .inr (.inr (by rw [hs]; exact held)), unk, eos, ebare, hout rfl⟩)
    unfold PySem.passOn
    refine wpAny_bind (wpAny_field e1 e3 e4 ?_)
    rw [if_neg (show ¬ ((Value.ref tr == Value.none) = true) by simp)]
    first
      | exact wpAny_bind up
      | exact wpAny_bind (wpAny_pure (wpAny_bind up))
  | true =>
    refine codeAny_handlers_suite_as (HandSPX.lands_againZ flA fun hB flB upB => ?_)
    obtain ⟨obB, fvB, getB, zB, dB⟩ := flB.there
    have SB := (J.landed (s' := { sE with heap := hB }) inB' flB.1 ((lift.trans upA).trans upB) eos ebare).suite getB dB unk offL offF
    refine store_ok (X := X.suite ea ((ea, obB) :: (X.pn ++ pins))) (v := .ref ea) SB hN hi (.inl hln) rfl (fun s5 S5 => ?_) (.inr hln)
    refine wpAny_mono ((hsu ea (X.pn ++ pins)).run [] s5 _ _ _ (track okX S5 new0 off zB ⟨_, dB⟩) (hin rfl ea unk)) (fun fl s6 r6 => ?_) (fun _ _ z => z.elim)
    have shut : ∀ {σ6 : St} {H6 : Hp} {R : Shared → Prop}, Inv (X.suite ea (X.pn ++ pins)) [] σ6 H6 s6 → (∀ s7, Inv X pins (σ6.set i none) H6 s7 → R s7) →
        wpAny (model X.prog X.w) X.A (do bindName X.env n .none; unbindBehindTheSuite X.env n pos') (fun _ s7 => R s7) X.xe s6 := fun S6 hR => gone_ok (unsuite0 S6 okX) hN hi hln hR
    cases fl with
    | ret u => exact r6.elim fun v ⟨_, _, S6, rv, q⟩ => shut S6 fun _ J7 => ⟨v, _, _, J7, rv, q⟩
    | _ => exact r6.elim fun _ ⟨_, S6, q⟩ => shut S6 fun _ J7 => ⟨_, _, J7, q⟩
theorem ps_try_asD (hs : X.stack = X.env :: X.outer) (hf : X.env.frame = some X.env.locals) (hex : X.ex = []) (hN : X.N.Nodup) (hi : X.N[i]? = some n) (hln : X.env.kindOf n = some .local) (hc : Names X x c) (tk : L2N.Takes X Wout)
    (bod : ∀ (W : WX) (pn : List (Addr × Obj)) (xe : Value → Shared → Prop), L2N.Takes (X.tr pn xe) W → PassesOwn (model X.prog X.w) X.A X.env xe → PSs (X.tr pn xe) body (tb W))
    (hsu : ∀ (a : Addr) (pn : List (Addr × Obj)), PSs (X.suite a pn) (b₀ :: suite) (ts a)) :
    PS X (.Try body [.ExceptHandler (some (.Name x np)) (some n) (b₀ :: suite) pos'] [] [] pos) (fun D σ H => tb (wAsD X.K c i ts Wout D) D σ H) := by
  constructor
  intro pins s σ H D I h
  have okX := I.ok
  refine wpAny_Try_except (wpAny_mono ((bod (wAsD X.K c i ts Wout D) (X.pn ++ pins) _ (fun u s' z => caught hs hf hex hN hi hln hc tk hsu okX z) PassesOwn.looking).run [] s σ H D (I.toTry _) h) (fun fl s1 r => ?_) (fun _ _ z => z))
  cases fl with
  | next => exact r.elim fun _ ⟨_, J, q⟩ => wpAny_execs_nil ⟨_, _, J.ofTry okX, q⟩
  | ret u => exact r.elim fun v ⟨_, _, J, rv, q⟩ => ⟨v, _, _, J.ofTry okX, rv, q⟩
  | _ => exact r.elim fun _ ⟨_, J, q⟩ => ⟨_, _, J.ofTry okX, q⟩
theorem ps_try_asT {ts : TS} (hs : X.stack = X.env :: X.outer) (hf : X.env.frame = some X.env.locals) (hex : X.ex = []) (hN : X.N.Nodup) (hi : X.N[i]? = some n) (hln : X.env.kindOf n = some .local) (hc : Names X x c) (tk : L2N.Takes X Wout)
    (bod : ∀ (W : WX) (pn : List (Addr × Obj)) (xe : Value → Shared → Prop), L2N.Takes (X.tr pn xe) W → PassesOwn (model X.prog X.w) X.A X.env xe → PSs (X.tr pn xe) body (tb W))
    (hsu : ∀ (a : Addr) (pn : List (Addr × Obj)), PSs (X.suite a pn) (b₀ :: suite) ts) :
    PS X (.Try body [.ExceptHandler (some (.Name x np)) (some n) (b₀ :: suite) pos'] [] [] pos) (fun D σ H => tb (wAsT X.K c i ts Wout D) D σ H) :=
  ps_try_asD hs hf hex hN hi hln hc tk bod hsu
end
/-! ### defs that may be called while an exception is handled -/
structure FnU (P : Program) (w : World) (K : PySem.W.Frag) (mg : Str → Option Value) (base : Heap) (k : Nat) (f : Addr) (fd : FuncData) (ps : List Str) (sp : Sp) : Prop where
  len : ∀ xs G R Z, sp xs G R Z → xs.length = ps.length
  run : ∀ (A : Around) (outer : List Env) (s : Shared) (H : Hp) (args : Args) (us : List Value) (vs : List V) (Q : VK) (E : XK), L2H.RoomH k A → Env0 P w K mg base A outer s H → BindsTo s fd args (ps.zip us) → Vals vs us → sp vs H Q E → codeAny (model P w) A (.call (.ref f) args) (CR CX0 outer P w H s Q E) s
def cxU (P : Program) (w : World) (K : PySem.W.Frag) (mg : Str → Option Value) (base : Heap) (N : List Str) (qual : Str) (scope : Scope) (f : Addr) (cd : Value) (A : Around) (outer : List Env) (s : Shared) (H : Hp) (E : XK) : Cx :=
  { cxOf CX0 P w K mg base N qual scope f cd A outer s H E with calm := false }
/-- the entry, from the quiet one: nothing but the calm speaks of what is handled -/
theorem inv_startU {P : Program} {w : World} {K : PySem.W.Frag} {mg : Str → Option Value} {base : Heap} {N ps : List Str} {qual : Str} {scope : Scope} {f : Addr} {cd : Value} {A : Around} {outer : List Env} {s s1 : Shared} {H : Hp} {E : XK} {us : List Value} {vs : List V}
    (S : FnScope N ps scope) (e0 : Env0 P w K mg base A outer s H) (hl : vs.length = ps.length) (r : Vals vs us)
    (ic : InCallC s s.heap.objs.size (bindL (envOfC qual scope s.heap.objs.size f cd).kindOf (ps.zip us) fun _ => none) (cellsFrom (s.heap.objs.size + 1) scope.names []) (bindC (envOfC qual scope s.heap.objs.size f cd).kindOf (ps.zip us) fun _ => none) s1) :
    Inv (cxU P w K mg base N qual scope f cd A outer s H E) [] (L2.start N vs) H s1 := by
  have e1 : Env0 P w K mg base { A with handled := none } outer s H := ⟨e0.frames, e0.mod, e0.bs, e0.bsz, e0.funs, e0.frf, e0.hok, e0.bare⟩
  have I := inv_start (CX := CX0) (E := E) (cd := cd) (f := f) (qual := qual) S (A := { A with handled := none }) rfl e1 hl r ic
  have o := I.ok
  exact
    { ok := { mod := o.mod, kind := o.kind, glob := o.glob, blt := o.blt, above := o.above, inj := o.inj, has := o.has, cab := o.cab, hd := fun z => Bool.noConfusion (show false = true from z), frames := Around.frames_deeper e0.frames, stk := o.stk, exf := o.exf, bs := o.bs, bsz := o.bsz, noex := o.noex, exfs := o.exfs, funs := o.funs, frf := o.frf }
      os := I.os, bare := I.bare, base := I.base, loc := I.loc, cell := I.cell, free := I.free, freeC := I.freeC, pin := I.pin, hok := I.hok, len := I.len }
theorem Fun_okU {P : Program} {w : World} {K : PySem.W.Frag} {mg : Str → Option Value} {base : Heap} {x qual : Str} {st : Stmt} {f : Addr} {fd : FuncData} {N ps : List Str} {k : Nat} {sp : Sp} (F : Fun K x qual st f fd) (S : FnScope N ps (defScope st)) (len : ∀ vs H Q E, sp vs H Q E → vs.length = ps.length)
    (bod : ∀ (cdv : Value) (A : Around) (outer : List Env) (s : Shared) (H : Hp) (vs : List V) (Q : VK) (E : XK), L2H.RoomH k (A.deeper (envOfC qual (defScope st) s.heap.objs.size f cdv)) → sp vs H Q E →
      ∃ t, PSs (cxU P w K mg base N qual (defScope st) f cdv A outer s H E).nox (defBody st) t ∧ t { nx := fun _ H' => Q .non H', rt := Q } (L2.start N vs) H) : FnU P w K mg base (k + 1) f fd ps sp := by
  rcases F.ex with ⟨oc, od, kV, doc, pm, an, cdv, ct, osl, rfl, lk, code⟩
  refine ⟨len, fun A outer s H args us vs Q E room env bind rel pre => ?_⟩
  have up : ∀ b o, base.get? b = some o → s.heap.get? b = some o := fun b o e => (env.bs b o e).1
  have KX : K.In s.heap := env.mod.kin.keeps up
  have kinds : ∀ y ∈ ps.zip us, (defScope st).names.lookup y.1 = some .local ∨ ((defScope st).names.lookup y.1 = some .cell ∧ ((cellsFrom (s.heap.objs.size + 1) (defScope st).names []).lookup y.1).isSome = true) := fun y hy =>
    (S.par y.1 (List.of_mem_zip (a := y.1) (b := y.2) hy).1).imp id fun q => ⟨q, PySem.W.cellsFrom_some _ _ _ (.inl q)⟩
  refine codeAny_call_function room.depth (KX _ _ lk) rfl S.co S.gen rfl (PySem.W.codeRec_of KX code) (bind _ _ _ _ (wpAny_newFunctionEnv_cells S.kind kinds fun ev hev s1 ic => ?_))
  subst hev
  refine ⟨(env.mod.nolimit.keeps up).keeps ic.toInCall.keep, codeAny_func ?_⟩
  obtain ⟨t, ht, rd⟩ := bod cdv A outer s H vs Q E (room.deeper _) pre
  refine wpAny_mono (ht.nox.run [] s1 (L2.start N vs) H _ (inv_startU S env (len _ _ _ _ pre) rel ic) rd) (fun fl s' z => ?_) fun _ _ z => z
  cases fl with
  | ret u => exact z.elim fun v ⟨_, H', J, rv, q⟩ => ⟨v, H', J.os, J.bare, J.base, J.hok, rv, q⟩
  | next => exact z.elim fun _ ⟨H', J, q⟩ => ⟨V.non, H', J.os, J.bare, J.base, J.hok, rfl, q⟩
  | _ => exact z.elim fun _ ⟨_, _, q⟩ => q.elim
theorem pe_callU {X : Cx} {k : Nat} {f : Addr} {fd : FuncData} {ps : List Str} {sp : Sp} {x : Str} {q pos : Pos} {e : Expr} {es : List Expr} {t : TA} (F : FnU X.prog X.w X.K X.mg X.base k f fd ps sp) (room : L2H.RoomH k X.A) (hg : Gl X x) (hm : X.mg x = some (.ref f)) (hk : PySem.W.keepIn X.K (.ref f) = true) (hb : Binds X.K fd ps [])
    (ha : PA X (e :: es) t) (hdb : (x == ("__debug__" : Str)) = false := by decide) (he : starEach (e :: es) X.env = (false, eval e X.env) :: starEach es X.env := by rfl) (hpl : (backTo pos (starEach es X.env)).any (·.1) = false := by rfl) : PE X (.Call (.Name x q) (e :: es) [] pos) (tCall sp [] E0 t) := by
  constructor
  intro pins s σ H Q I h
  refine wpAny_Call_Name_kw (ld_glob I hg hm (PySem.W.callWith_K (h₀ := X.base) I.ok.mod.kin hk (thn (ha.run pos pins s σ H _ I h) fun us s1 ⟨vs, H1, J, rel, pre⟩ => ⟨J.kIn, ?_⟩) he hpl) hdb)
  have pre : sp vs H1 Q E0 := by
    have z : sp (vs ++ []) H1 Q E0 := pre
    rwa [List.append_nil] at z
  have bind : BindsTo s1 fd ⟨us, []⟩ (ps.zip us) := by
    have z := hb s1 us J.kIn (by rw [List.append_nil, ← rel.length]; exact F.len _ _ _ _ pre)
    rwa [List.append_nil] at z
  refine wpAny_call (codeAny_mono (F.run X.A X.stack s1 H1 ⟨us, []⟩ us vs Q E0 room J.env0 bind rel pre) fun res s' z => ?_)
  rcases res with er | fl
  · exact False.elim z
  · cases fl with
    | ret u => exact J.after z
    | _ => exact False.elim z
theorem roomH_suite {k : Nat} {A : Around} {v : Option Value} (r : Room k A) : L2H.RoomH k (A.mark v) := ⟨r.dp, r.un⟩
/-! ### a tracked exception: its fields, isinstance of it -/
def tXt (K : PySem.W.Frag) (f : Str) (te : TE) : TE := fun σ H Q => te σ H fun x H1 => ∃ (a C dd : Addr) (fs : List (Str × V)) (v : V), x = .ref a ∧ H1 a = some (exi a (.ref C) (some dd)) ∧ XfC K C ∧ PySem.W.findIn K (.ref C) f = some none ∧ H1 dd = some (.xd fs) ∧ fs.lookup f = some v ∧ Q v H1
theorem inst_of {P : Program} {w : World} {H : Hp} {g : Heap} {a C dd : Addr} {fs : List (Str × V)} (ok : HOk P w H g) (ha : H a = some (exi a (.ref C) (some dd))) (hd : H dd = some (.xd fs)) :
    ∃ ob od, PySem.W.InstAt g a ob C (some od) ∧ ∃ mA : Str → Option Value, (∀ n, PySem.W.lookIn n od = some (mA n)) ∧ ∀ f, RelO (fs.lookup f) (mA f) := by
  obtain ⟨ob, fv, h1, hz, h2⟩ := exi_at ok ha
  obtain ⟨mA, hns, rel⟩ := (show ObjOk P w H g dd (.xd fs) from ok dd _ hd)
  obtain ⟨od, h3, h4⟩ := lookIn_ns hns
  exact ⟨ob, od, { at_ := h1, cls := hz.1, no := by unfold PySem.W.notCls; rw [h2] <;> rfl, dict := by rw [hz.2.1]; exact h3 }, mA, h4, rel⟩
theorem pe_xt {X : Cx} {e : Expr} {te : TE} {pos : Pos} {n : Str} (he : PE X e te) (hb : attributeBase e n X.env (eval e X.env) = eval e X.env := by rfl) : PE X (.Attribute e n pos) (tXt X.K n te) := by
  constructor
  intro pins s σ H Q I h
  refine attr_of hb (thn (he.run pins s σ H _ I h) fun u s1 ⟨y, H1, J, ry, a, C, dd, fs, v, ey, ea, T, hno, ed, l, q⟩ => ?_)
  subst ey
  obtain rfl : u = .ref a := ry
  obtain ⟨ob, od, at1, mA, h4, rel⟩ := inst_of J.hok ea ed
  obtain ⟨u, hu, ru⟩ := RelO.some_of (v := v) (o := mA n) (by rw [← l]; exact rel n)
  exact HandSPX.exc_get J.kIn at1 T.ga T.gg T.exC (PySem.W.findObj_own T.hdC hno rfl (by rw [h4, hu])) (handed_of ru) ⟨v, H1, J.tok _, ru, q⟩
/-- isinstance(e, c), e a tracked exception -/
def rIsX (K : PySem.W.Frag) : List V → Hp → VK → Prop := fun xs H Q => ∃ (a D dd : Addr) (fs : List (Str × V)) (c : V) (cv : Value) (b : Bool), xs = [.ref a, c] ∧ ClsV c cv ∧ H a = some (exi a (.ref D) (some dd)) ∧ H dd = some (.xd fs) ∧ ExcC K D ∧ PySem.W.kitOne K (.ref D) cv = some b ∧ Q (.bl b) H
theorem call_isX {X : Cx} : CallR X (.builtin "isinstance") (rIsX X.K) := by
  rintro pins s σ H xs us Q I r ⟨a, D, dd, fs, c, cv, b, rfl, k, ea, ed, C, e, q⟩
  obtain ⟨ue, uc, rfl, re, rc⟩ := vals2 r
  obtain rfl : ue = .ref a := re
  rw [k.eq rc]
  obtain ⟨ob, od, at1, _⟩ := inst_of I.hok ea ed
  have there : (PySem.W.clsIn X.K D).isSome = true := (PySem.W.any_some C.hd).elim fun cd ⟨hc, _⟩ => by rw [hc]; rfl
  exact PySem.W.kia_one (PySem.W.kitx_exc there C.hg C.hk C.hs C.ha C.hn C.ht C.hm) I.kIn at1 e (fun z => nomatch z) fun tk => ⟨.bl b, H, I.tok tk, rfl, q⟩
/-! ## Pre -/
/-! Names of readings, steps through a reading, data in the heap, the draws. -/
/-! ### the operators' readings, by names -/
def oAdd : R2 := rI0 fun i j => .int (i + j)
def oSub : R2 := rI0 fun i j => .int (i - j)
def oMul : R2 := rI CMul fun i j => .int (i * j)
def oMulW : R2 := rI CMulW fun i j => .int (i * j)
def oDiv : R2 := rI CDivW fun i j => .int (i / j)
def oMod : R2 := rI (fun _ j => 0 < j) fun i j => .int (i % j)
def oPow : R2 := rI CPow fun i j => .int (i ^ j.toNat)
def oShl : R2 := rI CPow fun i j => .int (i * 2 ^ j.toNat)
def oShr : R2 := rI (fun _ j => 0 ≤ j) fun i j => .int (i / 2 ^ j.toNat)
def oAnd : R2 := rI0 fun i j => .int (Builtin.bitAnd i j)
def oOr : R2 := rI0 fun i j => .int (Builtin.bitOr i j)
def oNeg : V → Hp → VK → Prop := rU fun i => .int (-i)
def oLt : R2 := rI0 fun i j => .bl (decide (i < j))
def oLe : R2 := rI0 fun i j => .bl (decide (i ≤ j))
def oGt : R2 := rI0 fun i j => .bl (decide (j < i))
def oGe : R2 := rI0 fun i j => .bl (decide (j ≤ i))
def oIsN : R2 := fun x y H Q => y = .non ∧ Q (.bl (decide (x = .non))) H
def oNotN : R2 := fun x y H Q => y = .non ∧ Q (.bl (!decide (x = .non))) H
def oAddS : R2 := fun x y H Q => ∃ i j, x = .str i ∧ y = .str j ∧ i.length + j.length ≤ sizeLine ∧ Q (.str (i ++ j)) H
def rLen (K : PySem.W.Frag) : List V → Hp → VK → Prop := fun vs G R => ∃ x n, vs = [x] ∧ LenV K x G n ∧ R (.int n) G
def rLenStr : List V → Hp → VK → Prop := fun xs H Q => ∃ z, xs = [.str z] ∧ z.length ≤ sizeLine ∧ Q (.int z.length) H
def rMax2 : List V → Hp → VK → Prop := fun vs G R => ∃ i j, vs = [.int i, .int j] ∧ R (.int (if j > i then j else i)) G
def rMin2 : List V → Hp → VK → Prop := fun vs G R => ∃ i j, vs = [.int i, .int j] ∧ R (.int (if j < i then j else i)) G
def rInt1 : List V → Hp → VK → Prop := fun xs H Q => (∃ i, xs = [.int i] ∧ Q (.int i) H) ∨ ∃ k, xs = [.bl k] ∧ Q (.int (if k then 1 else 0)) H
def rListOf (K : PySem.W.Frag) : List V → Hp → VK → Prop := fun xs H Q => ∃ p ys, xs = [.ref p] ∧ (SqL K H p ys ∨ SqT K H p ys) ∧ ∀ l, H l = none → Q (.ref l) (upd H l (.lst ys))
def rTupleOf (K : PySem.W.Frag) : List V → Hp → VK → Prop := fun xs H Q => ∃ p ys, xs = [.ref p] ∧ ((SqL K H p ys ∧ ∀ l, H l = none → Q (.ref l) (upd H l (.tup ys))) ∨ (SqT K H p ys ∧ Q (.ref p) H))
def tTruth (K : PySem.W.Frag) (te : TE) : TT := fun σ H Q => te σ H fun x H' => ∃ k, TruV K x H' k ∧ Q k H'
/-- raise C(e, ..) -/
def tRz (t : St → Hp → XK → Prop) (W : WX) : TS := fun _ σ H => t σ H fun cls d H' => W cls d σ H'
/-- try: .. except C as n: .. -/
def tTryT (K : PySem.W.Frag) (c : Value) (i : Nat) (tb : WX → TS) (ts : TS) (Wout : WX) : TS := fun D σ H => tb (wAsT K c i ts Wout D) D σ H
/-! ### steps: from a reading to what it asks -/
class Stp (P : Prop) (R : outParam Prop) : Prop where
  go : R → P
section
variable {K : PySem.W.Frag} {σ : St} {H : Hp} {Q : VK} {QT : Bool → Hp → Prop} {QA : List V → Hp → Prop} {D : Ends} {v x y : V} {ta tb te : TE} {tt tu : TT} {ts tw : TS} {r : R2} {i j : Int} {n : Nat} {b c : Bool} {nx bk ct : St → Hp → Prop} {rt : VK}
theorem i_seqA {g : TG} (h : te σ H fun x H1 => g x σ H1 (tw D)) : tSeq (tAsg te g) tw D σ H := h
instance s_seqA {g : TG} : Stp (tSeq (tAsg te g) tw D σ H) (te σ H fun x H1 => g x σ H1 (tw D)) := ⟨i_seqA⟩
theorem i_seqD (h : te σ H fun _ H1 => tw D σ H1) : tSeq (tDrop te) tw D σ H := h
instance s_seqD : Stp (tSeq (tDrop te) tw D σ H) (te σ H fun _ H1 => tw D σ H1) := ⟨i_seqD⟩
theorem i_seqG {ti : TIp} (hx : σ[n]? = some (some x)) (h : te σ H fun y H1 => ti x y H1 fun z H2 => tw D (σ.set n (some z)) H2) : tSeq (tAug n te ti) tw D σ H := ⟨x, hx, h⟩
theorem i_seq (h : ts ⟨tw ⟨nx, rt, bk, ct⟩, rt, bk, ct⟩ σ H) : tSeq ts tw ⟨nx, rt, bk, ct⟩ σ H := h
theorem i_var (h : σ[n]? = some (some v)) (q : Q v H) : tVar n σ H Q := ⟨v, h, q⟩
theorem i_c (q : Q v H) : tC v σ H Q := q
instance s_c : Stp (tC v σ H Q) (Q v H) := ⟨i_c⟩
theorem i_op (h : ta σ H fun x H1 => tb σ H1 fun y H2 => r x y H2 Q) : tOp r ta tb σ H Q := h
instance s_op : Stp (tOp r ta tb σ H Q) (ta σ H fun x H1 => tb σ H1 fun y H2 => r x y H2 Q) := ⟨i_op⟩
theorem i_un {r : V → Hp → VK → Prop} (h : ta σ H fun x H1 => r x H1 Q) : tUn r ta σ H Q := h
instance s_un {r : V → Hp → VK → Prop} : Stp (tUn r ta σ H Q) (ta σ H fun x H1 => r x H1 Q) := ⟨i_un⟩
theorem i_nil (h : QA [] H) : tNil σ H QA := h
instance s_nil : Stp (tNil σ H QA) (QA [] H) := ⟨i_nil⟩
theorem i_cons {tr : TA} (h : ta σ H fun x H1 => tr σ H1 fun xs H2 => QA (x :: xs) H2) : tCons ta tr σ H QA := h
instance s_cons {tr : TA} : Stp (tCons ta tr σ H QA) (ta σ H fun x H1 => tr σ H1 fun xs H2 => QA (x :: xs) H2) := ⟨i_cons⟩
theorem i_tup {t : TA} (h : t σ H fun xs H1 => xs.length ≤ sizeLine ∧ ∀ p, H1 p = none → Q (.ref p) (upd H1 p (.tup xs))) : tTup t σ H Q := h
instance s_tup {t : TA} : Stp (tTup t σ H Q) (t σ H fun xs H1 => xs.length ≤ sizeLine ∧ ∀ p, H1 p = none → Q (.ref p) (upd H1 p (.tup xs))) := ⟨i_tup⟩
theorem i_lst {t : TA} (h : t σ H fun xs H1 => xs.length ≤ sizeLine ∧ ∀ p, H1 p = none → Q (.ref p) (upd H1 p (.lst xs))) : tLst t σ H Q := h
instance s_lst {t : TA} : Stp (tLst t σ H Q) (t σ H fun xs H1 => xs.length ≤ sizeLine ∧ ∀ p, H1 p = none → Q (.ref p) (upd H1 p (.lst xs))) := ⟨i_lst⟩
theorem i_call {sp : Sp} {dvs : List V} {E : XK} {t : TA} (h : t σ H fun vs H1 => sp (vs ++ dvs) H1 Q E) : tCall sp dvs E t σ H Q := h
instance s_call {sp : Sp} {dvs : List V} {E : XK} {t : TA} : Stp (tCall sp dvs E t σ H Q) (t σ H fun vs H1 => sp (vs ++ dvs) H1 Q E) := ⟨i_call⟩
theorem i_cb {r : List V → Hp → VK → Prop} {t : TA} (h : t σ H fun vs H1 => r vs H1 Q) : tCB r t σ H Q := h
instance s_cb {r : List V → Hp → VK → Prop} {t : TA} : Stp (tCB r t σ H Q) (t σ H fun vs H1 => r vs H1 Q) := ⟨i_cb⟩
theorem i_test (h : te σ H fun x H' => ∃ k, x = .bl k ∧ QT k H') : tTest te σ H QT := h
instance s_test : Stp (tTest te σ H QT) (te σ H fun x H' => ∃ k, x = .bl k ∧ QT k H') := ⟨i_test⟩
theorem i_B (h : te σ H fun x H' => ∃ k, x = .bl k ∧ QT k H') : tB te σ H QT := h
instance s_B : Stp (tB te σ H QT) (te σ H fun x H' => ∃ k, x = .bl k ∧ QT k H') := ⟨i_B⟩
theorem i_bl (q : QT b H) : ∃ k, V.bl b = .bl k ∧ QT k H := ⟨b, rfl, q⟩
theorem i_blV {P : Bool → Prop} (q : P b) : ∃ k, V.bl b = .bl k ∧ P k := ⟨b, rfl, q⟩
theorem i_and (h : tt σ H fun c H1 => if c = true then tu σ H1 QT else QT false H1) : tAnd tt tu σ H QT := h
instance s_and : Stp (tAnd tt tu σ H QT) (tt σ H fun c H1 => if c = true then tu σ H1 QT else QT false H1) := ⟨i_and⟩
theorem i_or (h : tt σ H fun c H1 => if c = true then QT true H1 else tu σ H1 QT) : tOr tt tu σ H QT := h
instance s_or : Stp (tOr tt tu σ H QT) (tt σ H fun c H1 => if c = true then QT true H1 else tu σ H1 QT) := ⟨i_or⟩
theorem i_not (h : tt σ H fun c H1 => QT (!c) H1) : tNot tt σ H QT := h
instance s_not : Stp (tNot tt σ H QT) (tt σ H fun c H1 => QT (!c) H1) := ⟨i_not⟩
theorem i_andV (h : ta σ H fun x H1 => ∃ c, x = .bl c ∧ if c = true then tb σ H1 Q else Q (.bl false) H1) : tAndV ta tb σ H Q := h
instance s_andV : Stp (tAndV ta tb σ H Q) (ta σ H fun x H1 => ∃ c, x = .bl c ∧ if c = true then tb σ H1 Q else Q (.bl false) H1) := ⟨i_andV⟩
theorem i_orV (h : ta σ H fun x H1 => ∃ c, x = .bl c ∧ if c = true then Q (.bl true) H1 else tb σ H1 Q) : tOrV ta tb σ H Q := h
instance s_orV : Stp (tOrV ta tb σ H Q) (ta σ H fun x H1 => ∃ c, x = .bl c ∧ if c = true then Q (.bl true) H1 else tb σ H1 Q) := ⟨i_orV⟩
theorem i_notV (h : ta σ H fun x H1 => ∃ c, x = .bl c ∧ Q (.bl (!c)) H1) : tNotV ta σ H Q := h
instance s_notV : Stp (tNotV ta σ H Q) (ta σ H fun x H1 => ∃ c, x = .bl c ∧ Q (.bl (!c)) H1) := ⟨i_notV⟩
theorem i_ife (h : tt σ H fun c H1 => if c = true then ta σ H1 Q else tb σ H1 Q) : tIf tt ta tb σ H Q := h
instance s_ife : Stp (tIf tt ta tb σ H Q) (tt σ H fun c H1 => if c = true then ta σ H1 Q else tb σ H1 Q) := ⟨i_ife⟩
theorem i_ifS (h : tt σ H fun b H1 => if b = true then ts D σ H1 else tw D σ H1) : tIfS tt ts tw D σ H := h
instance s_ifS : Stp (tIfS tt ts tw D σ H) (tt σ H fun b H1 => if b = true then ts D σ H1 else tw D σ H1) := ⟨i_ifS⟩
theorem i_next (h : nx σ H) : tNext ⟨nx, rt, bk, ct⟩ σ H := h
instance s_next : Stp (tNext ⟨nx, rt, bk, ct⟩ σ H) (nx σ H) := ⟨i_next⟩
theorem i_break (h : bk σ H) : tBreak ⟨nx, rt, bk, ct⟩ σ H := h
instance s_break : Stp (tBreak ⟨nx, rt, bk, ct⟩ σ H) (bk σ H) := ⟨i_break⟩
theorem i_cont (h : ct σ H) : tCont ⟨nx, rt, bk, ct⟩ σ H := h
instance s_cont : Stp (tCont ⟨nx, rt, bk, ct⟩ σ H) (ct σ H) := ⟨i_cont⟩
theorem i_ret (h : te σ H rt) : tRet te ⟨nx, rt, bk, ct⟩ σ H := h
instance s_ret : Stp (tRet te ⟨nx, rt, bk, ct⟩ σ H) (te σ H rt) := ⟨i_ret⟩
theorem i_retN (h : rt .non H) : tRetN ⟨nx, rt, bk, ct⟩ σ H := h
instance s_retN : Stp (tRetN ⟨nx, rt, bk, ct⟩ σ H) (rt .non H) := ⟨i_retN⟩
theorem i_drop (h : te σ H fun _ H1 => nx σ H1) : tDrop te ⟨nx, rt, bk, ct⟩ σ H := h
instance s_drop : Stp (tDrop te ⟨nx, rt, bk, ct⟩ σ H) (te σ H fun _ H1 => nx σ H1) := ⟨i_drop⟩
theorem i_asg {g : TG} (h : te σ H fun x H1 => g x σ H1 nx) : tAsg te g ⟨nx, rt, bk, ct⟩ σ H := h
instance s_asg {g : TG} : Stp (tAsg te g ⟨nx, rt, bk, ct⟩ σ H) (te σ H fun x H1 => g x σ H1 nx) := ⟨i_asg⟩
theorem i_gname {R : St → Hp → Prop} (h : R (σ.set n (some v)) H) : gName n v σ H R := h
instance s_gname {R : St → Hp → Prop} : Stp (gName n v σ H R) (R (σ.set n (some v)) H) := ⟨i_gname⟩
theorem i_aug {ti : TIp} (hx : σ[n]? = some (some x)) (h : te σ H fun y H1 => ti x y H1 fun z H2 => nx (σ.set n (some z)) H2) : tAug n te ti ⟨nx, rt, bk, ct⟩ σ H := ⟨x, hx, h⟩
theorem i_ipI {f : Int → Int → Int} (q : Q (.int (f i j)) H) : ipI f (.int i) (.int j) H Q := ⟨i, j, rfl, rfl, q⟩
instance s_ipI {f : Int → Int → Int} : Stp (ipI f (.int i) (.int j) H Q) (Q (.int (f i j)) H) := ⟨i_ipI⟩
theorem i_add (q : Q (.int (i + j)) H) : oAdd (.int i) (.int j) H Q := ⟨i, j, rfl, rfl, q⟩
instance s_add : Stp (oAdd (.int i) (.int j) H Q) (Q (.int (i + j)) H) := ⟨i_add⟩
theorem i_sub (q : Q (.int (i - j)) H) : oSub (.int i) (.int j) H Q := ⟨i, j, rfl, rfl, q⟩
instance s_sub : Stp (oSub (.int i) (.int j) H Q) (Q (.int (i - j)) H) := ⟨i_sub⟩
theorem i_mul (h : CMul i j) (q : Q (.int (i * j)) H) : oMul (.int i) (.int j) H Q := ⟨i, j, rfl, rfl, h, q⟩
theorem i_mulW (h : CMulW i j) (q : Q (.int (i * j)) H) : oMulW (.int i) (.int j) H Q := ⟨i, j, rfl, rfl, h, q⟩
theorem i_div (h : CDivW i j) (q : Q (.int (i / j)) H) : oDiv (.int i) (.int j) H Q := ⟨i, j, rfl, rfl, h, q⟩
theorem i_mod (h : 0 < j) (q : Q (.int (i % j)) H) : oMod (.int i) (.int j) H Q := ⟨i, j, rfl, rfl, h, q⟩
theorem i_pow (h : CPow i j) (q : Q (.int (i ^ j.toNat)) H) : oPow (.int i) (.int j) H Q := ⟨i, j, rfl, rfl, h, q⟩
theorem i_shl (h : CPow i j) (q : Q (.int (i * 2 ^ j.toNat)) H) : oShl (.int i) (.int j) H Q := ⟨i, j, rfl, rfl, h, q⟩
theorem i_band (q : Q (.int (Builtin.bitAnd i j)) H) : oAnd (.int i) (.int j) H Q := ⟨i, j, rfl, rfl, q⟩
instance s_band : Stp (oAnd (.int i) (.int j) H Q) (Q (.int (Builtin.bitAnd i j)) H) := ⟨i_band⟩
theorem i_neg (q : Q (.int (-i)) H) : oNeg (.int i) H Q := ⟨i, rfl, q⟩
instance s_neg : Stp (oNeg (.int i) H Q) (Q (.int (-i)) H) := ⟨i_neg⟩
theorem i_lt (q : Q (.bl (decide (i < j))) H) : oLt (.int i) (.int j) H Q := ⟨i, j, rfl, rfl, q⟩
instance s_lt : Stp (oLt (.int i) (.int j) H Q) (Q (.bl (decide (i < j))) H) := ⟨i_lt⟩
theorem i_le (q : Q (.bl (decide (i ≤ j))) H) : oLe (.int i) (.int j) H Q := ⟨i, j, rfl, rfl, q⟩
instance s_le : Stp (oLe (.int i) (.int j) H Q) (Q (.bl (decide (i ≤ j))) H) := ⟨i_le⟩
theorem i_gt (q : Q (.bl (decide (j < i))) H) : oGt (.int i) (.int j) H Q := ⟨i, j, rfl, rfl, q⟩
instance s_gt : Stp (oGt (.int i) (.int j) H Q) (Q (.bl (decide (j < i))) H) := ⟨i_gt⟩
theorem i_ge (q : Q (.bl (decide (j ≤ i))) H) : oGe (.int i) (.int j) H Q := ⟨i, j, rfl, rfl, q⟩
instance s_ge : Stp (oGe (.int i) (.int j) H Q) (Q (.bl (decide (j ≤ i))) H) := ⟨i_ge⟩
theorem dec_eqI : decide (V.int i = V.int j) = decide (i = j) := by
  by_cases h : i = j
  · subst h; simp
  · rw [decide_eq_false h, decide_eq_false (fun z => h (V.int.inj z))]
theorem dec_eqS {a b : Str} : decide (V.str a = V.str b) = decide (a = b) := by
  by_cases h : a = b
  · subst h; simp
  · rw [decide_eq_false h, decide_eq_false (fun z => h (V.str.inj z))]
theorem i_eq (q : Q (.bl (decide (i = j))) H) : rEq (.int i) (.int j) H Q := ⟨rfl, by rw [dec_eqI]; exact q⟩
instance s_eq : Stp (rEq (.int i) (.int j) H Q) (Q (.bl (decide (i = j))) H) := ⟨i_eq⟩
theorem i_ne (q : Q (.bl (!decide (i = j))) H) : rNe (.int i) (.int j) H Q := ⟨rfl, by rw [dec_eqI]; exact q⟩
instance s_ne : Stp (rNe (.int i) (.int j) H Q) (Q (.bl (!decide (i = j))) H) := ⟨i_ne⟩
theorem i_eqS {a b : Str} (q : Q (.bl (decide (a = b))) H) : rEq (.str a) (.str b) H Q := ⟨rfl, by rw [dec_eqS]; exact q⟩
instance s_eqS {a b : Str} : Stp (rEq (.str a) (.str b) H Q) (Q (.bl (decide (a = b))) H) := ⟨i_eqS⟩
theorem i_neS {a b : Str} (q : Q (.bl (!decide (a = b))) H) : rNe (.str a) (.str b) H Q := ⟨rfl, by rw [dec_eqS]; exact q⟩
instance s_neS {a b : Str} : Stp (rNe (.str a) (.str b) H Q) (Q (.bl (!decide (a = b))) H) := ⟨i_neS⟩
theorem i_isN (q : Q (.bl (decide (x = .non))) H) : oIsN x .non H Q := ⟨rfl, q⟩
instance s_isN : Stp (oIsN x .non H Q) (Q (.bl (decide (x = .non))) H) := ⟨i_isN⟩
theorem i_notN (q : Q (.bl (!decide (x = .non))) H) : oNotN x .non H Q := ⟨rfl, q⟩
instance s_notN : Stp (oNotN x .non H Q) (Q (.bl (!decide (x = .non))) H) := ⟨i_notN⟩
theorem i_max (q : Q (.int (if j > i then j else i)) H) : rMax2 [.int i, .int j] H Q := ⟨i, j, rfl, q⟩
instance s_max : Stp (rMax2 [.int i, .int j] H Q) (Q (.int (if j > i then j else i)) H) := ⟨i_max⟩
theorem i_min (q : Q (.int (if j < i then j else i)) H) : rMin2 [.int i, .int j] H Q := ⟨i, j, rfl, q⟩
instance s_min : Stp (rMin2 [.int i, .int j] H Q) (Q (.int (if j < i then j else i)) H) := ⟨i_min⟩
theorem i_int1 (q : Q (.int i) H) : rInt1 [.int i] H Q := .inl ⟨i, rfl, q⟩
instance s_int1 : Stp (rInt1 [.int i] H Q) (Q (.int i) H) := ⟨i_int1⟩
theorem i_chain {r r' : R2} {tc : TE} (h : ta σ H fun x H1 => tb σ H1 fun y H2 => r x y H2 fun z H3 => ∃ k, z = .bl k ∧ if k = true then tc σ H3 fun w H4 => r' y w H4 Q else Q (.bl false) H3) : tChain r r' ta tb tc σ H Q := h
instance s_chain {r r' : R2} {tc : TE} : Stp (tChain r r' ta tb tc σ H Q) (ta σ H fun x H1 => tb σ H1 fun y H2 => r x y H2 fun z H3 => ∃ k, z = .bl k ∧ if k = true then tc σ H3 fun w H4 => r' y w H4 Q else Q (.bl false) H3) := ⟨i_chain⟩
theorem i_ixL {p : Addr} {xs : List V} (h : SqL K H p xs) (e : atI xs i = some v) (q : Q v H) : rIxL K (.ref p) (.int i) H Q := ⟨p, xs, i, v, rfl, rfl, h, e, q⟩
theorem i_ixT {p : Addr} {xs : List V} (h : SqT K H p xs) (e : atI xs i = some v) (q : Q v H) : rIxT K (.ref p) (.int i) H Q := ⟨p, xs, i, v, rfl, rfl, h, e, q⟩
theorem i_setL {R : Hp → Prop} {p : Addr} {xs : List V} (h : H p = some (.lst xs)) (e : ixN xs.length i = some n) (q : R (upd H p (.lst (xs.set n v)))) : rSetL (.ref p) (.int i) v H R := ⟨p, xs, i, n, rfl, rfl, h, e, q⟩
theorem i_gsub {to ti : TE} {t : TSet} {R : St → Hp → Prop} (h : to σ H fun o H1 => ti σ H1 fun i H2 => t o i v H2 fun H3 => R σ H3) : gSub to ti t v σ H R := h
instance s_gsub {to ti : TE} {t : TSet} {R : St → Hp → Prop} : Stp (gSub to ti t v σ H R) (to σ H fun o H1 => ti σ H1 fun i H2 => t o i v H2 fun H3 => R σ H3) := ⟨i_gsub⟩
theorem i_lenL {p : Addr} {xs : List V} (h : SqL K H p xs) (q : Q (.int xs.length) H) : rLen K [.ref p] H Q := ⟨.ref p, xs.length, rfl, .inl ⟨xs, h, rfl⟩, q⟩
theorem i_lenT {p : Addr} {xs : List V} (h : SqT K H p xs) (q : Q (.int xs.length) H) : rLen K [.ref p] H Q := ⟨.ref p, xs.length, rfl, .inr ⟨xs, h, rfl⟩, q⟩
theorem sqL {p : Addr} {xs : List V} (h : H p = some (.lst xs)) : SqL K H p xs := .inl (.inl h)
theorem sqT {p : Addr} {xs : List V} (h : H p = some (.tup xs)) : SqT K H p xs := .inl (.inl h)
theorem i_gtup {p : Addr} {xs : List V} {t : TGs} {R : St → Hp → Prop} (h : SqT K H p xs) (hl : xs.length = n) (q : t xs σ H R) : gTup K n t (.ref p) σ H R := ⟨p, xs, rfl, h, hl, q⟩
theorem i_gnil {R : St → Hp → Prop} (q : R σ H) : gNil [] σ H R := ⟨rfl, q⟩
instance s_gnil {R : St → Hp → Prop} : Stp (gNil [] σ H R) (R σ H) := ⟨i_gnil⟩
theorem i_gcons {t : TG} {u : TGs} {R : St → Hp → Prop} {xs : List V} (q : t v σ H fun σ' H' => u xs σ' H' R) : gCons t u (v :: xs) σ H R := ⟨v, xs, rfl, q⟩
instance s_gcons {t : TG} {u : TGs} {R : St → Hp → Prop} {xs : List V} : Stp (gCons t u (v :: xs) σ H R) (t v σ H fun σ' H' => u xs σ' H' R) := ⟨i_gcons⟩
end
/-- an if on a test that is a decided proposition, its opposite, a known bool -/
theorem i_ifd {p A B : Prop} {inst : Decidable p} (h1 : p → A) (h2 : ¬ p → B) : if decide p = true then A else B := by
  by_cases h : p
  · rw [decide_eq_true h]; exact h1 h
  · rw [decide_eq_false h]; exact h2 h
theorem i_ifn {p A B : Prop} {inst : Decidable p} (h1 : ¬ p → A) (h2 : p → B) : if (!decide p) = true then A else B := by
  by_cases h : p
  · rw [decide_eq_true h]; exact h2 h
  · rw [decide_eq_false h]; exact h1 h
theorem i_ifb {b : Bool} {A B : Prop} (h1 : b = true → A) (h2 : b = false → B) : if b = true then A else B := by
  cases b with
  | true => exact h1 rfl
  | false => exact h2 rfl
theorem i_ifT {A B : Prop} (h : A) : if true = true then A else B := h
instance s_ifT {A B : Prop} : Stp (if true = true then A else B) (A) := ⟨i_ifT⟩
theorem i_ifF {A B : Prop} (h : B) : if false = true then A else B := h
instance s_ifF {A B : Prop} : Stp (if false = true then A else B) (B) := ⟨i_ifF⟩
theorem i_ifnT {A B : Prop} (h : B) : if (!true) = true then A else B := h
instance s_ifnT {A B : Prop} : Stp (if (!true) = true then A else B) (B) := ⟨i_ifnT⟩
theorem i_ifnF {A B : Prop} (h : A) : if (!false) = true then A else B := h
instance s_ifnF {A B : Prop} : Stp (if (!false) = true then A else B) (A) := ⟨i_ifnF⟩
theorem i_yes {p A B : Prop} {inst : Decidable p} (hp : p) (h : A) : if decide p = true then A else B := by rw [decide_eq_true hp]; exact h
theorem i_no {p A B : Prop} {inst : Decidable p} (hp : ¬ p) (h : B) : if decide p = true then A else B := by rw [decide_eq_false hp]; exact h
theorem sz {n : Nat} (h : n ≤ 100000) : n ≤ sizeLine := Nat.le_trans h (by decide)
theorem szl {n : Nat} (h : n < 100000) : n < sizeLine := Nat.lt_of_lt_of_le h (by decide)
theorem cmul_l {i j : Int} (h1 : -1000000000000 ≤ i) (h2 : i ≤ 1000000000000) : CMul i j := .inl ⟨by omega, by omega⟩
theorem cmul_r {i j : Int} (h1 : -1000000000000 ≤ j) (h2 : j ≤ 1000000000000) : CMul i j := .inr ⟨by omega, by omega⟩
theorem cdiv {i j : Int} (h0 : 0 < j) (h : j ≤ 100000000000000000000000000000000000000000000000000000000000000000000000000000) : CDivW i j := wide_div (b := 300) h0 (by
  have e : (100000000000000000000000000000000000000000000000000000000000000000000000000000 : Nat) < 2 ^ 300 := by decide
  omega) (by decide) (by decide)
theorem cpow10 {j : Int} (h0 : 0 ≤ j) (h : j ≤ 100000) : CPow 10 j := ⟨h0, by omega, by decide⟩
theorem cpow2 {j : Int} (h0 : 0 ≤ j) (h : j ≤ 100000) : CPow 2 j := ⟨h0, by omega, by decide⟩
theorem cpow1 {j : Int} (h0 : 0 ≤ j) (h : j ≤ 100000) : CPow 1 j := ⟨h0, by omega, by decide⟩
/-! ### heaps: what is kept -/
theorem same_new {H : Hp} {p : Addr} {o : HO} (h : H p = none) : Same H (upd H p o) := fun b u e => by
  rw [upd_ne (ne_of_none e h)]
  exact e
theorem upd_keep {H : Hp} {p a : Addr} {o u : HO} (h : H p = none) (e : H a = some u) : upd H p o a = some u := same_new h _ _ e
theorem upd_off {H : Hp} {p a : Addr} {o u : HO} (h : a ≠ p) (e : H a = some u) : upd H p o a = some u := by
  rw [upd_ne h]
  exact e
/-- the heap without s -/
def hid (s : Addr) (H : Hp) : Hp := fun b => if b = s then none else H b
theorem hid_of {s : Addr} {H : Hp} {b : Addr} {o : HO} (h : hid s H b = some o) : H b = some o ∧ b ≠ s := by
  unfold hid at h
  split at h
  · cases h
  · exact ⟨h, by assumption⟩
theorem hid_to {s : Addr} {H : Hp} {b : Addr} {o : HO} (h : H b = some o) (n : b ≠ s) : hid s H b = some o := by
  unfold hid
  rw [if_neg n]
  exact h
theorem hid_same {s : Addr} {H : Hp} : Same (hid s H) H := fun _ _ h => (hid_of h).1
theorem hid_upd {s : Addr} {H : Hp} {o : HO} : hid s (upd H s o) = hid s H := by
  funext b
  unfold hid
  by_cases h : b = s
  · rw [if_pos h, if_pos h]
  · rw [if_neg h, if_neg h, upd_ne h]
theorem hid_mono {s : Addr} {H H' : Hp} (h : Same H H') : Same (hid s H) (hid s H') := fun b o e => by
  obtain ⟨e1, n⟩ := hid_of e
  exact hid_to (h b o e1) n
/-- the draws at d, their state at s -/
def Dr (d s : Addr) (H : Hp) : Prop := ∃ (c : Addr) (cs : List Int) (p b n t e : Int), H d = some (.lst [.ref c, .ref s]) ∧ H c = some (.lst (cs.map V.int)) ∧ H s = some (.lst [.int p, .int b, .int n, .int t, .int e]) ∧ d ≠ s ∧ c ≠ s ∧ 0 ≤ p ∧ 0 ≤ b ∧ cs.length ≤ 100000
theorem Dr.same {d s : Addr} {H H' : Hp} (h : Dr d s H) (k : Same H H') : Dr d s H' := by
  obtain ⟨c, cs, p, b, n, t, e, h1, h2, h3, h4⟩ := h
  exact ⟨c, cs, p, b, n, t, e, k _ _ h1, k _ _ h2, k _ _ h3, h4⟩
theorem Dr.s {d s : Addr} {H : Hp} (h : Dr d s H) : ∃ o, H s = some o := by
  obtain ⟨c, cs, p, b, n, t, e, h1, h2, h3, h4⟩ := h
  exact ⟨_, h3⟩
theorem Dr.ne {d s q : Addr} {H : Hp} (h : Dr d s H) (hq : H q = none) : q ≠ s := by
  obtain ⟨o, ho⟩ := h.s
  exact fun z => by
    rw [z, ho] at hq
    cases hq
theorem hid_new {s p : Addr} {H : Hp} {o : HO} (h : p ≠ s) : hid s (upd H p o) p = some o := hid_to upd_same h
/-! ### plain data in the heap -/
inductive Dt where
  | non | bl (b : Bool) | int (i : Int) | str (x : Str) | lst (l : List Dt) | tup (l : List Dt) | dic (l : List (Str × Dt))
mutual
inductive At (H : Hp) : V → Dt → Prop where
  | non : At H .non .non
  | bl (b : Bool) : At H (.bl b) (.bl b)
  | int (i : Int) : At H (.int i) (.int i)
  | str (x : Str) : At H (.str x) (.str x)
  | lst {a : Addr} {vs : List V} {ds : List Dt} (h : H a = some (.lst vs)) (hs : Ats H vs ds) : At H (.ref a) (.lst ds)
  | tup {a : Addr} {vs : List V} {ds : List Dt} (h : H a = some (.tup vs)) (hs : Ats H vs ds) : At H (.ref a) (.tup ds)
  | dic {a : Addr} {kvs : List (Key × V)} {ds : List (Str × Dt)} (h : H a = some (.dK kvs)) (hs : Atk H kvs ds) : At H (.ref a) (.dic ds)
inductive Ats (H : Hp) : List V → List Dt → Prop where
  | nil : Ats H [] []
  | cons {v : V} {d : Dt} {vs : List V} {ds : List Dt} (h : At H v d) (hs : Ats H vs ds) : Ats H (v :: vs) (d :: ds)
inductive Atk (H : Hp) : List (Key × V) → List (Str × Dt) → Prop where
  | nil : Atk H [] []
  | cons {k : Str} {v : V} {d : Dt} {vs : List (Key × V)} {ds : List (Str × Dt)} (h : At H v d) (hs : Atk H vs ds) : Atk H ((Sum.inr k, v) :: vs) ((k, d) :: ds)
end
mutual
theorem At.mono {H H' : Hp} (k : Same H H') : ∀ {v : V} {d : Dt}, At H v d → At H' v d
  | _, _, .non => .non
  | _, _, .bl b => .bl b
  | _, _, .int i => .int i
  | _, _, .str x => .str x
  | _, _, .lst h hs => .lst (k _ _ h) (Ats.mono k hs)
  | _, _, .tup h hs => .tup (k _ _ h) (Ats.mono k hs)
  | _, _, .dic h hs => .dic (k _ _ h) (Atk.mono k hs)
theorem Ats.mono {H H' : Hp} (k : Same H H') : ∀ {v : List V} {d : List Dt}, Ats H v d → Ats H' v d
  | _, _, .nil => .nil
  | _, _, .cons h hs => .cons (At.mono k h) (Ats.mono k hs)
theorem Atk.mono {H H' : Hp} (k : Same H H') : ∀ {v : List (Key × V)} {d : List (Str × Dt)}, Atk H v d → Atk H' v d
  | _, _, .nil => .nil
  | _, _, .cons h hs => .cons (At.mono k h) (Atk.mono k hs)
end
theorem Ats.length {H : Hp} : ∀ {vs : List V} {ds : List Dt}, Ats H vs ds → vs.length = ds.length
  | _, _, .nil => rfl
  | _, _, .cons _ hs => congrArg (· + 1) (Ats.length hs)
theorem Ats.get {H : Hp} : ∀ {vs : List V} {ds : List Dt} {i : Nat} {d : Dt}, Ats H vs ds → ds[i]? = some d → ∃ v, vs[i]? = some v ∧ At H v d
  | _, _, _, _, .nil, e => by simp at e
  | _, _, 0, _, .cons h _, e => by simp at e; subst e; exact ⟨_, rfl, h⟩
  | _, _, i + 1, d, .cons _ hs, e => by
    obtain ⟨v, h1, h2⟩ := Ats.get (i := i) (d := d) hs (by simpa using e)
    exact ⟨v, by simpa using h1, h2⟩
/-- the built-in class of a known value -/
inductive Ty0 (H : Hp) : V → String → Prop where
  | non : Ty0 H .non "NoneType"
  | bl (b : Bool) : Ty0 H (.bl b) "bool"
  | int (i : Int) : Ty0 H (.int i) "int"
  | str (x : Str) : Ty0 H (.str x) "str"
  | lst {a : Addr} {vs : List V} (h : H a = some (.lst vs)) : Ty0 H (.ref a) "list"
  | tup {a : Addr} {vs : List V} (h : H a = some (.tup vs)) : Ty0 H (.ref a) "tuple"
  | dic {a : Addr} {kvs : List (Key × V)} (h : H a = some (.dK kvs)) : Ty0 H (.ref a) "dict"
theorem Ty0.tx {K : PySem.W.Frag} {H : Hp} {v : V} {n : String} (h : Ty0 H v n) : TyX K H v (.type n) := by
  cases h with
  | non => exact .base .non
  | bl b => exact .base (.bl b)
  | int i => exact .base (.int i)
  | str x => exact .base (.str x)
  | lst h => exact .base (.lst h)
  | tup h => exact .base (.tup h)
  | dic h => exact .base (.dK h)
def Dt.ty : Dt → String
  | .non => "NoneType" | .bl _ => "bool" | .int _ => "int" | .str _ => "str" | .lst _ => "list" | .tup _ => "tuple" | .dic _ => "dict"
theorem At.ty {H : Hp} {v : V} {d : Dt} (h : At H v d) : Ty0 H v d.ty := by
  cases h with
  | non => exact .non
  | bl b => exact .bl b
  | int i => exact .int i
  | str x => exact .str x
  | lst h _ => exact .lst h
  | tup h _ => exact .tup h
  | dic h _ => exact .dic h
theorem Ty0.mono {H H' : Hp} {v : V} {n : String} (k : Same H H') (h : Ty0 H v n) : Ty0 H' v n := by
  cases h with
  | non => exact .non
  | bl b => exact .bl b
  | int i => exact .int i
  | str x => exact .str x
  | lst h => exact .lst (k _ _ h)
  | tup h => exact .tup (k _ _ h)
  | dic h => exact .dic (k _ _ h)
theorem i_isi {K : PySem.W.Frag} {H : Hp} {Q : VK} {v : V} {n c : String} {b : Bool} (h : Ty0 H v n) (e : kitB n c = some b) (q : Q (.bl b) H) : rIsi K [v, .ty c] H Q :=
  ⟨v, .ty c, .type n, .type c, b, rfl, .ty c, h.tx, kit_ty e, q⟩
/-! ### loops and comprehensions -/
/-- a for over J from σ and H on; a comprehension likewise -/
def ForW (J : It) (g : TG) (tb : TS) (D : Ends) (σ : St) (H1 : Hp) : Prop := tFor (fun _ G R => R J G) g tb D σ H1
def LcW (J : It) (g : TG) (tt : TT) (te : TE) (vs : List Nat) (σ : St) (H1 : Hp) (Q : VK) : Prop := tLc (fun _ G R => R J G) g tt te vs σ H1 Q
section
variable {K : PySem.W.Frag} {σ : St} {H : Hp} {Q : VK} {D : Ends} {g : TG} {tb : TS} {ta : TA} {tl te : TE} {tt : TT} {vs : List Nat} {n m : Int} {a : Addr} {xs : List V}
theorem i_forR1 (h : ta σ H fun vs H1 => ∃ j : Int, vs = [.int j] ∧ -(2 ^ 62) ≤ j ∧ j < 2 ^ 62 ∧ ForW (Itr 0 j.toNat) g tb D σ H1) : tFor (iRng1 ta) g tb D σ H := h
instance s_forR1 : Stp (tFor (iRng1 ta) g tb D σ H) (ta σ H fun vs H1 => ∃ j : Int, vs = [.int j] ∧ -(2 ^ 62) ≤ j ∧ j < 2 ^ 62 ∧ ForW (Itr 0 j.toNat) g tb D σ H1) := ⟨i_forR1⟩
theorem i_forR2 (h : ta σ H fun vs H1 => ∃ i j : Int, vs = [.int i, .int j] ∧ (-(2 ^ 62) ≤ i ∧ i < 2 ^ 62 ∧ -(2 ^ 62) ≤ j ∧ j < 2 ^ 62) ∧ ForW (Itr i (j - i).toNat) g tb D σ H1) : tFor (iRng2 ta) g tb D σ H := h
instance s_forR2 : Stp (tFor (iRng2 ta) g tb D σ H) (ta σ H fun vs H1 => ∃ i j : Int, vs = [.int i, .int j] ∧ (-(2 ^ 62) ≤ i ∧ i < 2 ^ 62 ∧ -(2 ^ 62) ≤ j ∧ j < 2 ^ 62) ∧ ForW (Itr i (j - i).toNat) g tb D σ H1) := ⟨i_forR2⟩
theorem i_forL (h : tl σ H fun x H1 => ∃ a, x = .ref a ∧ (∃ xs, SqL K H1 a xs) ∧ ForW (Itl K a) g tb D σ H1) : tFor (iList K tl) g tb D σ H := h
instance s_forL : Stp (tFor (iList K tl) g tb D σ H) (tl σ H fun x H1 => ∃ a, x = .ref a ∧ (∃ xs, SqL K H1 a xs) ∧ ForW (Itl K a) g tb D σ H1) := ⟨i_forL⟩
theorem i_forT (h : tl σ H fun x H1 => ∃ a, x = .ref a ∧ (∃ xs, SqT K H1 a xs) ∧ ForW (Itt K a) g tb D σ H1) : tFor (iTup K tl) g tb D σ H := h
instance s_forT : Stp (tFor (iTup K tl) g tb D σ H) (tl σ H fun x H1 => ∃ a, x = .ref a ∧ (∃ xs, SqT K H1 a xs) ∧ ForW (Itt K a) g tb D σ H1) := ⟨i_forT⟩
theorem f_rng1 (h1 : -1000000000000 ≤ n) (h2 : n ≤ 1000000000000) (q : ForW (Itr 0 n.toNat) g tb D σ H) : ∃ j : Int, [V.int n] = [.int j] ∧ -(2 ^ 62) ≤ j ∧ j < 2 ^ 62 ∧ ForW (Itr 0 j.toNat) g tb D σ H := ⟨n, rfl, by omega, by omega, q⟩
theorem f_rng2 (h1 : -1000000000000 ≤ m) (h2 : m ≤ 1000000000000) (h3 : -1000000000000 ≤ n) (h4 : n ≤ 1000000000000) (q : ForW (Itr m (n - m).toNat) g tb D σ H) :
    ∃ i j : Int, [V.int m, V.int n] = [.int i, .int j] ∧ (-(2 ^ 62) ≤ i ∧ i < 2 ^ 62 ∧ -(2 ^ 62) ≤ j ∧ j < 2 ^ 62) ∧ ForW (Itr i (j - i).toNat) g tb D σ H := ⟨m, n, rfl, ⟨by omega, by omega, by omega, by omega⟩, q⟩
theorem f_lst (h : SqL K H a xs) (q : ForW (Itl K a) g tb D σ H) : ∃ b, V.ref a = .ref b ∧ (∃ xs, SqL K H b xs) ∧ ForW (Itl K b) g tb D σ H := ⟨a, rfl, ⟨xs, h⟩, q⟩
theorem f_tup (h : SqT K H a xs) (q : ForW (Itt K a) g tb D σ H) : ∃ b, V.ref a = .ref b ∧ (∃ xs, SqT K H b xs) ∧ ForW (Itt K b) g tb D σ H := ⟨a, rfl, ⟨xs, h⟩, q⟩
theorem i_lcR1 (h : ta σ H fun ws H1 => ∃ j : Int, ws = [.int j] ∧ -(2 ^ 62) ≤ j ∧ j < 2 ^ 62 ∧ LcW (Itr 0 j.toNat) g tt te vs σ H1 Q) : tLc (iRng1 ta) g tt te vs σ H Q := h
instance s_lcR1 : Stp (tLc (iRng1 ta) g tt te vs σ H Q) (ta σ H fun ws H1 => ∃ j : Int, ws = [.int j] ∧ -(2 ^ 62) ≤ j ∧ j < 2 ^ 62 ∧ LcW (Itr 0 j.toNat) g tt te vs σ H1 Q) := ⟨i_lcR1⟩
theorem i_lcL (h : tl σ H fun x H1 => ∃ a, x = .ref a ∧ (∃ xs, SqL K H1 a xs) ∧ LcW (Itl K a) g tt te vs σ H1 Q) : tLc (iList K tl) g tt te vs σ H Q := h
instance s_lcL : Stp (tLc (iList K tl) g tt te vs σ H Q) (tl σ H fun x H1 => ∃ a, x = .ref a ∧ (∃ xs, SqL K H1 a xs) ∧ LcW (Itl K a) g tt te vs σ H1 Q) := ⟨i_lcL⟩
theorem i_lcT (h : tl σ H fun x H1 => ∃ a, x = .ref a ∧ (∃ xs, SqT K H1 a xs) ∧ LcW (Itt K a) g tt te vs σ H1 Q) : tLc (iTup K tl) g tt te vs σ H Q := h
instance s_lcT : Stp (tLc (iTup K tl) g tt te vs σ H Q) (tl σ H fun x H1 => ∃ a, x = .ref a ∧ (∃ xs, SqT K H1 a xs) ∧ LcW (Itt K a) g tt te vs σ H1 Q) := ⟨i_lcT⟩
theorem c_rng1 (h1 : -1000000000000 ≤ n) (h2 : n ≤ 1000000000000) (q : LcW (Itr 0 n.toNat) g tt te vs σ H Q) : ∃ j : Int, [V.int n] = [.int j] ∧ -(2 ^ 62) ≤ j ∧ j < 2 ^ 62 ∧ LcW (Itr 0 j.toNat) g tt te vs σ H Q := ⟨n, rfl, by omega, by omega, q⟩
theorem c_lst (h : SqL K H a xs) (q : LcW (Itl K a) g tt te vs σ H Q) : ∃ b, V.ref a = .ref b ∧ (∃ xs, SqL K H b xs) ∧ LcW (Itl K b) g tt te vs σ H Q := ⟨a, rfl, ⟨xs, h⟩, q⟩
theorem c_tup (h : SqT K H a xs) (q : LcW (Itt K a) g tt te vs σ H Q) : ∃ b, V.ref a = .ref b ∧ (∃ xs, SqT K H b xs) ∧ LcW (Itt K b) g tt te vs σ H Q := ⟨a, rfl, ⟨xs, h⟩, q⟩
theorem i_tyes {QT : Bool → Hp → Prop} (h : QT true H) : tYes σ H QT := h
instance s_tyes {QT : Bool → Hp → Prop} : Stp (tYes σ H QT) (QT true H) := ⟨i_tyes⟩
theorem i_amongL {i : Int} (h : SqL K H a xs) (h0 : 0 ≤ i) (h1 : i < xs.length) (q : ∀ v, xs[i.toNat]? = some v → Q v H) : rIxL K (.ref a) (.int i) H Q := by
  have hx : xs[i.toNat]? = some (xs[i.toNat]'(by omega)) := List.getElem?_eq_getElem _
  exact ⟨a, xs, i, _, rfl, rfl, h, at_of (j := i.toNat) (by omega) hx, q _ hx⟩
end
theorem l_while {tt : TT} {tb : TS} {nx bk ct : St → Hp → Prop} {rt : VK} {σ : St} {H : Hp} {m : Nat} (W : Nat → St → Hp → Prop) (h0 : W m σ H)
    (hs : ∀ m σ' H', W m σ' H' → tt σ' H' fun b H1 => if b = true then ∃ N : St → Hp → Prop, (∀ σ2 H2, N σ2 H2 → ∃ m', m' < m ∧ W m' σ2 H2) ∧ tb ⟨N, rt, nx, N⟩ σ' H1 else nx σ' H1) : tWhile tt tb ⟨nx, rt, bk, ct⟩ σ H := ⟨W, ⟨m, h0⟩, hs⟩
/-- into the body of a while -/
theorem i_turn {W : Nat → St → Hp → Prop} {tb : TS} {nx : St → Hp → Prop} {rt : VK} {σ : St} {H : Hp} {m : Nat} (h : tb ⟨fun σ2 H2 => ∃ m', m' < m ∧ W m' σ2 H2, rt, nx, fun σ2 H2 => ∃ m', m' < m ∧ W m' σ2 H2⟩ σ H) : ∃ N : St → Hp → Prop, (∀ σ2 H2, N σ2 H2 → ∃ m', m' < m ∧ W m' σ2 H2) ∧ tb ⟨N, rt, nx, N⟩ σ H := ⟨_, fun _ _ h => h, h⟩
instance s_bm {K : PySem.W.Frag} {σ : St} {H : Hp} {Q : VK} {T : String} {r : V → List V → Hp → VK → Prop} {to : TE} {t : TA} : Stp (tBM K T r to t σ H Q) (to σ H fun x H1 => tyV K T x H1 ∧ t σ H1 fun xs H2 => r x xs H2 Q) := ⟨fun h => h⟩
theorem i_app {K : PySem.W.Frag} {σ : St} {H : Hp} {Q : VK} {r : V → List V → Hp → VK → Prop} {t : TA} {l : Addr} {ys : List V} (hl : H l = some (.lst ys)) (h : t σ H fun vs H2 => r (.ref l) vs H2 Q) : tyV K "list" (.ref l) H ∧ t σ H fun vs H2 => r (.ref l) vs H2 Q := ⟨.inl ⟨rfl, ys, sqL hl⟩, h⟩
theorem i_put {H : Hp} {Q : VK} {l : Addr} {xs : List V} {y : V} (h : H l = some (.lst xs)) (hz : xs.length < 100000) (q : Q .non (upd H l (.lst (xs ++ [y])))) : rAppend (.ref l) [y] H Q := ⟨l, xs, y, rfl, rfl, h, szl hz, q⟩
/-- the rest of a block once for all ways through its first statement -/
theorem i_cut {ts tw : TS} {nx bk ct : St → Hp → Prop} {rt : VK} {σ : St} {H : Hp} (R : St → Hp → Prop) (hR : ∀ σ' H', R σ' H' → tw ⟨nx, rt, bk, ct⟩ σ' H') (h : ∀ nx : St → Hp → Prop, (∀ σ' H', R σ' H' → nx σ' H') → ts ⟨nx, rt, bk, ct⟩ σ H) : tSeq ts tw ⟨nx, rt, bk, ct⟩ σ H := h _ hR
section
variable {K : PySem.W.Frag} {σ : St} {H : Hp} {g : TG} {tb : TS} {n : Nat} {lo : Int} {a : Addr} {xs : List V} {nx bk ct : St → Hp → Prop} {rt : VK}
theorem l_rng (Pv : Nat → St → Hp → Prop) (h0 : Pv 0 σ H) (hs : ∀ i σ' H', i < n → Pv i σ' H' → g (.int (lo + i)) σ' H' fun σ2 H2 => tb ⟨Pv (i + 1), rt, nx, Pv (i + 1)⟩ σ2 H2) (hd : ∀ σ' H', Pv n σ' H' → nx σ' H') : ForW (Itr lo n) g tb ⟨nx, rt, bk, ct⟩ σ H :=
  for_range (D := ⟨nx, rt, bk, ct⟩) Pv h0 hs hd
theorem l_lst (Pv : Nat → St → Hp → Prop) (h0 : Pv 0 σ H) (hl : ∀ i σ' H', i ≤ xs.length → Pv i σ' H' → SqL K H' a xs) (hs : ∀ i x σ' H', xs[i]? = some x → Pv i σ' H' → g x σ' H' fun σ2 H2 => tb ⟨Pv (i + 1), rt, nx, Pv (i + 1)⟩ σ2 H2) (hd : ∀ σ' H', Pv xs.length σ' H' → nx σ' H') : ForW (Itl K a) g tb ⟨nx, rt, bk, ct⟩ σ H :=
  for_list (D := ⟨nx, rt, bk, ct⟩) Pv h0 hl hs hd
theorem l_tup (Pv : Nat → St → Hp → Prop) (h0 : Pv 0 σ H) (hl : ∀ i σ' H', i ≤ xs.length → Pv i σ' H' → SqT K H' a xs) (hs : ∀ i x σ' H', xs[i]? = some x → Pv i σ' H' → g x σ' H' fun σ2 H2 => tb ⟨Pv (i + 1), rt, nx, Pv (i + 1)⟩ σ2 H2) (hd : ∀ σ' H', Pv xs.length σ' H' → nx σ' H') : ForW (Itt K a) g tb ⟨nx, rt, bk, ct⟩ σ H :=
  for_tup (D := ⟨nx, rt, bk, ct⟩) Pv h0 hl hs hd
end
section
variable {K : PySem.W.Frag} {σ : St} {H : Hp} {g : TG} {tt : TT} {te : TE} {vs : List Nat} {n : Nat} {lo : Int} {a : Addr} {xs : List V} {Q : VK}
theorem m_rng (Pv : Addr → Nat → Hp → Prop) (h0 : ∀ D, H D = none → Pv D 0 (upd H D (.lst [])))
    (hs : ∀ D i H', i < n → Pv D i H' → g (.int (lo + i)) (wipe σ vs) H' fun σ2 H2 => wipe σ2 vs = wipe σ vs ∧ tt σ2 H2 fun b H3 => if b = true then te σ2 H3 fun y H4 => ∃ acc, H4 D = some (.lst acc) ∧ acc.length < sizeLine ∧ Pv D (i + 1) (upd H4 D (.lst (acc ++ [y]))) else Pv D (i + 1) H3)
    (hd : ∀ D H', Pv D n H' → Q (.ref D) H') : LcW (Itr lo n) g tt te vs σ H Q := fun D hD => lc_range (Pv D) (h0 D hD) (hs D) (hd D)
theorem m_lst (Pv : Addr → Nat → Hp → Prop) (h0 : ∀ D, H D = none → Pv D 0 (upd H D (.lst []))) (hl : ∀ D i H', i ≤ xs.length → Pv D i H' → SqL K H' a xs)
    (hs : ∀ D i x H', xs[i]? = some x → Pv D i H' → g x (wipe σ vs) H' fun σ2 H2 => wipe σ2 vs = wipe σ vs ∧ tt σ2 H2 fun b H3 => if b = true then te σ2 H3 fun y H4 => ∃ acc, H4 D = some (.lst acc) ∧ acc.length < sizeLine ∧ Pv D (i + 1) (upd H4 D (.lst (acc ++ [y]))) else Pv D (i + 1) H3)
    (hd : ∀ D H', Pv D xs.length H' → Q (.ref D) H') : LcW (Itl K a) g tt te vs σ H Q := fun D hD => lc_list (Pv D) (h0 D hD) (hl D) (hs D) (hd D)
theorem m_tup (Pv : Addr → Nat → Hp → Prop) (h0 : ∀ D, H D = none → Pv D 0 (upd H D (.lst []))) (hl : ∀ D i H', i ≤ xs.length → Pv D i H' → SqT K H' a xs)
    (hs : ∀ D i x H', xs[i]? = some x → Pv D i H' → g x (wipe σ vs) H' fun σ2 H2 => wipe σ2 vs = wipe σ vs ∧ tt σ2 H2 fun b H3 => if b = true then te σ2 H3 fun y H4 => ∃ acc, H4 D = some (.lst acc) ∧ acc.length < sizeLine ∧ Pv D (i + 1) (upd H4 D (.lst (acc ++ [y]))) else Pv D (i + 1) H3)
    (hd : ∀ D H', Pv D xs.length H' → Q (.ref D) H') : LcW (Itt K a) g tt te vs σ H Q := fun D hD => lc_tup (Pv D) (h0 D hD) (hl D) (hs D) (hd D)
theorem m_kept {D : Addr} {y : V} {R : Hp → Prop} {acc : List V} (h : H D = some (.lst acc)) (hz : acc.length < 100000) (q : R (upd H D (.lst (acc ++ [y])))) : ∃ acc, H D = some (.lst acc) ∧ acc.length < sizeLine ∧ R (upd H D (.lst (acc ++ [y]))) := ⟨acc, h, szl hz, q⟩
end
theorem getI {ns : List Int} {i : Nat} {y : V} (hi : (ns.map V.int)[i]? = some y) : ∃ z, ns[i]? = some z ∧ y = V.int z := by
  rw [List.getElem?_map, Option.map_eq_some_iff] at hi
  exact hi.elim fun z h => ⟨z, h.1, h.2.symm⟩
theorem take_more {α : Type} {l : List α} {i : Nat} {x : α} (h : l[i]? = some x) : l.take (i + 1) = l.take i ++ [x] := by rw [List.take_add_one, h]; rfl
mutual
def Dt.dep : Dt → Nat
  | .lst l => Dt.depL l + 1
  | .tup l => Dt.depL l + 1
  | .dic l => Dt.depK l + 1
  | _ => 0
def Dt.depL : List Dt → Nat
  | [] => 0
  | d :: r => max d.dep (Dt.depL r)
def Dt.depK : List (Str × Dt) → Nat
  | [] => 0
  | (_, d) :: r => max d.dep (Dt.depK r)
end
mutual
def Dt.okd : Dt → Bool
  | .lst l => decide (l.length ≤ 20000) && Dt.okL l
  | .tup l => decide (l.length ≤ 20000) && Dt.okL l
  | .dic l => (decide (l.length ≤ 1000) && decide ((l.map (·.1)).Nodup)) && Dt.okK l
  | _ => true
def Dt.okL : List Dt → Bool
  | [] => true
  | d :: r => d.okd && Dt.okL r
def Dt.okK : List (Str × Dt) → Bool
  | [] => true
  | (_, d) :: r => d.okd && Dt.okK r
end
def Dt.isI : Dt → Bool
  | .int _ => true
  | _ => false
/-- an int from lo to hi -/
def Dt.inR (lo hi : Int) : Dt → Prop
  | .int i => lo ≤ i ∧ i ≤ hi
  | _ => False
/-- a power of two up to m -/
def Dt.isAl (m : Int) : Dt → Prop
  | .int i => (∃ k : Nat, i = 2 ^ k) ∧ i ≤ m
  | _ => False
theorem Dt.inR_of {d : Dt} (h : d.isI = false) (lo hi : Int) : ¬ d.inR lo hi := by
  cases d <;> first | exact fun z => z | cases h
theorem Dt.isAl_of {d : Dt} (h : d.isI = false) (m : Int) : ¬ d.isAl m := by
  cases d <;> first | exact fun z => z | cases h
theorem i_disp1 {σ : St} {H : Hp} {Q : VK} {k : Str} {v : V} (h : ∀ p, H p = none → Q (.ref p) (upd H p (.dK [(Sum.inr k, v)]))) : tDisp [(tC (.str k), tC v)] σ H Q := fun p hp => ⟨upd_same, [(.inr k, v)], rfl, by simp, by rw [upd_upd]; exact h p hp⟩
/-! ### a def as it stands behind the top -/
structure DfG (K : PySem.W.Frag) (mg : Str → Option Value) (x : Str) (st : Stmt) (ps : List Str) (f : Addr) (fd : FuncData) : Prop where
  fn : Fun K x x st f fd
  gl : mg x = some (.ref f)
  bd : Binds K fd ps []
structure DfM (K : PySem.W.Frag) (x qual : Str) (st : Stmt) (ps : List Str) (f : Addr) (fd : FuncData) : Prop where
  fn : Fun K x qual st f fd
  bd : Binds K fd ps []
theorem fn_false {P : Program} {w : World} {K : PySem.W.Frag} {mg : Str → Option Value} {base : Heap} {CX : CXT} {k : Nat} {f : Addr} {fd : FuncData} {ps : List Str} : FnOk P w K mg base CX k f fd ps (fun _ _ _ _ => False) := ⟨fun _ _ _ _ h => h.elim, fun _ _ _ _ _ _ _ _ _ _ _ _ _ h => h.elim⟩
theorem FnU.mono {P : Program} {w : World} {K : PySem.W.Frag} {mg : Str → Option Value} {base : Heap} {j k : Nat} {f : Addr} {fd : FuncData} {ps : List Str} {sp : Sp} (F : FnU P w K mg base j f fd ps sp) (h : j ≤ k) : FnU P w K mg base k f fd ps sp := ⟨F.len, fun A outer s H args us vs Q E hr => F.run A outer s H args us vs Q E (hr.mono h)⟩
/-- the part of H' that is new since H -/
def nw (H H' : Hp) : Hp := fun b => match H b with
  | none => H' b
  | some _ => none
theorem nw_to {H H' : Hp} {b : Addr} {o : HO} (h : H b = none) (e : H' b = some o) : nw H H' b = some o := by
  unfold nw
  rw [h]
  exact e
theorem nw_of {H H' : Hp} {b : Addr} {o : HO} (h : nw H H' b = some o) : H b = none ∧ H' b = some o := by
  unfold nw at h
  cases e : H b with
  | none =>
    rw [e] at h
    exact ⟨rfl, h⟩
  | some u =>
    rw [e] at h
    cases h
theorem nw_old {H H1 H2 : Hp} (k : ∀ b o, H b = some o → ∃ u, H1 b = some u) : Same (nw H1 H2) (nw H H2) := fun b o e => by
  obtain ⟨e1, e2⟩ := nw_of e
  refine nw_to ?_ e2
  cases q : H b with
  | none => rfl
  | some u =>
    obtain ⟨u', q'⟩ := k b u q
    rw [q'] at e1
    cases e1
theorem nw_hid {d s : Addr} {H H' : Hp} (h : Dr d s H) : Same (nw H H') (hid s H') := fun b o e => by
  obtain ⟨e1, e2⟩ := nw_of e
  exact hid_to e2 (h.ne e1)
theorem nw_same {H H' : Hp} : Same (nw H H') H' := fun _ _ e => (nw_of e).2
theorem alive {d s : Addr} {H H1 : Hp} (h : Dr d s H1) (k : Same (hid s H) (hid s H1)) : ∀ b o, H b = some o → ∃ u, H1 b = some u := fun b o e => by
  by_cases hb : b = s
  · subst hb
    exact h.s
  · exact ⟨o, hid_same _ _ (k _ _ (hid_to e hb))⟩
/-- what is new since H stays new and stays as it is -/
theorem nw_grow {d s : Addr} {H H1 H2 : Hp} (h : Dr d s H) (k : Same (hid s H1) (hid s H2)) : Same (nw H H1) (nw H H2) := fun b o e => by
  obtain ⟨e1, e2⟩ := nw_of e
  exact nw_to e1 (hid_same _ _ (k _ _ (hid_to e2 (h.ne e1))))
/-- what the end asks of the law -/
def sp_end (K : PySem.W.Frag) : Sp := fun vs H Q _ => ∃ (a : Addr) (ns : List Int), vs = [.ref a] ∧ SqL K H a (ns.map V.int) ∧ ns.length ≤ 63 ∧ ∀ H', Q (.bl true) H'
/-- isinstance of a value of a built-in class -/
class KB (a c : String) (b : outParam Bool) : Prop where
  e : kitB a c = some b
instance kb_NoneType_int : KB "NoneType" "int" false := ⟨by decide +kernel⟩
instance kb_NoneType_bool : KB "NoneType" "bool" false := ⟨by decide +kernel⟩
instance kb_NoneType_str : KB "NoneType" "str" false := ⟨by decide +kernel⟩
instance kb_NoneType_list : KB "NoneType" "list" false := ⟨by decide +kernel⟩
instance kb_NoneType_tuple : KB "NoneType" "tuple" false := ⟨by decide +kernel⟩
instance kb_NoneType_dict : KB "NoneType" "dict" false := ⟨by decide +kernel⟩
instance kb_bool_int : KB "bool" "int" true := ⟨by decide +kernel⟩
instance kb_bool_bool : KB "bool" "bool" true := ⟨by decide +kernel⟩
instance kb_bool_str : KB "bool" "str" false := ⟨by decide +kernel⟩
instance kb_bool_list : KB "bool" "list" false := ⟨by decide +kernel⟩
instance kb_bool_tuple : KB "bool" "tuple" false := ⟨by decide +kernel⟩
instance kb_bool_dict : KB "bool" "dict" false := ⟨by decide +kernel⟩
instance kb_int_int : KB "int" "int" true := ⟨by decide +kernel⟩
instance kb_int_bool : KB "int" "bool" false := ⟨by decide +kernel⟩
instance kb_int_str : KB "int" "str" false := ⟨by decide +kernel⟩
instance kb_int_list : KB "int" "list" false := ⟨by decide +kernel⟩
instance kb_int_tuple : KB "int" "tuple" false := ⟨by decide +kernel⟩
instance kb_int_dict : KB "int" "dict" false := ⟨by decide +kernel⟩
instance kb_str_int : KB "str" "int" false := ⟨by decide +kernel⟩
instance kb_str_bool : KB "str" "bool" false := ⟨by decide +kernel⟩
instance kb_str_str : KB "str" "str" true := ⟨by decide +kernel⟩
instance kb_str_list : KB "str" "list" false := ⟨by decide +kernel⟩
instance kb_str_tuple : KB "str" "tuple" false := ⟨by decide +kernel⟩
instance kb_str_dict : KB "str" "dict" false := ⟨by decide +kernel⟩
instance kb_list_int : KB "list" "int" false := ⟨by decide +kernel⟩
instance kb_list_bool : KB "list" "bool" false := ⟨by decide +kernel⟩
instance kb_list_str : KB "list" "str" false := ⟨by decide +kernel⟩
instance kb_list_list : KB "list" "list" true := ⟨by decide +kernel⟩
instance kb_list_tuple : KB "list" "tuple" false := ⟨by decide +kernel⟩
instance kb_list_dict : KB "list" "dict" false := ⟨by decide +kernel⟩
instance kb_tuple_int : KB "tuple" "int" false := ⟨by decide +kernel⟩
instance kb_tuple_bool : KB "tuple" "bool" false := ⟨by decide +kernel⟩
instance kb_tuple_str : KB "tuple" "str" false := ⟨by decide +kernel⟩
instance kb_tuple_list : KB "tuple" "list" false := ⟨by decide +kernel⟩
instance kb_tuple_tuple : KB "tuple" "tuple" true := ⟨by decide +kernel⟩
instance kb_tuple_dict : KB "tuple" "dict" false := ⟨by decide +kernel⟩
instance kb_dict_int : KB "dict" "int" false := ⟨by decide +kernel⟩
instance kb_dict_bool : KB "dict" "bool" false := ⟨by decide +kernel⟩
instance kb_dict_str : KB "dict" "str" false := ⟨by decide +kernel⟩
instance kb_dict_list : KB "dict" "list" false := ⟨by decide +kernel⟩
instance kb_dict_tuple : KB "dict" "tuple" false := ⟨by decide +kernel⟩
instance kb_dict_dict : KB "dict" "dict" true := ⟨by decide +kernel⟩
theorem i_isiT {K : PySem.W.Frag} {H : Hp} {Q : VK} {v : V} {n c : String} {b : Bool} [k : KB n c b] (h : Ty0 H v n) (q : Q (.bl b) H) : rIsi K [v, .ty c] H Q := i_isi h k.e q
section
variable {A B : Prop}
instance s_nonI {i : Int} {inst : Decidable (V.int i = .non)} : Stp (if @decide (V.int i = .non) inst = true then A else B) B := ⟨i_no (by simp)⟩
instance s_nonB {i : Bool} {inst : Decidable (V.bl i = .non)} : Stp (if @decide (V.bl i = .non) inst = true then A else B) B := ⟨i_no (by simp)⟩
instance s_nonS {i : Str} {inst : Decidable (V.str i = .non)} : Stp (if @decide (V.str i = .non) inst = true then A else B) B := ⟨i_no (by simp)⟩
instance s_nonR {i : Addr} {inst : Decidable (V.ref i = .non)} : Stp (if @decide (V.ref i = .non) inst = true then A else B) B := ⟨i_no (by simp)⟩
instance s_nonN {inst : Decidable (V.non = .non)} : Stp (if @decide (V.non = .non) inst = true then A else B) A := ⟨i_yes rfl⟩
instance s_bneTT : Stp (if (true != true) = true then A else B) B := ⟨fun h => h⟩
instance s_bneFF : Stp (if (false != false) = true then A else B) B := ⟨fun h => h⟩
instance s_bneTF : Stp (if (true != false) = true then A else B) A := ⟨fun h => h⟩
instance s_bneFT : Stp (if (false != true) = true then A else B) A := ⟨fun h => h⟩
end
/-! ### for the steps: a heap fact kept on -/
theorem sget {H H' : Hp} {p : Addr} {o : HO} (k : Same H H') (e : H p = some o) : H' p = some o := k _ _ e
theorem hget {s : Addr} {H H' : Hp} {p : Addr} {o : HO} (k : Same (hid s H) (hid s H')) (n : p ≠ s) (e : H p = some o) : H' p = some o := (hid_of (k _ _ (hid_to e n))).1
theorem ne_dr {d s q : Addr} {H : Hp} (hq : H q = none) (h : Dr d s H) : q ≠ s := h.ne hq
theorem i_isiG {K : PySem.W.Frag} {H : Hp} {Q : VK} {v : V} {c : String} (h : ∃ n b, Ty0 H v n ∧ kitB n c = some b ∧ Q (.bl b) H) : rIsi K [v, .ty c] H Q := h.elim fun _ h => h.elim fun _ h => i_isi h.1 h.2.1 h.2.2
theorem i_isiE {H : Hp} {Q : VK} {v : V} {n c : String} {b : Bool} [k : KB n c b] (h : Ty0 H v n) (q : Q (.bl b) H) : ∃ n b, Ty0 H v n ∧ kitB n c = some b ∧ Q (.bl b) H := ⟨n, b, h, k.e, q⟩
/-! what a goal is, ahead of a step with side goals -/
section
variable {K : PySem.W.Frag} {σ : St} {H : Hp} {Q : VK} {D : Ends} {v x y : V} {te : TE} {tw : TS} {n : Nat} {p : Addr} {i j : Int}
theorem q_var (h : tVar n σ H Q) : tVar n σ H Q := h
theorem q_ixL (h : rIxL K x y H Q) : rIxL K x y H Q := h
theorem q_ixT (h : rIxT K x y H Q) : rIxT K x y H Q := h
theorem q_setL {R : Hp → Prop} (h : rSetL x y v H R) : rSetL x y v H R := h
theorem q_mul (h : oMul x y H Q) : oMul x y H Q := h
theorem q_div (h : oDiv x y H Q) : oDiv x y H Q := h
theorem q_mod (h : oMod x y H Q) : oMod x y H Q := h
theorem q_pow (h : oPow x y H Q) : oPow x y H Q := h
theorem q_shl (h : oShl x y H Q) : oShl x y H Q := h
theorem q_len {vs : List V} (h : rLen K vs H Q) : rLen K vs H Q := h
theorem q_isi {vs : List V} (h : rIsi K vs H Q) : rIsi K vs H Q := h
theorem q_app {c : String} {P : Prop} (h : tyV K c x H ∧ P) : tyV K c x H ∧ P := h
theorem q_seqG {ti : TIp} (h : tSeq (tAug n te ti) tw D σ H) : tSeq (tAug n te ti) tw D σ H := h
theorem q_aug {ti : TIp} (h : tAug n te ti D σ H) : tAug n te ti D σ H := h
theorem q_gtup {t : TGs} {R : St → Hp → Prop} (h : gTup K n t x σ H R) : gTup K n t x σ H R := h
theorem q_sz {A : Nat} {P : Prop} (h : A ≤ sizeLine ∧ P) : A ≤ sizeLine ∧ P := h
end
theorem free2 {H H' : Hp} {p : Addr} (e : H' p = none) (k : Same H H') : H p = none := by
  cases q : H p with
  | none => rfl
  | some o =>
    rw [k p o q] at e
    cases e
theorem dead2 {d s p : Addr} {H H' : Hp} (e : H' p = none) (h : Dr d s H') (k : Same (hid s H) (hid s H')) : H p = none := by
  cases q : H p with
  | none => rfl
  | some o =>
    obtain ⟨u, hu⟩ := alive h k p o q
    rw [hu] at e
    cases e
theorem nw_wide {d s : Addr} {H H1 H2 H3 : Hp} (h : Dr d s H1) (k1 : Same (hid s H) (hid s H1)) (k2 : Same (hid s H2) (hid s H3)) : Same (nw H1 H2) (nw H H3) := fun b o e => by
  obtain ⟨e1, e2⟩ := nw_of e
  exact nw_to (dead2 e1 h k1) (hget k2 (h.ne e1) e2)
theorem nw_wide0 {H H1 H2 H3 : Hp} (k1 : Same H H1) (k2 : Same H2 H3) : Same (nw H1 H2) (nw H H3) := fun b o e => by
  obtain ⟨e1, e2⟩ := nw_of e
  exact nw_to (free2 e1 k1) (k2 _ _ e2)
theorem nw_hidw {d s : Addr} {H1 H2 H3 : Hp} (h : Dr d s H1) (k2 : Same (hid s H2) (hid s H3)) : Same (nw H1 H2) (hid s H3) := fun b o e => by
  obtain ⟨e1, e2⟩ := nw_of e
  exact k2 _ _ (hid_to e2 (h.ne e1))
theorem nw_to2 {H H' : Hp} {b : Addr} {o : HO} (e : H' b = some o) (h : H b = none) : nw H H' b = some o := nw_to h e
/-- {k: v} of a name -/
theorem i_disp1V {σ : St} {H : Hp} {Q : VK} {k : Str} {n : Nat} {v : V} (hx : σ[n]? = some (some v)) (h : ∀ p, H p = none → Q (.ref p) (upd H p (.dK [(Sum.inr k, v)]))) : tDisp [(tC (.str k), tVar n)] σ H Q := fun p hp => ⟨v, hx, upd_same, [(.inr k, v)], rfl, by simp, by rw [upd_upd]; exact h p hp⟩
theorem hid2_upd {r s : Addr} {H : Hp} {o : HO} (n : r ≠ s) : hid r (hid s (upd H r o)) = hid r (hid s H) := by
  funext b
  unfold hid
  by_cases h : b = r
  · rw [if_pos h, if_pos h]
  · rw [if_neg h, if_neg h, upd_ne h]
/-- an object that is new since G may change: the draws stand -/
theorem Dr.upd {d s r : Addr} {G H : Hp} {o : HO} (hG : Dr d s G) (hr : G r = none) (sm : Same (hid s G) (hid s H)) (hD : Dr d s H) : Dr d s (L2.upd H r o) := by
  obtain ⟨c0, cs0, p0, b0, q0, t0, e0, g1, g2, g3, g4, g5, g6⟩ := hG
  obtain ⟨c, cs, p, b, q, t, e, h1, h2, h3, h4, h5, h6⟩ := hD
  have k1 := (hid_of (sm _ _ (hid_to g1 g4))).1
  rw [h1] at k1
  have ec : c = c0 := by
    have z := Option.some.inj k1
    injection z with z
    injection z with z1 z2
    injection z1
  subst ec
  exact ⟨c, cs, p, b, q, t, e, upd_off (ne_of_none g1 hr) h1, upd_off (ne_of_none g2 hr) h2, upd_off (ne_of_none g3 hr) h3, h4, h5, h6⟩
theorem nw_hid2 {d s r : Addr} {H H' : Hp} {o : HO} (h : Dr d s H) (hr : H r = some o) : Same (nw H H') (hid r (hid s H')) := fun b u e => by
  obtain ⟨e1, e2⟩ := nw_of e
  refine hid_to (hid_to e2 (h.ne e1)) fun z => ?_
  rw [z, hr] at e1
  cases e1
theorem same_step {H1 H4 : Hp} {D : Addr} {o : HO} (hn : H1 D = none) (k : Same H1 H4) : Same H1 (upd H4 D o) := fun b u e => upd_off (ne_of_none e hn) (k _ _ e)
theorem hid_step {s D : Addr} {H1 H4 : Hp} {o : HO} (hn : H1 D = none) (k : Same (hid s H1) (hid s H4)) : Same (hid s H1) (hid s (upd H4 D o)) := fun b u e => by
  obtain ⟨e1, e2⟩ := hid_of e
  obtain ⟨e3, _⟩ := hid_of (k _ _ e)
  exact hid_to (upd_off (ne_of_none e1 hn) e3) e2
/-! ## Draws -/
local macro_rules | `(tactic| mem_news) => `(tactic| first
  | assumption | exact Same.refl _
  | (with_reducible refine Same.trans ?_ (same_new (by assumption)); mem_news)
  | (with_reducible refine Same.trans ?_ (by assumption); mem_news)
  | (with_reducible refine Same.trans ?_ (hid_mono (same_new (by assumption))); mem_news)
  | (with_reducible refine Same.trans ?_ (hid_mono (by assumption)); mem_news)
  | (with_reducible refine same_step (by nest_room) ?_; mem_news)
  | (with_reducible refine hid_step (by nest_room) ?_; mem_news)
  | (with_reducible refine nw_wide0 ?_ ?_ <;> mem_news)
  | (with_reducible refine nw_wide (by assumption) ?_ ?_ <;> mem_news)
  | (with_reducible refine nw_hidw (by leaf_len) ?_; mem_news)
  | (with_reducible refine Same.trans nw_same ?_; mem_news)
  | (with_reducible refine Same.trans hid_same ?_; mem_news))
local macro_rules | `(tactic| leaf_len) => `(tactic| first | assumption | (refine Dr.same (by assumption) ?_; mem_news))
local macro_rules | `(tactic| nest_fact) => `(tactic| first | assumption | (refine Ne.symm ?_; assumption) | exact ne_dr (by assumption) (by leaf_len))
local macro_rules | `(tactic| nest_room) => `(tactic| first | assumption | (refine free2 (by assumption) ?_; mem_news) | (refine dead2 (by assumption) (by leaf_len) ?_; mem_news))
local macro_rules | `(tactic| kct_strs) => `(tactic| first
  | assumption | exact upd_same | (refine upd_off (by assumption) ?_; kct_strs) | (refine upd_keep (by assumption) ?_; kct_strs) | (refine sget (by assumption) ?_; kct_strs) | (refine hget (by assumption) (by nest_fact) ?_; kct_strs)
  | (refine nw_to (by nest_room) ?_; kct_strs) | (refine hid_to ?_ (by nest_fact); kct_strs))
local macro_rules | `(tactic| one_item) => `(tactic| first
  | assumption | exact At.non | exact At.bl _ | exact At.int _ | exact At.str _ | exact Ats.nil
  | (refine At.mono ?_ (by assumption); mem_news) | (refine Ats.mono ?_ (by assumption); mem_news)
  | (refine At.tup (by kct_strs) ?_; one_item) | (refine At.lst (by kct_strs) ?_; one_item)
  | (refine Ats.cons ?_ ?_ <;> one_item))
local macro_rules | `(tactic| kbj_are) => `(tactic| first
  | with_reducible refine Stp.go ?_
  | (with_reducible refine q_var ?_; with_reducible refine i_var (by with_unfolding_all rfl) ?_)
  | with_reducible refine i_blV ?_
  | (with_reducible refine q_isi ?_; with_reducible refine i_isiT (by assumption) ?_)
  | (with_reducible refine q_ixL ?_; with_reducible refine i_ixL (sqL (by kct_strs)) (by with_unfolding_all rfl) ?_)
  | (with_reducible refine q_ixT ?_; with_reducible refine i_ixT (sqT (by kct_strs)) (by with_unfolding_all rfl) ?_)
  | (with_reducible refine q_setL ?_; with_reducible refine i_setL (by kct_strs) (by with_unfolding_all rfl) ?_)
  | (with_reducible refine q_mul ?_; with_reducible refine i_mul (by first | exact cmul_r (by omega) (by omega) | exact cmul_l (by omega) (by omega)) ?_)
  | (with_reducible refine q_div ?_; with_reducible refine i_div (by exact cdiv (by omega) (by omega)) ?_)
  | (with_reducible refine q_mod ?_; with_reducible refine i_mod (by omega) ?_)
  | (with_reducible refine q_len ?_; first | with_reducible refine i_lenL (sqL (by kct_strs)) ?_ | with_reducible refine i_lenT (sqT (by kct_strs)) ?_)
  | (with_reducible refine q_app ?_; with_reducible refine i_app (by kct_strs) ?_)
  | (with_reducible refine q_pow ?_; with_reducible refine i_pow (by first | exact cpow10 (by omega) (by omega) | exact cpow2 (by omega) (by omega)) ?_)
  | (with_reducible refine q_shl ?_; with_reducible refine i_shl (by first | exact cpow1 (by omega) (by omega) | exact cpow2 (by omega) (by omega)) ?_)
  | (with_reducible refine q_seqG ?_; with_reducible refine i_seqG (by with_unfolding_all rfl) ?_)
  | (with_reducible refine q_aug ?_; with_reducible refine i_aug (by with_unfolding_all rfl) ?_)
  | (with_reducible refine q_gtup ?_; with_reducible refine i_gtup (sqT (by kct_strs)) (by with_unfolding_all rfl) ?_)
  | with_reducible refine i_disp1 (fun p hp => ?_)
  | (with_reducible refine q_sz ?_; with_reducible refine ⟨sz (by simp), fun p hp => ?_⟩))
local macro_rules | `(tactic| fold_lay) => `(tactic| repeat kbj_are)
local macro_rules | `(tactic| fold_depth) => `(tactic| (with_reducible refine i_seq ?_; fold_lay))
local macro_rules | `(tactic| kbj_rows) => `(tactic| repeat (first | kbj_are | with_reducible refine i_seq ?_))
/-! ### the promises of the draws -/
def sp_next_cell : Sp := fun vs H Q _ => ∃ (d s : Addr), vs = [.ref d] ∧ Dr d s H ∧ ∀ H', Dr d s H' → Same (hid s H) (hid s H') → Q .non H'
def sp_mixed : Sp := fun vs H Q _ => ∃ (e t m : Int), vs = [.int e, .int t, .int m] ∧ 0 < m ∧ ∀ v, 0 ≤ v → v < m → Q (.int v) H
/-- below 2 the draw is 0 -/
def sp_take : Sp := fun vs H Q _ => ∃ (d s : Addr) (m : Int), vs = [.ref d, .int m] ∧ Dr d s H ∧ m ≤ 10000000000000000000000000000000000000000000000000000000000000000000000 ∧
  ∀ v H', 0 ≤ v → (v < m ∨ v = 0) → Dr d s H' → Same (hid s H) (hid s H') → Q (.int v) H'
def N_l_next_cell : List Str := ["_law_draws_here", "_law_cells", "_law_state", "_law_cell"]
def t_l_next_cell (K : PySem.W.Frag) : TS := (tSeq (tAsg (tOp (rIxL K) (tVar 0) (tC (.int 0))) (gName 1))
  (tSeq (tAsg (tOp (rIxL K) (tVar 0) (tC (.int 1))) (gName 2))
  (tIfS (tTest (tOp oLt (tOp (rIxL K) (tVar 2) (tC (.int 0))) (tCB (rLen K) (tCons (tVar 1) tNil)))) (tSeq (tAsg (tCB rInt1 (tCons (tOp (rIxL K) (tVar 1) (tOp (rIxL K) (tVar 2) (tC (.int 0)))) tNil)) (gName 3))
  (tSeq (tAsg (tOp oAdd (tOp (rIxL K) (tVar 2) (tC (.int 0))) (tC (.int 1))) (gSub (tVar 2) (tC (.int 0)) rSetL))
  (tSeq (tAsg (tOp oMod (tCB rInt1 (tCons (tOp oAdd (tOp oAdd (tOp oMul (tOp (rIxL K) (tVar 2) (tC (.int 4))) (tC (.int 31))) (tOp oMod (tVar 3) (tC (.int 2147483647)))) (tC (.int 1))) tNil)) (tC (.int 2147483647))) (gSub (tVar 2) (tC (.int 4)) rSetL))
  (tIfS (tTest (tOp oGe (tVar 3) (tOp oPow (tC (.int 10)) (tC (.int 18))))) (tAsg (tVar 3) (gSub (tVar 2) (tC (.int 1)) rSetL)) (tAsg (tC (.int 2)) (gSub (tVar 2) (tC (.int 2)) rSetL)))))) tNext)))
theorem pure_next_cell {K : PySem.W.Frag} {vs : List V} {H : Hp} {Q : VK} {E : XK} (h : sp_next_cell vs H Q E) : t_l_next_cell K { nx := fun _ H' => Q .non H', rt := Q } (start N_l_next_cell vs) H := by
  obtain ⟨d, s, rfl, hD, k⟩ := h
  obtain ⟨c, cs, p, b, n, t, e, h1, h2, h3, h4, h5, h6, h7, h8⟩ := id hD
  have fin : ∀ (H' : Hp) (p' b' n' t' e' : Int), H' s = some (.lst [.int p', .int b', .int n', .int t', .int e']) → (∀ q, q ≠ s → H' q = H q) → 0 ≤ p' → 0 ≤ b' → Q .non H' := fun H' p' b' n' t' e' hs hk hp hb =>
    k H' ⟨c, cs, p', b', n', t', e', by rw [hk _ h4]; exact h1, by rw [hk _ h5]; exact h2, hs, h4, h5, hp, hb, h8⟩ fun q o hq => by
      obtain ⟨q1, q2⟩ := hid_of hq
      exact hid_to (by rw [hk _ q2]; exact q1) q2
  unfold t_l_next_cell
  fold_lay
  refine i_ifd (fun hlt => ?_) (fun hlt => ?_)
  · have hx : ∃ z, cs[p.toNat]? = some z := by
      rw [List.length_map] at hlt
      exact ⟨cs[p.toNat]'(by omega), List.getElem?_eq_getElem _⟩
    obtain ⟨z, hz⟩ := hx
    fold_lay
    refine i_ixL (sqL (by kct_strs)) (at_of (j := p.toNat) (by omega) (by rw [List.getElem?_map, hz]; rfl)) ?_
    fold_lay
    refine i_ifd (fun hge => ?_) (fun hge => ?_)
    · fold_lay
      refine fin _ (p + 1) z n t _ upd_same (fun q hq => by rw [upd_ne hq, upd_ne hq, upd_ne hq]) (by omega) ?_
      have : (0 : Int) ≤ 10 ^ (18 : Int).toNat := by decide
      omega
    · fold_lay
      exact fin _ (p + 1) b 2 t _ upd_same (fun q hq => by rw [upd_ne hq, upd_ne hq, upd_ne hq]) (by omega) h7
  · fold_lay
    exact fin _ p b n t e h3 (fun _ _ => rfl) h6 h7

def N_l_mixed : List Str := ["_law_seed", "_law_turn", "_law_many", "_law_value", "_law_k", "_law_first", "_law_second"]
def t_l_mixed (K : PySem.W.Frag) : TS := (tSeq (tAsg (tC (.int 0)) (gName 3))
  (tSeq (tFor (iRng1 (tCons (tC (.int 2)) tNil)) (gName 4) (tSeq (tAsg (tOp oMod (tCB rInt1 (tCons (tOp oMul (tOp oAdd (tOp oAdd (tVar 0) (tC (.int 7))) (tOp oMul (tOp oAdd (tOp oMul (tC (.int 2)) (tVar 1)) (tVar 4)) (tC (.int 1000003)))) (tC (.int 48271))) tNil)) (tC (.int 2147483647))) (gName 5))
  (tSeq (tAsg (tOp oMod (tCB rInt1 (tCons (tOp oAdd (tOp oAdd (tOp oMul (tVar 5) (tVar 5)) (tOp oMul (tOp oDiv (tVar 5) (tC (.int 3571))) (tC (.int 69621)))) (tVar 1)) tNil)) (tC (.int 2147483399))) (gName 6))
  (tAsg (tOp oAdd (tOp oMul (tVar 3) (tC (.int 126322553))) (tOp oDiv (tVar 6) (tC (.int 17)))) (gName 3)))))
  (tRet (tOp oMod (tCB rInt1 (tCons (tVar 3) tNil)) (tVar 2)))))
theorem pure_mixed {K : PySem.W.Frag} {vs : List V} {H : Hp} {Q : VK} {E : XK} (h : sp_mixed vs H Q E) : t_l_mixed K { nx := fun _ H' => Q .non H', rt := Q } (start N_l_mixed vs) H := by
  obtain ⟨e, t, m, rfl, hm, k⟩ := h
  unfold t_l_mixed
  fold_lay
  fold_depth
  refine f_rng1 (by omega) (by omega) (l_rng (fun i σ H' => H' = H ∧ ∃ (v : Int) (x1 x2 x3 : Option V), σ = [some (.int e), some (.int t), some (.int m), some (.int v), x1, x2, x3]) ⟨rfl, 0, none, none, none, rfl⟩ ?_ ?_)
  · rintro i σ H' hi ⟨rfl, v, x1, x2, x3, rfl⟩
    fold_lay
    exact ⟨rfl, _, _, _, _, rfl⟩
  · rintro σ H' ⟨rfl, v, x1, x2, x3, rfl⟩
    fold_lay
    exact k _ (Int.emod_nonneg _ (by omega)) (Int.emod_lt_of_pos _ hm)
theorem c_next_cell {d s : Addr} {H : Hp} {Q : VK} {E : XK} (hD : Dr d s H) (h : ∀ H', Dr d s H' → Same (hid s H) (hid s H') → Q .non H') : sp_next_cell [.ref d] H Q E := ⟨d, s, rfl, hD, h⟩
theorem c_take {d s : Addr} {m : Int} {H : Hp} {Q : VK} {E : XK} (hD : Dr d s H) (hm : m ≤ 10000000000000000000000000000000000000000000000000000000000000000000000) (h : ∀ v H', 0 ≤ v → (v < m ∨ v = 0) → Dr d s H' → Same (hid s H) (hid s H') → Q (.int v) H') : sp_take [.ref d, .int m] H Q E := ⟨d, s, m, rfl, hD, hm, h⟩
def N_l_take : List Str := ["_law_draws_here", "_law_many", "_law_state", "_law_value"]
def t_l_take (K : PySem.W.Frag) : TS := (tSeq (tIfS (tTest (tOp oLt (tVar 1) (tC (.int 2)))) (tRet (tC (.int 0))) tNext)
  (tSeq (tAsg (tOp (rIxL K) (tVar 0) (tC (.int 1))) (gName 2))
  (tSeq (tAsg (tOp oAdd (tOp (rIxL K) (tVar 2) (tC (.int 3))) (tC (.int 1))) (gSub (tVar 2) (tC (.int 3)) rSetL))
  (tSeq (tIfS (tAnd (tTest (tOp oLt (tOp (rIxL K) (tVar 2) (tC (.int 1))) (tC (.int 2)))) (tTest (tOp oLt (tOp (rIxL K) (tVar 2) (tC (.int 2))) (tC (.int 1))))) (tDrop (tCall sp_next_cell [] E0 (tCons (tVar 0) tNil))) tNext)
  (tSeq (tIfS (tTest (tOp oGt (tOp (rIxL K) (tVar 2) (tC (.int 1))) (tC (.int 1)))) (tSeq (tAsg (tOp oMod (tCB rInt1 (tCons (tOp (rIxL K) (tVar 2) (tC (.int 1))) tNil)) (tVar 1)) (gName 3))
  (tSeq (tAsg (tOp oDiv (tOp (rIxL K) (tVar 2) (tC (.int 1))) (tVar 1)) (gSub (tVar 2) (tC (.int 1)) rSetL))
  (tRet (tVar 3)))) tNext)
  (tSeq (tIfS (tTest (tOp oGt (tOp (rIxL K) (tVar 2) (tC (.int 2))) (tC (.int 0)))) (tAsg (tOp oSub (tOp (rIxL K) (tVar 2) (tC (.int 2))) (tC (.int 1))) (gSub (tVar 2) (tC (.int 2)) rSetL)) tNext)
  (tRet (tCall sp_mixed [] E0 (tCons (tOp (rIxL K) (tVar 2) (tC (.int 4))) (tCons (tOp (rIxL K) (tVar 2) (tC (.int 3))) (tCons (tVar 1) tNil)))))))))))
theorem pure_take {K : PySem.W.Frag} {vs : List V} {H : Hp} {Q : VK} {E : XK} (h : sp_take vs H Q E) : t_l_take K { nx := fun _ H' => Q .non H', rt := Q } (start N_l_take vs) H := by
  obtain ⟨d, s, m, rfl, hD, hm, k⟩ := h
  unfold t_l_take
  fold_depth
  refine i_ifd (fun h2 => ?_) (fun h2 => ?_)
  · fold_lay
    exact k 0 H (by omega) (.inr rfl) hD (Same.refl _)
  obtain ⟨c, cs, p, b, n, t, e, a1, a2, a3, a4, a5, a6, a7, a8⟩ := id hD
  have mk : ∀ (H' : Hp) (p' b' n' t' e' : Int), H' s = some (.lst [.int p', .int b', .int n', .int t', .int e']) → (∀ q, q ≠ s → H' q = H q) → 0 ≤ p' → 0 ≤ b' → Dr d s H' ∧ Same (hid s H) (hid s H') := fun H' p' b' n' t' e' hs hk hp hb =>
    ⟨⟨c, cs, p', b', n', t', e', by rw [hk _ a4]; exact a1, by rw [hk _ a5]; exact a2, hs, a4, a5, hp, hb, a8⟩, fun q o hq => by
      obtain ⟨q1, q2⟩ := hid_of hq
      exact hid_to (by rw [hk _ q2]; exact q1) q2⟩
  fold_lay
  refine i_cut (fun σ' H' => σ' = [some (.ref d), some (.int m), some (.ref s), none] ∧ Dr d s H' ∧ Same (hid s H) (hid s H')) ?_ (fun nx key => ?_)
  · rintro σ' H2 ⟨rfl, hD2, s2⟩
    obtain ⟨c, cs, p, b, n, t, e, b1, b2, b3, b4, b5, b6, b7, b8⟩ := id hD2
    fold_depth
    refine i_ifd (fun h3 => ?_) (fun h3 => ?_)
    · fold_lay
      refine k _ _ (Int.emod_nonneg _ (by omega)) (.inl (Int.emod_lt_of_pos _ (by omega))) ⟨c, cs, p, b / m, n, t, e, by kct_strs, by kct_strs, upd_same, b4, b5, b6, Int.ediv_nonneg b7 (by omega), b8⟩ ?_
      rw [hid_upd]
      exact s2
    fold_lay
    refine i_cut (fun σ' H' => σ' = [some (.ref d), some (.int m), some (.ref s), none] ∧ Dr d s H' ∧ Same (hid s H) (hid s H')) ?_ (fun nx key => ?_)
    · rintro σ' H3 ⟨rfl, hD3, s3⟩
      obtain ⟨c, cs, p, b, n, t, e, c1, c2, c3, c4, c5, c6, c7, c8⟩ := id hD3
      fold_lay
      exact ⟨_, _, _, rfl, by omega, fun v v0 v1 => k v H3 v0 (.inl v1) hD3 s3⟩
    · fold_lay
      refine i_ifd (fun h4 => ?_) (fun h4 => ?_)
      · fold_lay
        refine key _ _ ⟨rfl, ⟨c, cs, p, b, n - 1, t, e, by kct_strs, by kct_strs, upd_same, b4, b5, b6, b7, b8⟩, ?_⟩
        rw [hid_upd]
        exact s2
      · fold_lay
        exact key _ _ ⟨rfl, hD2, s2⟩
  · have mm := mk (upd H s (.lst [.int p, .int b, .int n, .int (t + 1), .int e])) p b n (t + 1) e upd_same (fun q hq => by rw [upd_ne hq]) a6 a7
    fold_lay
    refine i_ifd (fun h3 => ?_) (fun h3 => ?_)
    · fold_lay
      refine i_ifd (fun h4 => ?_) (fun h4 => ?_)
      · fold_lay
        exact c_next_cell mm.1 fun H' d1 d2 => key _ _ ⟨rfl, d1, mm.2.trans d2⟩
      · fold_lay
        exact key _ _ ⟨rfl, mm⟩
    · fold_lay
      exact key _ _ ⟨rfl, mm⟩
/-! ## Draws2 -/
/-! ### between, number, count, alignment, power, long -/
def sp_between : Sp := fun vs H Q _ => ∃ (d s : Addr) (lo hi : Int), vs = [.ref d, .int lo, .int hi] ∧ Dr d s H ∧ hi - lo ≤ 1000000000000000000000000000000000000000000000000000000000000000000000 ∧
  ∀ v H', lo ≤ v → (v ≤ hi ∨ v = lo) → Dr d s H' → Same (hid s H) (hid s H') → Q (.int v) H'
theorem c_between {d s : Addr} {lo hi : Int} {H : Hp} {Q : VK} {E : XK} (hD : Dr d s H) (hm : hi - lo ≤ 1000000000000000000000000000000000000000000000000000000000000000000000) (h : ∀ v H', lo ≤ v → (v ≤ hi ∨ v = lo) → Dr d s H' → Same (hid s H) (hid s H') → Q (.int v) H') : sp_between [.ref d, .int lo, .int hi] H Q E := ⟨d, s, lo, hi, rfl, hD, hm, h⟩
def N_l_between : List Str := ["_law_draws_here", "_law_low", "_law_high", "_law_kind"]
def t_l_between (K : PySem.W.Frag) : TS := (tSeq (tIfS (tTest (tOp oLe (tVar 2) (tVar 1))) (tRet (tVar 1)) tNext)
  (tSeq (tAsg (tCall sp_take [] E0 (tCons (tVar 0) (tCons (tC (.int 6)) tNil))) (gName 3))
  (tSeq (tIfS (tTest (tOp rEq (tVar 3) (tC (.int 0)))) (tRet (tVar 1)) tNext)
  (tSeq (tIfS (tTest (tOp rEq (tVar 3) (tC (.int 1)))) (tRet (tVar 2)) tNext)
  (tRet (tOp oAdd (tVar 1) (tCall sp_take [] E0 (tCons (tVar 0) (tCons (tOp oAdd (tOp oSub (tVar 2) (tVar 1)) (tC (.int 1))) tNil)))))))))
theorem pure_between {K : PySem.W.Frag} {vs : List V} {H : Hp} {Q : VK} {E : XK} (h : sp_between vs H Q E) : t_l_between K { nx := fun _ H' => Q .non H', rt := Q } (start N_l_between vs) H := by
  obtain ⟨d, s, lo, hi, rfl, hD, hm, k⟩ := h
  unfold t_l_between
  fold_depth
  refine i_ifd (fun h1 => ?_) (fun h1 => ?_)
  · fold_lay
    exact k _ _ (by omega) (.inr rfl) hD (Same.refl _)
  fold_lay
  refine c_take hD (by omega) fun v H1 v0 v1 hD1 s1 => ?_
  fold_lay; fold_depth
  refine i_ifd (fun h2 => ?_) (fun h2 => ?_)
  · fold_lay
    exact k _ _ (by omega) (.inr rfl) hD1 s1
  fold_lay; fold_depth
  refine i_ifd (fun h3 => ?_) (fun h3 => ?_)
  · fold_lay
    exact k _ _ (by omega) (.inl (by omega)) hD1 s1
  fold_lay
  refine c_take hD1 (by omega) fun w H2 w0 w1 hD2 s2 => ?_
  fold_lay
  exact k _ _ (by omega) (.inl (by omega)) hD2 (s1.trans s2)
def sp_alignment : Sp := fun vs H Q _ => ∃ (d s : Addr) (m : Int), vs = [.ref d, .int m] ∧ Dr d s H ∧ 0 ≤ m ∧ m ≤ 1000 ∧
  ∀ (k : Nat) H', (k : Int) ≤ m → Dr d s H' → Same (hid s H) (hid s H') → Q (.int (2 ^ k)) H'
theorem c_alignment {d s : Addr} {m : Int} {H : Hp} {Q : VK} {E : XK} (hD : Dr d s H) (h0 : 0 ≤ m) (h1 : m ≤ 1000) (h : ∀ (k : Nat) H', (k : Int) ≤ m → Dr d s H' → Same (hid s H) (hid s H') → Q (.int (2 ^ k)) H') : sp_alignment [.ref d, .int m] H Q E := ⟨d, s, m, rfl, hD, h0, h1, h⟩
theorem pow_succ2 (k : Nat) : (2 : Int) ^ k * 2 = 2 ^ (k + 1) := (Int.pow_succ 2 k).symm
def N_l_alignment : List Str := ["_law_draws_here", "_law_most", "_law_value", "_law_k"]
def t_l_alignment (K : PySem.W.Frag) : TS := (tSeq (tAsg (tC (.int 1)) (gName 2))
  (tSeq (tFor (iRng1 (tCons (tCall sp_between [] E0 (tCons (tVar 0) (tCons (tC (.int 0)) (tCons (tVar 1) tNil)))) tNil)) (gName 3) (tAsg (tOp oMul (tVar 2) (tC (.int 2))) (gName 2)))
  (tRet (tVar 2))))
theorem pure_alignment {K : PySem.W.Frag} {vs : List V} {H : Hp} {Q : VK} {E : XK} (h : sp_alignment vs H Q E) : t_l_alignment K { nx := fun _ H' => Q .non H', rt := Q } (start N_l_alignment vs) H := by
  obtain ⟨d, s, m, rfl, hD, h0, h1, k⟩ := h
  unfold t_l_alignment
  fold_lay; fold_depth
  refine c_between hD (by omega) fun v H1 v0 v1 hD1 s1 => ?_
  fold_lay
  refine f_rng1 (by omega) (by omega) (l_rng (fun i σ H' => H' = H1 ∧ ∃ x, σ = [some (.ref d), some (.int m), some (.int (2 ^ i)), x]) ⟨rfl, none, rfl⟩ ?_ ?_)
  · rintro i σ H' hi ⟨rfl, x, rfl⟩
    fold_lay
    rw [pow_succ2]
    exact ⟨rfl, _, rfl⟩
  · rintro σ H' ⟨rfl, x, rfl⟩
    fold_lay
    exact k _ _ (by omega) hD1 s1
def sp_power : Sp := fun vs H Q _ => ∃ (m : Int), vs = [.int m] ∧ 0 ≤ m ∧ m ≤ 100000 ∧ Q (.int (2 ^ m.toNat)) H
def N_l_power : List Str := ["_law_number_here", "_law_value", "_law_k"]
def t_l_power (K : PySem.W.Frag) : TS := (tSeq (tAsg (tC (.int 1)) (gName 1))
  (tSeq (tFor (iRng1 (tCons (tVar 0) tNil)) (gName 2) (tAsg (tOp oMul (tVar 1) (tC (.int 2))) (gName 1)))
  (tRet (tVar 1))))
theorem pure_power {K : PySem.W.Frag} {vs : List V} {H : Hp} {Q : VK} {E : XK} (h : sp_power vs H Q E) : t_l_power K { nx := fun _ H' => Q .non H', rt := Q } (start N_l_power vs) H := by
  obtain ⟨m, rfl, h0, h1, k⟩ := h
  unfold t_l_power
  fold_lay; fold_depth
  refine f_rng1 (by omega) (by omega) (l_rng (fun i σ H' => H' = H ∧ ∃ x, σ = [some (.int m), some (.int (2 ^ i)), x]) ⟨rfl, none, rfl⟩ ?_ ?_)
  · rintro i σ H' hi ⟨rfl, x, rfl⟩
    fold_lay
    rw [pow_succ2]
    exact ⟨rfl, _, rfl⟩
  · rintro σ H' ⟨rfl, x, rfl⟩
    fold_lay
    exact k
def sp_number : Sp := fun vs H Q _ => ∃ (d s : Addr) (lo hi : Int), vs = [.ref d, .int lo, .int hi] ∧ Dr d s H ∧ lo ≤ hi ∧ hi - lo ≤ 100000000000000000000000000000000000000000000000000000000000000000000 ∧
  ∀ v H', lo ≤ v → v ≤ hi → Dr d s H' → Same (hid s H) (hid s H') → Q (.int v) H'
theorem c_number {d s : Addr} {lo hi : Int} {H : Hp} {Q : VK} {E : XK} (hD : Dr d s H) (hl : lo ≤ hi) (hm : hi - lo ≤ 100000000000000000000000000000000000000000000000000000000000000000000) (h : ∀ v H', lo ≤ v → v ≤ hi → Dr d s H' → Same (hid s H) (hid s H') → Q (.int v) H') : sp_number [.ref d, .int lo, .int hi] H Q E := ⟨d, s, lo, hi, rfl, hD, hl, hm, h⟩
theorem two_pow_pos (k : Nat) : (0 : Int) < 2 ^ k := Int.pow_pos (by decide)
def N_l_number : List Str := ["_law_draws_here", "_law_low", "_law_high", "_law_kind"]
def t_l_number (K : PySem.W.Frag) : TS := (tSeq (tIfS (tTest (tOp oLt (tOp oSub (tVar 2) (tVar 1)) (tC (.int 16)))) (tRet (tCall sp_between [] E0 (tCons (tVar 0) (tCons (tVar 1) (tCons (tVar 2) tNil))))) tNext)
  (tSeq (tAsg (tCall sp_take [] E0 (tCons (tVar 0) (tCons (tC (.int 8)) tNil))) (gName 3))
  (tSeq (tIfS (tTest (tOp oLt (tVar 3) (tC (.int 4)))) (tRet (tOp (rIxL K) (tLst (tCons (tVar 1) (tCons (tVar 2) (tCons (tOp oAdd (tVar 1) (tC (.int 1))) (tCons (tOp oSub (tVar 2) (tC (.int 1))) tNil))))) (tVar 3))) tNext)
  (tSeq (tIfS (tTest (tOp oLt (tVar 3) (tC (.int 6)))) (tRet (tOp oAdd (tVar 1) (tCall sp_take [] E0 (tCons (tVar 0) (tCons (tOp oAdd (tCB rMin2 (tCons (tOp oSub (tVar 2) (tVar 1)) (tCons (tC (.int 40)) tNil))) (tC (.int 1))) tNil))))) tNext)
  (tSeq (tIfS (tTest (tOp rEq (tVar 3) (tC (.int 6)))) (tRet (tCB rMax2 (tCons (tVar 1) (tCons (tCB rMin2 (tCons (tVar 2) (tCons (tOp oSub (tOp oAdd (tCall sp_alignment [] E0 (tCons (tVar 0) (tCons (tC (.int 30)) tNil))) (tCall sp_take [] E0 (tCons (tVar 0) (tCons (tC (.int 3)) tNil)))) (tC (.int 1))) tNil))) tNil)))) tNext)
  (tRet (tOp oAdd (tVar 1) (tCall sp_take [] E0 (tCons (tVar 0) (tCons (tOp oAdd (tOp oSub (tVar 2) (tVar 1)) (tC (.int 1))) tNil))))))))))
theorem pure_number {K : PySem.W.Frag} {vs : List V} {H : Hp} {Q : VK} {E : XK} (h : sp_number vs H Q E) : t_l_number K { nx := fun _ H' => Q .non H', rt := Q } (start N_l_number vs) H := by
  obtain ⟨d, s, lo, hi, rfl, hD, hl, hm, k⟩ := h
  unfold t_l_number
  fold_depth
  refine i_ifd (fun h1 => ?_) (fun h1 => ?_)
  · fold_lay
    exact c_between hD (by omega) fun v H1 v0 v1 hD1 s1 => k _ _ v0 (by omega) hD1 s1
  fold_lay
  refine c_take hD (by omega) fun v H1 v0 v1 hD1 s1 => ?_
  fold_lay; fold_depth
  refine i_ifd (fun h2 => ?_) (fun h2 => ?_)
  · fold_lay
    rename_i p hp
    have fin : ∀ x, lo ≤ x → x ≤ hi → Q (.int x) (upd H1 p (.lst [.int lo, .int hi, .int (lo + 1), .int (hi - 1)])) := fun x x0 x1 => k _ _ x0 x1 (hD1.same (same_new hp)) (s1.trans (hid_mono (same_new hp)))
    have hv : v = 0 ∨ v = 1 ∨ v = 2 ∨ v = 3 := by omega
    rcases hv with rfl | rfl | rfl | rfl
    · fold_lay; exact fin _ (by omega) (by omega)
    · fold_lay; exact fin _ (by omega) (by omega)
    · fold_lay; exact fin _ (by omega) (by omega)
    · fold_lay; exact fin _ (by omega) (by omega)
  fold_lay; fold_depth
  refine i_ifd (fun h3 => ?_) (fun h3 => ?_)
  · fold_lay
    refine c_take hD1 (by split <;> omega) fun w H2 w0 w1 hD2 s2 => ?_
    fold_lay
    refine k _ _ (by omega) ?_ hD2 (s1.trans s2)
    split at w1 <;> omega
  fold_lay; fold_depth
  refine i_ifd (fun h4 => ?_) (fun h4 => ?_)
  · fold_lay
    refine c_alignment hD1 (by omega) (by omega) fun j H2 j1 hD2 s2 => ?_
    fold_lay
    refine c_take hD2 (by omega) fun w H3 w0 w1 hD3 s3 => ?_
    fold_lay
    have hp := two_pow_pos j
    generalize (2 : Int) ^ j = z at hp
    refine k _ _ ?_ ?_ hD3 ((s1.trans s2).trans s3)
    · split
      · omega
      · omega
    · split
      · split <;> omega
      · omega
  fold_lay
  refine c_take hD1 (by omega) fun w H2 w0 w1 hD2 s2 => ?_
  fold_lay
  exact k _ _ (by omega) (by omega) hD2 (s1.trans s2)
def sp_count : Sp := fun vs H Q _ => ∃ (d s : Addr) (lo hi : Int), vs = [.ref d, .int lo, .int hi] ∧ Dr d s H ∧ 0 ≤ lo ∧ lo ≤ hi ∧ hi ≤ 100000000000000000000000000000000000000000000000000000000000000000000 ∧
  ∀ v H', 0 ≤ v → v ≤ hi → Dr d s H' → Same (hid s H) (hid s H') → Q (.int v) H'
theorem c_count {d s : Addr} {lo hi : Int} {H : Hp} {Q : VK} {E : XK} (hD : Dr d s H) (h0 : 0 ≤ lo) (hl : lo ≤ hi) (hm : hi ≤ 100000000000000000000000000000000000000000000000000000000000000000000) (h : ∀ v H', 0 ≤ v → v ≤ hi → Dr d s H' → Same (hid s H) (hid s H') → Q (.int v) H') : sp_count [.ref d, .int lo, .int hi] H Q E := ⟨d, s, lo, hi, rfl, hD, h0, hl, hm, h⟩
def N_l_count : List Str := ["_law_draws_here", "_law_small", "_law_great"]
def t_l_count (K : PySem.W.Frag) : TS := (tSeq (tIfS (tTest (tOp rEq (tCall sp_take [] E0 (tCons (tVar 0) (tCons (tC (.int 8)) tNil))) (tC (.int 7)))) (tRet (tCall sp_between [] E0 (tCons (tVar 0) (tCons (tVar 1) (tCons (tVar 2) tNil))))) tNext)
  (tRet (tCall sp_between [] E0 (tCons (tVar 0) (tCons (tC (.int 0)) (tCons (tVar 1) tNil))))))
theorem pure_count {K : PySem.W.Frag} {vs : List V} {H : Hp} {Q : VK} {E : XK} (h : sp_count vs H Q E) : t_l_count K { nx := fun _ H' => Q .non H', rt := Q } (start N_l_count vs) H := by
  obtain ⟨d, s, lo, hi, rfl, hD, h0, hl, hm, k⟩ := h
  unfold t_l_count
  fold_depth
  refine c_take hD (by omega) fun v H1 v0 v1 hD1 s1 => ?_
  fold_lay
  refine i_ifd (fun h1 => ?_) (fun h1 => ?_)
  · fold_lay
    exact c_between hD1 (by omega) fun v H2 v0 v1 hD2 s2 => k _ _ (by omega) (by omega) hD2 (s1.trans s2)
  · fold_lay
    exact c_between hD1 (by omega) fun v H2 v0 v1 hD2 s2 => k _ _ (by omega) (by omega) hD2 (s1.trans s2)
/-! ## Draws3 -/
/-! ### what is out of a range -/
def lng : Int := 10 ^ 999
theorem lng_big : 10000000000000000000000000000000000000000000000000000000000000000000000 < lng := by decide +kernel
theorem ten_lt (n : Nat) : ((10 : Int) ^ n).natAbs < 2 ^ (4 * n + 1) := by
  rw [Int.natAbs_pow]
  have h : (10 : Int).natAbs ^ n ≤ (2 ^ 4) ^ n := Nat.pow_le_pow_left (by decide) n
  rw [← Nat.pow_mul] at h
  exact Nat.lt_of_le_of_lt h (Nat.pow_lt_pow_right (by decide) (by omega))
def sp_long : Sp := fun vs H Q _ => vs = [] ∧ Q (.int lng) H
def N_l_long : List Str := ["_law_value", "_law_k"]
def t_l_long (K : PySem.W.Frag) : TS := (tSeq (tAsg (tOp oPow (tC (.int 10)) (tC (.int 39))) (gName 0))
  (tSeq (tFor (iRng1 (tCons (tC (.int 15)) tNil)) (gName 1) (tAsg (tOp oMulW (tVar 0) (tOp oPow (tC (.int 10)) (tC (.int 64)))) (gName 0)))
  (tRet (tVar 0))))
theorem pure_long {K : PySem.W.Frag} {vs : List V} {H : Hp} {Q : VK} {E : XK} (h : sp_long vs H Q E) : t_l_long K { nx := fun _ H' => Q .non H', rt := Q } (start N_l_long vs) H := by
  obtain ⟨rfl, k⟩ := h
  unfold t_l_long
  fold_lay; fold_depth
  refine f_rng1 (by omega) (by omega) (l_rng (fun i σ H' => H' = H ∧ ∃ x, σ = [some (.int (10 ^ (39 + 64 * i))), x]) ⟨rfl, none, rfl⟩ ?_ ?_)
  · rintro i σ H' hi ⟨rfl, x, rfl⟩
    have hi : i < 15 := hi
    fold_lay
    refine i_mulW (wide_mul (ten_lt _) (ten_lt _) (by omega) (by omega) ?_) ?_
    · show 4 * (39 + 64 * i) + 1 + (4 * 64 + 1) ≤ 1000000
      omega
    · fold_lay
      refine ⟨rfl, some (.int (0 + (i : Int))), ?_⟩
      have e : (10 : Int) ^ (39 + 64 * i) * 10 ^ (64 : Int).toNat = 10 ^ (39 + 64 * (i + 1)) := by
        rw [← Int.pow_add]
        rfl
      rw [e]
      rfl
  · rintro σ H' ⟨rfl, x, rfl⟩
    fold_lay
    exact k
def sp_not_integer : Sp := fun vs H Q _ => ∃ (d s : Addr), vs = [.ref d] ∧ Dr d s H ∧
  ∀ v dt H', At (nw H H') v dt → dt.isI = false → (dt.dep ≤ 1 ∧ dt.okd = true) → Dr d s H' → Same (hid s H) (hid s H') → Q v H'
theorem c_not_integer {d s : Addr} {H : Hp} {Q : VK} {E : XK} (hD : Dr d s H) (h : ∀ v dt H', At (nw H H') v dt → dt.isI = false → (dt.dep ≤ 1 ∧ dt.okd = true) → Dr d s H' → Same (hid s H) (hid s H') → Q v H') : sp_not_integer [.ref d] H Q E := ⟨d, s, rfl, hD, h⟩
def N_l_not_integer : List Str := ["_law_draws_here"]
def t_l_not_integer (K : PySem.W.Frag) : TS := (tRet (tOp (rIxL K) (tLst (tCons (tC (.bl true)) (tCons (tC (.bl false)) (tCons (tC .non) (tCons (tC (.str "")) (tCons (tC (.str "1")) (tCons (tC (.str "0")) (tCons (tLst tNil) (tCons (tTup tNil) (tCons (tLst (tCons (tC (.int 1)) tNil)) (tCons (tTup (tCons (tC (.int 0)) tNil)) (tCons (tDisp [((tC (.str "a")), (tC (.int 1)))]) tNil)))))))))))) (tCall sp_take [] E0 (tCons (tVar 0) (tCons (tC (.int 11)) tNil)))))
theorem pure_not_integer {K : PySem.W.Frag} {vs : List V} {H : Hp} {Q : VK} {E : XK} (h : sp_not_integer vs H Q E) : t_l_not_integer K { nx := fun _ H' => Q .non H', rt := Q } (start N_l_not_integer vs) H := by
  obtain ⟨d, s, rfl, hD, k⟩ := h
  unfold t_l_not_integer
  fold_lay
  rename_i p1 h1 p2 h2 p3 h3 p4 h4 p5 h5 p6 h6
  have s1 := same_new (o := .lst []) h1
  have s2 := s1.trans (same_new (o := .tup []) h2)
  have s3 := s2.trans (same_new (o := .lst [.int 1]) h3)
  have s4 := s3.trans (same_new (o := .tup [.int 0]) h4)
  have s5 := s4.trans (same_new (o := .dK [(Sum.inr "a", .int 1)]) h5)
  have n1 := hD.ne h1
  have n2 := (hD.same s1).ne h2
  have n3 := (hD.same s2).ne h3
  have n4 := (hD.same s3).ne h4
  have n5 := (hD.same s4).ne h5
  have s6 := s5.trans (same_new (o := .lst [.bl true, .bl false, .non, .str "", .str "1", .str "0", .ref p1, .ref p2, .ref p3, .ref p4, .ref p5]) h6)
  refine c_take (hD.same s6) (by omega) fun v H7 v0 v1 hD7 s7 => ?_
  have st : Same (hid s H) (hid s H7) := (hid_mono s6).trans s7
  have kp0 : ∀ q o, upd (upd (upd (upd (upd (upd H p1 (.lst [])) p2 (.tup [])) p3 (.lst [.int 1])) p4 (.tup [.int 0])) p5 (.dK [(Sum.inr "a", .int 1)])) p6 (.lst [.bl true, .bl false, .non, .str "", .str "1", .str "0", .ref p1, .ref p2, .ref p3, .ref p4, .ref p5]) q = some o → q ≠ s → hid s H7 q = some o := fun q o hq nq => s7 _ _ (hid_to hq nq)
  have kp : ∀ q o, upd (upd (upd (upd (upd (upd H p1 (.lst [])) p2 (.tup [])) p3 (.lst [.int 1])) p4 (.tup [.int 0])) p5 (.dK [(Sum.inr "a", .int 1)])) p6 (.lst [.bl true, .bl false, .non, .str "", .str "1", .str "0", .ref p1, .ref p2, .ref p3, .ref p4, .ref p5]) q = some o → q ≠ s → H q = none → nw H H7 q = some o := fun q o hq nq hn => nw_to hn (hid_same _ _ (kp0 q o hq nq))
  have a6 : H7 p6 = some (.lst [.bl true, .bl false, .non, .str "", .str "1", .str "0", .ref p1, .ref p2, .ref p3, .ref p4, .ref p5]) := hid_same _ _ (kp0 p6 _ upd_same ((hD.same s5).ne h6))
  have hv : v = 0 ∨ v = 1 ∨ v = 2 ∨ v = 3 ∨ v = 4 ∨ v = 5 ∨ v = 6 ∨ v = 7 ∨ v = 8 ∨ v = 9 ∨ v = 10 := by omega
  rcases hv with rfl | rfl | rfl | rfl | rfl | rfl | rfl | rfl | rfl | rfl | rfl
  · fold_lay; exact k _ _ _ (.bl true) rfl ⟨by decide, by decide⟩ hD7 st
  · fold_lay; exact k _ _ _ (.bl false) rfl ⟨by decide, by decide⟩ hD7 st
  · fold_lay; exact k _ _ _ .non rfl ⟨by decide, by decide⟩ hD7 st
  · fold_lay; exact k _ _ _ (.str _) rfl ⟨by decide, by decide⟩ hD7 st
  · fold_lay; exact k _ _ _ (.str _) rfl ⟨by decide, by decide⟩ hD7 st
  · fold_lay; exact k _ _ _ (.str _) rfl ⟨by decide, by decide⟩ hD7 st
  · fold_lay; exact k _ _ _ (.lst (kp p1 _ (by kct_strs) n1 (h1)) .nil) rfl ⟨by decide, by decide⟩ hD7 st
  · fold_lay; exact k _ _ _ (.tup (kp p2 _ (by kct_strs) n2 (s1.free h2)) .nil) rfl ⟨by decide, by decide⟩ hD7 st
  · fold_lay; exact k _ _ _ (.lst (kp p3 _ (by kct_strs) n3 (s2.free h3)) (.cons (.int 1) .nil)) rfl ⟨by decide, by decide⟩ hD7 st
  · fold_lay; exact k _ _ _ (.tup (kp p4 _ (by kct_strs) n4 (s3.free h4)) (.cons (.int 0) .nil)) rfl ⟨by decide, by decide⟩ hD7 st
  · fold_lay; exact k _ _ _ (.dic (kp p5 _ (by kct_strs) n5 (s4.free h5)) (.cons (.int 1) .nil)) rfl ⟨by decide, by decide⟩ hD7 st

def sp_not_within : Sp := fun vs H Q _ => ∃ (d s : Addr) (lo hi : Int), vs = [.ref d, .int lo, .int hi] ∧ Dr d s H ∧ -1000000000000 ≤ lo ∧ lo ≤ hi ∧ hi ≤ 1000000000000 ∧
  ∀ v dt H', At (nw H H') v dt → ¬ dt.inR lo hi → (dt.dep ≤ 1 ∧ dt.okd = true) → Dr d s H' → Same (hid s H) (hid s H') → Q v H'
theorem c_not_within {d s : Addr} {lo hi : Int} {H : Hp} {Q : VK} {E : XK} (hD : Dr d s H) (h1 : -1000000000000 ≤ lo) (h2 : lo ≤ hi) (h3 : hi ≤ 1000000000000)
    (h : ∀ v dt H', At (nw H H') v dt → ¬ dt.inR lo hi → (dt.dep ≤ 1 ∧ dt.okd = true) → Dr d s H' → Same (hid s H) (hid s H') → Q v H') : sp_not_within [.ref d, .int lo, .int hi] H Q E := ⟨d, s, lo, hi, rfl, hD, h1, h2, h3, h⟩
theorem out_int {i lo hi : Int} (h : i < lo ∨ hi < i) : ¬ (Dt.int i).inR lo hi := fun z => by
  obtain ⟨z1, z2⟩ := z
  omega
theorem ten30 : (10 : Int) ^ (30 : Int).toNat = 1000000000000000000000000000000 := by decide +kernel
def N_l_not_within : List Str := ["_law_draws_here", "_law_low", "_law_high", "_law_kind"]
def t_l_not_within (K : PySem.W.Frag) : TS := (tSeq (tAsg (tCall sp_take [] E0 (tCons (tVar 0) (tCons (tC (.int 7)) tNil))) (gName 3))
  (tSeq (tIfS (tTest (tOp oLt (tVar 3) (tC (.int 2)))) (tRet (tOp (rIxL K) (tLst (tCons (tOp oSub (tVar 1) (tC (.int 1))) (tCons (tOp oAdd (tVar 2) (tC (.int 1))) tNil))) (tVar 3))) tNext)
  (tSeq (tIfS (tTest (tOp rEq (tVar 3) (tC (.int 2)))) (tRet (tOp oAdd (tOp oAdd (tVar 2) (tC (.int 1))) (tCall sp_take [] E0 (tCons (tVar 0) (tCons (tOp oPow (tC (.int 10)) (tC (.int 30))) tNil))))) tNext)
  (tSeq (tIfS (tTest (tOp rEq (tVar 3) (tC (.int 3)))) (tRet (tOp oSub (tOp oSub (tVar 1) (tC (.int 1))) (tCall sp_take [] E0 (tCons (tVar 0) (tCons (tOp oPow (tC (.int 10)) (tC (.int 30))) tNil))))) tNext)
  (tSeq (tIfS (tTest (tOp rEq (tVar 3) (tC (.int 4)))) (tRet (tOp (rIxL K) (tLst (tCons (tCall sp_long [] E0 tNil) (tCons (tUn oNeg (tCall sp_long [] E0 tNil)) tNil))) (tCall sp_take [] E0 (tCons (tVar 0) (tCons (tC (.int 2)) tNil))))) tNext)
  (tRet (tCall sp_not_integer [] E0 (tCons (tVar 0) tNil))))))))
theorem pure_not_within {K : PySem.W.Frag} {vs : List V} {H : Hp} {Q : VK} {E : XK} (h : sp_not_within vs H Q E) : t_l_not_within K { nx := fun _ H' => Q .non H', rt := Q } (start N_l_not_within vs) H := by
  obtain ⟨d, s, lo, hi, rfl, hD, b1, b2, b3, k⟩ := h
  have kI : ∀ (i : Int) H', (i < lo ∨ hi < i) → Dr d s H' → Same (hid s H) (hid s H') → Q (.int i) H' := fun i H' hi' hD' hs' => k _ (.int i) _ (.int i) (out_int hi') ⟨Nat.zero_le _, rfl⟩ hD' hs'
  unfold t_l_not_within
  fold_lay
  refine c_take hD (by omega) fun v H1 v0 v1 hD1 s1 => ?_
  fold_lay; fold_depth
  refine i_ifd (fun h2 => ?_) (fun h2 => ?_)
  · fold_lay
    rename_i p hp
    have st : Same (hid s H) (hid s (upd H1 p (.lst [.int (lo - 1), .int (hi + 1)]))) := s1.trans (hid_mono (same_new hp))
    have dt := hD1.same (same_new (o := .lst [.int (lo - 1), .int (hi + 1)]) hp)
    have hv : v = 0 ∨ v = 1 := by omega
    rcases hv with rfl | rfl
    · fold_lay; exact kI _ _ (by omega) dt st
    · fold_lay; exact kI _ _ (by omega) dt st
  fold_lay; fold_depth
  refine i_ifd (fun h3 => ?_) (fun h3 => ?_)
  · fold_lay
    rw [ten30]
    refine c_take hD1 (by omega) fun w H2 w0 w1 hD2 s2 => ?_
    fold_lay
    exact kI _ _ (by omega) hD2 (s1.trans s2)
  fold_lay; fold_depth
  refine i_ifd (fun h4 => ?_) (fun h4 => ?_)
  · fold_lay
    rw [ten30]
    refine c_take hD1 (by omega) fun w H2 w0 w1 hD2 s2 => ?_
    fold_lay
    exact kI _ _ (by omega) hD2 (s1.trans s2)
  fold_lay; fold_depth
  refine i_ifd (fun h5 => ?_) (fun h5 => ?_)
  · fold_lay
    refine ⟨rfl, ?_⟩
    fold_lay
    refine ⟨rfl, ?_⟩
    fold_lay
    rename_i p hp
    have hb := lng_big
    generalize lng = z at hb
    have st : Same (hid s H) (hid s (upd H1 p (.lst [.int z, .int (-z)]))) := s1.trans (hid_mono (same_new hp))
    have dt := hD1.same (same_new (o := .lst [.int z, .int (-z)]) hp)
    refine c_take dt (by omega) fun w H2 w0 w1 hD2 s2 => ?_
    have a2 : H2 p = some (.lst [.int z, .int (-z)]) := hid_same _ _ (s2 _ _ (hid_to upd_same (hD1.ne hp)))
    have hv : w = 0 ∨ w = 1 := by omega
    rcases hv with rfl | rfl
    · fold_lay; exact kI _ _ (by omega) hD2 (st.trans s2)
    · fold_lay; exact kI _ _ (by omega) hD2 (st.trans s2)
  fold_lay
  exact c_not_integer hD1 fun v dt H2 a1 a2 a3 hD2 s2 => k _ _ _ (a1.mono (nw_old (alive hD1 s1))) (Dt.inR_of a2 _ _) a3 hD2 (s1.trans s2)
def sp_among (K : PySem.W.Frag) : Sp := fun vs H Q _ => ∃ (d s r : Addr) (xs : List V), vs = [.ref d, .ref r] ∧ Dr d s H ∧ H r = some (.lst xs) ∧ r ≠ s ∧ 0 < xs.length ∧ xs.length ≤ 100000 ∧
  ∀ v H', v ∈ xs → Dr d s H' → Same (hid s H) (hid s H') → Q v H'
theorem c_among {K : PySem.W.Frag} {d s r : Addr} {xs : List V} {H : Hp} {Q : VK} {E : XK} (hD : Dr d s H) (hr : H r = some (.lst xs)) (n : r ≠ s) (h0 : 0 < xs.length) (h1 : xs.length ≤ 100000)
    (h : ∀ v H', v ∈ xs → Dr d s H' → Same (hid s H) (hid s H') → Q v H') : sp_among K [.ref d, .ref r] H Q E := ⟨d, s, r, xs, rfl, hD, hr, n, h0, h1, h⟩
def N_l_among : List Str := ["_law_draws_here", "_law_row"]
def t_l_among (K : PySem.W.Frag) : TS := (tRet (tOp (rIxL K) (tVar 1) (tCall sp_take [] E0 (tCons (tVar 0) (tCons (tCB (rLen K) (tCons (tVar 1) tNil)) tNil)))))
theorem pure_among {K : PySem.W.Frag} {vs : List V} {H : Hp} {Q : VK} {E : XK} (h : sp_among K vs H Q E) : t_l_among K { nx := fun _ H' => Q .non H', rt := Q } (start N_l_among vs) H := by
  obtain ⟨d, s, r, xs, rfl, hD, hr, n, h0, h1, k⟩ := h
  unfold t_l_among
  fold_lay
  refine c_take hD (by omega) fun v H1 v0 v1 hD1 s1 => ?_
  have a1 : H1 r = some (.lst xs) := hid_same _ _ (s1 _ _ (hid_to hr n))
  refine i_amongL (sqL a1) v0 (by omega) (fun w hw => ?_)
  exact k _ _ (List.mem_of_getElem? hw) hD1 s1
def sp_not_alignment : Sp := fun vs H Q _ => ∃ (d s : Addr) (m : Int), vs = [.ref d, .int m] ∧ Dr d s H ∧ 1 ≤ m ∧ m ≤ 1000000000000 ∧
  ∀ v dt H', At (nw H H') v dt → ¬ dt.isAl m → (dt.dep ≤ 1 ∧ dt.okd = true) → Dr d s H' → Same (hid s H) (hid s H') → Q v H'
theorem c_not_alignment {d s : Addr} {m : Int} {H : Hp} {Q : VK} {E : XK} (hD : Dr d s H) (h1 : 1 ≤ m) (h2 : m ≤ 1000000000000)
    (h : ∀ v dt H', At (nw H H') v dt → ¬ dt.isAl m → (dt.dep ≤ 1 ∧ dt.okd = true) → Dr d s H' → Same (hid s H) (hid s H') → Q v H') : sp_not_alignment [.ref d, .int m] H Q E := ⟨d, s, m, rfl, hD, h1, h2, h⟩
theorem al_int {i m : Int} (h : i < 1 ∨ m < i) : ¬ (Dt.int i).isAl m := fun z => by
  obtain ⟨⟨k, z1⟩, z2⟩ := z
  have := two_pow_pos k
  omega
theorem al_odd {i m : Int} (h : i % 2 = 1) (h1 : i ≠ 1) : ¬ (Dt.int i).isAl m := fun z => by
  obtain ⟨⟨k, z1⟩, z2⟩ := z
  cases k with
  | zero => exact h1 z1
  | succ k =>
    rw [Int.pow_succ] at z1
    omega
theorem al_half {i m : Int} (h : ¬ (Dt.int i).isAl m) (h0 : 1 ≤ i) : ¬ (Dt.int (2 * i)).isAl m := fun z => by
  obtain ⟨⟨k, z1⟩, z2⟩ := z
  cases k with
  | zero => simp at z1; omega
  | succ k =>
    rw [Int.pow_succ] at z1
    exact h ⟨⟨k, by omega⟩, by omega⟩
def N_l_not_alignment : List Str := ["_law_draws_here", "_law_most", "_law_kind"]
def t_l_not_alignment (K : PySem.W.Frag) : TS := (tSeq (tAsg (tCall sp_take [] E0 (tCons (tVar 0) (tCons (tC (.int 8)) tNil))) (gName 2))
  (tSeq (tIfS (tTest (tOp oLt (tVar 2) (tC (.int 6)))) (tRet (tOp (rIxL K) (tLst (tCons (tC (.int 0)) (tCons (tUn oNeg (tC (.int 1))) (tCons (tUn oNeg (tC (.int 2))) (tCons (tC (.int 3)) (tCons (tOp oAdd (tVar 1) (tVar 1)) (tCons (tOp oAdd (tOp oAdd (tVar 1) (tVar 1)) (tC (.int 1))) tNil))))))) (tVar 2))) tNext)
  (tSeq (tIfS (tTest (tOp rEq (tVar 2) (tC (.int 6)))) (tRet (tCall (sp_among K) [] E0 (tCons (tVar 0) (tCons (tLst (tCons (tC (.int 6)) (tCons (tC (.int 12)) (tCons (tOp oPow (tC (.int 10)) (tC (.int 30))) (tCons (tCall sp_long [] E0 tNil) (tCons (tUn oNeg (tVar 1)) (tCons (tOp oMul (tVar 1) (tC (.int 3))) tNil))))))) tNil)))) tNext)
  (tRet (tCall sp_not_integer [] E0 (tCons (tVar 0) tNil))))))
theorem pure_not_alignment {K : PySem.W.Frag} {vs : List V} {H : Hp} {Q : VK} {E : XK} (h : sp_not_alignment vs H Q E) : t_l_not_alignment K { nx := fun _ H' => Q .non H', rt := Q } (start N_l_not_alignment vs) H := by
  obtain ⟨d, s, m, rfl, hD, b1, b2, k⟩ := h
  have kI : ∀ (i : Int) H', ¬ (Dt.int i).isAl m → Dr d s H' → Same (hid s H) (hid s H') → Q (.int i) H' := fun i H' hi' hD' hs' => k _ (.int i) _ (.int i) hi' ⟨Nat.zero_le _, rfl⟩ hD' hs'
  unfold t_l_not_alignment
  fold_lay
  refine c_take hD (by omega) fun v H1 v0 v1 hD1 s1 => ?_
  fold_lay; fold_depth
  refine i_ifd (fun h2 => ?_) (fun h2 => ?_)
  · fold_lay
    rename_i p hp
    have st : Same (hid s H) (hid s (upd H1 p (.lst [.int 0, .int (-1), .int (-2), .int 3, .int (m + m), .int (m + m + 1)]))) := s1.trans (hid_mono (same_new hp))
    have dt := hD1.same (same_new (o := .lst [.int 0, .int (-1), .int (-2), .int 3, .int (m + m), .int (m + m + 1)]) hp)
    have hv : v = 0 ∨ v = 1 ∨ v = 2 ∨ v = 3 ∨ v = 4 ∨ v = 5 := by omega
    rcases hv with rfl | rfl | rfl | rfl | rfl | rfl
    · fold_lay; exact kI _ _ (al_int (by omega)) dt st
    · fold_lay; exact kI _ _ (al_int (by omega)) dt st
    · fold_lay; exact kI _ _ (al_int (by omega)) dt st
    · fold_lay; exact kI _ _ (al_odd (by decide) (by decide)) dt st
    · fold_lay; exact kI _ _ (al_int (by omega)) dt st
    · fold_lay; exact kI _ _ (al_int (by omega)) dt st
  fold_lay; fold_depth
  refine i_ifd (fun h3 => ?_) (fun h3 => ?_)
  · fold_lay
    refine ⟨rfl, ?_⟩
    fold_lay
    rename_i p hp
    have hb := lng_big
    generalize lng = z at hb
    rw [ten30]
    have st : Same (hid s H) (hid s (upd H1 p (.lst [.int 6, .int 12, .int 1000000000000000000000000000000, .int z, .int (-m), .int (m * 3)]))) := s1.trans (hid_mono (same_new hp))
    have dt := hD1.same (same_new (o := .lst [.int 6, .int 12, .int 1000000000000000000000000000000, .int z, .int (-m), .int (m * 3)]) hp)
    refine c_among dt upd_same (hD1.ne hp) (by simp) (by simp) fun w H2 hw hD2 s2 => ?_
    have a3 : ¬ (Dt.int 3).isAl m := al_odd (by decide) (by decide)
    simp only [List.mem_cons, List.not_mem_nil, or_false] at hw
    rcases hw with rfl | rfl | rfl | rfl | rfl | rfl
    · exact kI _ _ (al_half a3 (by decide)) hD2 (st.trans s2)
    · exact kI _ _ (al_half (al_half a3 (by decide)) (by decide)) hD2 (st.trans s2)
    · exact kI _ _ (al_int (by omega)) hD2 (st.trans s2)
    · exact kI _ _ (al_int (by omega)) hD2 (st.trans s2)
    · exact kI _ _ (al_int (by omega)) hD2 (st.trans s2)
    · exact kI _ _ (al_int (by omega)) hD2 (st.trans s2)
  fold_lay
  exact c_not_integer hD1 fun v dt H2 a1 a2 a3 hD2 s2 => k _ _ _ (a1.mono (nw_old (alive hD1 s1))) (Dt.isAl_of a2 _) a3 hD2 (s1.trans s2)
def sp_draws (K : PySem.W.Frag) : Sp := fun vs H Q _ => ∃ (a : Addr) (ns : List Int), vs = [.ref a] ∧ SqL K H a (ns.map V.int) ∧ ns.length ≤ 10000 ∧
  ∀ d s H', Dr d s H' → Same H H' → H d = none → H s = none → Q (.ref d) H'
def N_l_draws : List Str := ["_law_script", "_law_cell"]
def t_l_draws (K : PySem.W.Frag) : TS := (tRet (tLst (tCons (tLc (iList K (tVar 0)) (gName 1) tYes (tCB rInt1 (tCons (tVar 1) tNil)) [1]) (tCons (tLst (tCons (tC (.int 0)) (tCons (tC (.int 0)) (tCons (tC (.int 0)) (tCons (tC (.int 0)) (tCons (tC (.int 11)) tNil)))))) tNil))))
theorem pure_draws {K : PySem.W.Frag} {vs : List V} {H : Hp} {Q : VK} {E : XK} (h : sp_draws K vs H Q E) : t_l_draws K { nx := fun _ H' => Q .non H', rt := Q } (start N_l_draws vs) H := by
  obtain ⟨a, ns, rfl, ha, hl, k⟩ := h
  unfold t_l_draws
  fold_lay
  refine c_lst ha (m_lst (xs := ns.map V.int) (fun D i H' => Same H H' ∧ H D = none ∧ H' D = some (.lst ((ns.take i).map V.int))) ?_ ?_ ?_ ?_)
  · exact fun D hD => ⟨same_new hD, hD, upd_same⟩
  · exact fun D i H' _ h => h.1.seq ha
  · rintro D i x H' hx ⟨h1, h2, h3⟩
    obtain ⟨z, hz, rfl⟩ := getI hx
    fold_lay
    refine ⟨rfl, ?_⟩
    fold_lay
    refine ⟨_, h3, szl (by simp; omega), ?_, h2, ?_⟩
    · exact fun b o e => upd_off (ne_of_none e h2) (h1 b o e)
    · rw [upd_same, take_more hz, List.map_append]
      rfl
  · rintro D H' ⟨h1, h2, h3⟩
    rw [List.length_map, List.take_length] at h3
    fold_lay
    rename_i p hp q hq
    have nD : D ≠ p := ne_of_none h3 hp
    have np : p ≠ q := fun z => by
      rw [← z, upd_same] at hq
      cases hq
    refine k q p _ ⟨D, ns, 0, 0, 0, 0, 11, upd_same, by kct_strs, by kct_strs, Ne.symm np, nD, by omega, by omega, by omega⟩ ?_ ?_ ?_
    · exact (h1.trans (same_new hp)).trans (same_new hq)
    · exact (h1.trans (same_new hp)).free hq
    · exact h1.free hp
/-! ## Basics -/
/-! ### basics.py -/
/-- where the classes of the refusals stand -/
structure Cl where
  (k_StoreError k_BadValue k_Broken k_Unknown k_NotHeld k_Fault k_NoRoom k_Cut k_BadLine : Addr)
  x_SIZES : Addr := 0
  x_WIDTHS : Addr := 0
  k_Ground : Addr := 0
  k_Places : Addr := 0
  k_Merged : Addr := 0
def vI : V → Bool
  | .int _ => true
  | _ => false
def vR (lo hi : Int) : V → Bool
  | .int i => decide (lo ≤ i) && decide (i ≤ hi)
  | _ => false
def sp_is_whole (K : PySem.W.Frag) : Sp := fun vs H Q _ => ∃ (v : V) (n : String), vs = [v] ∧ Ty0 H v n ∧ Q (.bl (vI v)) H
theorem c_is_whole {K : PySem.W.Frag} {v : V} {n : String} {H : Hp} {Q : VK} {E : XK} (h : Ty0 H v n) (q : Q (.bl (vI v)) H) : sp_is_whole K [v] H Q E := ⟨v, n, rfl, h, q⟩
def N_p_is_whole : List Str := ["value"]
def t_p_is_whole (K : PySem.W.Frag) : TS := (tRet (tAndV (tCB (rIsi K) (tCons (tVar 0) (tCons (tC (.ty "int")) tNil))) (tNotV (tCB (rIsi K) (tCons (tVar 0) (tCons (tC (.ty "bool")) tNil))))))
theorem pure_is_whole {K : PySem.W.Frag} {vs : List V} {H : Hp} {Q : VK} {E : XK} (h : sp_is_whole K vs H Q E) : t_p_is_whole K { nx := fun _ H' => Q .non H', rt := Q } (start N_p_is_whole vs) H := by
  obtain ⟨v, n, rfl, ht, q⟩ := h
  unfold t_p_is_whole
  cases id ht <;> (kbj_rows; exact q)
def sp_whole_between (K : PySem.W.Frag) : Sp := fun vs H Q _ => ∃ (v : V) (n : String) (lo hi : Int), vs = [v, .int lo, .int hi] ∧ Ty0 H v n ∧ Q (.bl (vR lo hi v)) H
theorem c_whole_between {K : PySem.W.Frag} {v : V} {n : String} {lo hi : Int} {H : Hp} {Q : VK} {E : XK} (h : Ty0 H v n) (q : Q (.bl (vR lo hi v)) H) : sp_whole_between K [v, .int lo, .int hi] H Q E := ⟨v, n, lo, hi, rfl, h, q⟩
theorem vI_int {v : V} (h : vI v = true) : ∃ i, v = .int i := by
  cases v <;> first | exact ⟨_, rfl⟩ | cases h
theorem vR_no {v : V} {lo hi : Int} (h : vI v = false) : vR lo hi v = false := by
  cases v <;> first | rfl | cases h
def N_p_whole_between : List Str := ["value", "low", "high"]
def t_p_whole_between (K : PySem.W.Frag) : TS := (tRet (tAndV (tCall (sp_is_whole K) [] E0 (tCons (tVar 0) tNil)) (tChain oLe oLe (tVar 1) (tVar 0) (tVar 2))))
theorem pure_whole_between {K : PySem.W.Frag} {vs : List V} {H : Hp} {Q : VK} {E : XK} (h : sp_whole_between K vs H Q E) : t_p_whole_between K { nx := fun _ H' => Q .non H', rt := Q } (start N_p_whole_between vs) H := by
  obtain ⟨v, n, lo, hi, rfl, ht, q⟩ := h
  unfold t_p_whole_between
  fold_lay
  refine c_is_whole ht ?_
  fold_lay
  refine i_ifb (fun h => ?_) (fun h => ?_)
  · obtain ⟨i, rfl⟩ := vI_int h
    fold_lay
    refine i_ifd (fun h1 => ?_) (fun h1 => ?_)
    · fold_lay
      simpa [vR, h1] using q
    · simpa [vR, h1] using q
  · rw [vR_no h] at q
    exact q
def vP : V → Bool
  | .int i => decide (1 ≤ i) && decide (Builtin.bitAnd i (i - 1) = 0)
  | _ => false
theorem vP_no {v : V} (h : vI v = false) : vP v = false := by
  cases v <;> first | rfl | cases h
theorem pow_iff {i : Int} : (1 ≤ i ∧ Builtin.bitAnd i (i - 1) = 0) ↔ ∃ k : Nat, i = 2 ^ k := by
  constructor
  · rintro ⟨h1, h2⟩
    have e1 : i = (i.toNat : Int) := by omega
    have e2 : (i - 1).toNat = i.toNat - 1 := by omega
    rw [bitAnd_pp (by omega) (by omega), e2] at h2
    have h3 : i.toNat &&& (i.toNat - 1) = 0 := by exact_mod_cast h2
    obtain ⟨k, hk⟩ := (Nat.and_sub_one_eq_zero_iff_isPowerOfTwo (by omega)).mp h3
    refine ⟨k, ?_⟩
    rw [e1, hk]
    exact Int.natCast_pow 2 k
  · rintro ⟨k, rfl⟩
    have hp := two_pow_pos k
    refine ⟨by omega, ?_⟩
    have e0 : ((2 : Int) ^ k).toNat = 2 ^ k := by
      have : (2 : Int) ^ k = ((2 ^ k : Nat) : Int) := (Int.natCast_pow 2 k).symm
      rw [this]
      rfl
    have e2 : ((2 : Int) ^ k - 1).toNat = 2 ^ k - 1 := by omega
    rw [bitAnd_pp (by omega) (by omega), e2, e0, (Nat.and_sub_one_eq_zero_iff_isPowerOfTwo (by have := Nat.two_pow_pos k; omega)).mpr ⟨k, rfl⟩]
    rfl
theorem vP_iff {i : Int} : vP (.int i) = true ↔ ∃ k : Nat, i = 2 ^ k := by
  rw [← pow_iff]
  simp [vP]
def sp_is_power (K : PySem.W.Frag) : Sp := fun vs H Q _ => ∃ (v : V) (n : String), vs = [v] ∧ Ty0 H v n ∧ Q (.bl (vP v)) H
theorem c_is_power {K : PySem.W.Frag} {v : V} {n : String} {H : Hp} {Q : VK} {E : XK} (h : Ty0 H v n) (q : Q (.bl (vP v)) H) : sp_is_power K [v] H Q E := ⟨v, n, rfl, h, q⟩
def N_p_is_power : List Str := ["value"]
def t_p_is_power (K : PySem.W.Frag) : TS := (tRet (tAndV (tCall (sp_is_whole K) [] E0 (tCons (tVar 0) tNil)) (tAndV (tOp oGe (tVar 0) (tC (.int 1))) (tOp rEq (tOp oAnd (tVar 0) (tOp oSub (tVar 0) (tC (.int 1)))) (tC (.int 0))))))
theorem pure_is_power {K : PySem.W.Frag} {vs : List V} {H : Hp} {Q : VK} {E : XK} (h : sp_is_power K vs H Q E) : t_p_is_power K { nx := fun _ H' => Q .non H', rt := Q } (start N_p_is_power vs) H := by
  obtain ⟨v, n, rfl, ht, q⟩ := h
  unfold t_p_is_power
  fold_lay
  refine c_is_whole ht ?_
  fold_lay
  refine i_ifb (fun h => ?_) (fun h => ?_)
  · obtain ⟨i, rfl⟩ := vI_int h
    fold_lay
    refine i_ifd (fun h1 => ?_) (fun h1 => ?_)
    · fold_lay
      simpa [vP, h1] using q
    · simpa [vP, h1] using q
  · rw [vP_no h] at q
    exact q
def vA (m : Int) : V → Bool
  | .int i => vP (.int i) && decide (i ≤ m)
  | _ => false
theorem vA_iff {i m : Int} : vA m (.int i) = true ↔ (Dt.int i).isAl m := by
  show (vP (.int i) && decide (i ≤ m)) = true ↔ _
  rw [Bool.and_eq_true, vP_iff, decide_eq_true_iff]
  rfl
def sp_is_align (K : PySem.W.Frag) : Sp := fun vs H Q _ => ∃ (v : V) (n : String) (m : Int), vs = [v, .int m] ∧ Ty0 H v n ∧ Q (.bl (vA m v)) H
theorem c_is_align {K : PySem.W.Frag} {v : V} {n : String} {m : Int} {H : Hp} {Q : VK} {E : XK} (h : Ty0 H v n) (q : Q (.bl (vA m v)) H) : sp_is_align K [v, .int m] H Q E := ⟨v, n, m, rfl, h, q⟩
theorem vP_int {v : V} (h : vP v = true) : ∃ i, v = .int i := by
  cases v <;> first | exact ⟨_, rfl⟩ | cases h
theorem vA_no {v : V} {m : Int} (h : vP v = false) : vA m v = false := by
  cases v <;> first | rfl | (show (vP _ && _) = false; rw [h]; rfl)
def N_p_is_align : List Str := ["value", "most"]
def t_p_is_align (K : PySem.W.Frag) : TS := (tRet (tAndV (tCall (sp_is_power K) [] E0 (tCons (tVar 0) tNil)) (tOp oLe (tVar 0) (tVar 1))))
theorem pure_is_align {K : PySem.W.Frag} {vs : List V} {H : Hp} {Q : VK} {E : XK} (h : sp_is_align K vs H Q E) : t_p_is_align K { nx := fun _ H' => Q .non H', rt := Q } (start N_p_is_align vs) H := by
  obtain ⟨v, n, m, rfl, ht, q⟩ := h
  unfold t_p_is_align
  fold_lay
  refine c_is_power ht ?_
  fold_lay
  refine i_ifb (fun h => ?_) (fun h => ?_)
  · obtain ⟨i, rfl⟩ := vP_int h
    fold_lay
    simpa [vA, h] using q
  · rw [vA_no h] at q
    exact q
/-! ### a refusal: its class, its fields -/
structure BvC (K : PySem.W.Frag) (C : Addr) : Prop where
  ox : OexC K C
  np : PySem.W.findIn K (.ref C) "parameter" = some none
  nt : PySem.W.findIn K (.ref C) "told" = some none
/-- a refusal's dict at d: BadValue(p) -/
def BadAt (H : Hp) (d : Addr) (v : V) : Prop := ∃ t1 t2, H d = some (.xd [("told", .ref t2), ("parameter", v)]) ∧ H t2 = some (.tup [.str "BadValue", .ref t1]) ∧ H t1 = some (.tup [v])
def sp_init_BadValue (K : PySem.W.Frag) (C : Addr) : Sp := fun vs H Q _ => ∃ (e : Addr) (v : V), vs = [.ref e, v] ∧ H e = some (exo e C none) ∧ BvC K C ∧
  ∀ (d t1 t2 : Addr) H', H' e = some (exo e C (some d)) → H' d = some (exd d [("told", .ref t2), ("parameter", v)]) → H' t1 = some (.tup [v]) → H' t2 = some (.tup [.str "BadValue", .ref t1]) → H d = none → (∀ b o, b ≠ e → H b = some o → H' b = some o) → Q .non H'
def N_c_BadValue_init : List Str := ["self", "parameter"]
def t_c_BadValue_init (K : PySem.W.Frag) : TS := (tSeq (tOst K "parameter" (tVar 0) (tVar 1))
  (tOst K "told" (tVar 0) (tTup (tCons (tC (.str "BadValue")) (tCons (tTup (tCons (tVar 1) tNil)) tNil)))))
theorem pure_init_BadValue {K : PySem.W.Frag} {C : Addr} {vs : List V} {H : Hp} {Q : VK} {E : XK} (h : sp_init_BadValue K C vs H Q E) : t_c_BadValue_init K { nx := fun _ H' => Q .non H', rt := Q } (start N_c_BadValue_init vs) H := by
  obtain ⟨e, v, rfl, he, hC, k⟩ := h
  unfold t_c_BadValue_init
  refine i_seq ?_
  refine ⟨v, rfl, .ref e, rfl, e, C, rfl, hC.ox, hC.np, .inl ⟨he, fun d hd ne => ?_⟩⟩
  have h1 : upd (upd H d (exd d [("parameter", v)])) e (exo e C (some d)) d = some (exd d [("parameter", v)]) := by rw [upd_ne ne, upd_same]
  refine ⟨v, rfl, sz (by simp), fun t1 ht1 => ?_⟩
  refine ⟨sz (by simp), fun t2 ht2 => ?_⟩
  have n1 : d ≠ t1 := ne_of_none h1 ht1
  have n3 : e ≠ t1 := ne_of_none upd_same ht1
  have ht2' := ht2
  have nt : t2 ≠ t1 := fun z => by rw [z, upd_same] at ht2'; cases ht2'
  have n2 : d ≠ t2 := ne_of_none (upd_off n1 h1) ht2
  have n4 : e ≠ t2 := ne_of_none (upd_off n3 upd_same) ht2
  refine ⟨.ref e, rfl, e, C, rfl, hC.ox, hC.nt, .inr ⟨d, [("parameter", v)], ?_, ?_, by show 1 ≤ 900; decide, ?_⟩⟩
  · exact upd_off n4 (upd_off n3 upd_same)
  · exact upd_off n2 (upd_off n1 h1)
  · refine k d t1 t2 _ ?_ upd_same ?_ ?_ hd ?_
    · exact upd_off (Ne.symm ne) (upd_off n4 (upd_off n3 upd_same))
    · exact upd_off (Ne.symm n1) (upd_off (Ne.symm nt) upd_same)
    · exact upd_off (Ne.symm n2) upd_same
    · intro b o nb hb
      have nd : b ≠ d := ne_of_none hb hd
      have h2 : upd (upd H d (exd d [("parameter", v)])) e (exo e C (some d)) b = some o := upd_off nb (upd_off nd hb)
      have n5 : b ≠ t1 := ne_of_none h2 ht1
      have h3 := upd_off (o := .tup [v]) n5 h2
      exact upd_off nd (upd_off (ne_of_none h3 ht2) h3)
/-- raise BadValue(e): what is asked of e's value -/
def RzB (K : PySem.W.Frag) (C : Addr) (W : WX) (σ : St) (v : V) (H1 : Hp) : Prop := [v].length ≤ 1000 ∧ ∀ a, H1 a = none → sp_init_BadValue K C (.ref a :: ([v] ++ [])) (upd H1 a (exo a C none))
  (fun u H2 => u = .non ∧ ∃ (d : Addr) (fs : List (Str × V)), H2 a = some (exo a C (some d)) ∧ H2 d = some (exd d fs) ∧ H1 d = none ∧ W (.ref C) (some d) σ (upd (del H2 a) d (.xd fs))) (fun _ _ _ => False)
theorem i_rz {K : PySem.W.Frag} {C : Addr} {te : TE} {W : WX} {D : Ends} {σ : St} {H : Hp} (h : te σ H fun v H1 => RzB K C W σ v H1) : tRz (tMkO C (sp_init_BadValue K C) [] (tCons te tNil)) W D σ H := h
instance s_rz {K : PySem.W.Frag} {C : Addr} {te : TE} {W : WX} {D : Ends} {σ : St} {H : Hp} : Stp (tRz (tMkO C (sp_init_BadValue K C) [] (tCons te tNil)) W D σ H) (te σ H fun v H1 => RzB K C W σ v H1) := ⟨i_rz⟩
theorem c_bad {K : PySem.W.Frag} {C : Addr} {W : WX} {σ : St} {v : V} {H1 : Hp} (hC : BvC K C) (h : ∀ d H', BadAt H' d v → Same H1 H' → W (.ref C) (some d) σ H') : RzB K C W σ v H1 := by
  refine ⟨by show 1 ≤ 1000; decide, fun a ha => ⟨a, v, rfl, upd_same, hC, fun d t1 t2 H2 h1 h2 h3 h4 h5 h6 => ⟨rfl, d, _, h1, h2, ?_, ?_⟩⟩⟩
  · by_cases e : d = a
    · rw [e, upd_same] at h5
      cases h5
    · rw [upd_ne e] at h5
      exact h5
  · have nda : d ≠ a := fun e => by
      rw [e, upd_same] at h5
      cases h5
    have hd1 : H1 d = none := by
      rw [upd_ne nda] at h5
      exact h5
    have n1 : t1 ≠ d := fun e => by
      rw [e, h2] at h3
      cases h3
    have n2 : t2 ≠ d := fun e => by
      rw [e, h2] at h4
      cases h4
    have m1 : t1 ≠ a := fun e => by
      rw [e, h1] at h3
      cases h3
    have m2 : t2 ≠ a := fun e => by
      rw [e, h1] at h4
      cases h4
    refine h d _ ⟨t1, t2, upd_same, ?_, ?_⟩ (fun b o hb => ?_)
    · rw [upd_ne n2, del_ne m2]
      exact h4
    · rw [upd_ne n1, del_ne m1]
      exact h3
    · have nb : b ≠ a := ne_of_none hb ha
      rw [upd_ne (ne_of_none hb hd1), del_ne nb]
      exact h6 b o nb (upd_off nb hb)
def sp_align_up : Sp := fun vs H Q _ => ∃ (n m : Int), vs = [.int n, .int m] ∧ 0 ≤ n ∧ n ≤ 1000000000 ∧ (∃ k : Nat, m = 2 ^ k) ∧ m ≤ 1073741824 ∧ Q (.int ((n + m - 1) / m * m)) H
theorem c_align_up {n m : Int} {H : Hp} {Q : VK} {E : XK} (h0 : 0 ≤ n) (h1 : n ≤ 1000000000) (h2 : ∃ k : Nat, m = 2 ^ k) (h3 : m ≤ 1073741824) (q : Q (.int ((n + m - 1) / m * m)) H) : sp_align_up [.int n, .int m] H Q E := ⟨n, m, rfl, h0, h1, h2, h3, q⟩
theorem vR_yes {lo hi i : Int} (h1 : lo ≤ i) (h2 : i ≤ hi) : vR lo hi (.int i) = true := by simp [vR, h1, h2]
theorem vA_yes {m i : Int} (h1 : ∃ k : Nat, i = 2 ^ k) (h2 : i ≤ m) : vA m (.int i) = true := vA_iff.mpr ⟨h1, h2⟩
def N_p_align_up : List Str := ["number", "align"]
def t_p_align_up (K : PySem.W.Frag) : TS := (tSeq (tIfS (tNot (tB (tCall (sp_whole_between K) [] E0 (tCons (tVar 0) (tCons (tC (.int 0)) (tCons (tC (.int 1000000000)) tNil)))))) tNever tNext)
  (tSeq (tIfS (tNot (tB (tCall (sp_is_align K) [] E0 (tCons (tVar 1) (tCons (tC (.int 1073741824)) tNil))))) tNever tNext)
  (tRet (tOp oMul (tOp oDiv (tOp oSub (tOp oAdd (tVar 0) (tVar 1)) (tC (.int 1))) (tVar 1)) (tVar 1)))))
theorem pure_align_up {K : PySem.W.Frag} {vs : List V} {H : Hp} {Q : VK} {E : XK} (h : sp_align_up vs H Q E) : t_p_align_up K { nx := fun _ H' => Q .non H', rt := Q } (start N_p_align_up vs) H := by
  obtain ⟨n, m, rfl, h0, h1, h2, h3, q⟩ := h
  unfold t_p_align_up
  fold_depth
  refine c_whole_between (.int _) ?_
  rw [vR_yes h0 h1]
  fold_lay; fold_depth
  refine c_is_align (.int _) ?_
  rw [vA_yes h2 h3]
  fold_lay
  obtain ⟨k, hk⟩ := h2
  have hp := two_pow_pos k
  refine i_div (cdiv (by omega) (by omega)) ?_
  fold_lay
  exact q
/-! ### marks.py -/
def sp_check_number (K : PySem.W.Frag) (c : Cl) : Sp := fun vs H Q E => ∃ (v : V) (n : String) (lo hi : Int) (p : Str), vs = [v, .int lo, .int hi, .str p] ∧ Ty0 H v n ∧ BvC K c.k_BadValue ∧
  (vR lo hi v = true → Q .non H) ∧ (vR lo hi v = false → ∀ d H', BadAt H' d (.str p) → Same H H' → E (.ref c.k_BadValue) (some d) H')
theorem c_check_number {K : PySem.W.Frag} {c : Cl} {v : V} {n : String} {lo hi : Int} {p : Str} {H : Hp} {Q : VK} {E : XK} (h : Ty0 H v n) (hC : BvC K c.k_BadValue) (h1 : vR lo hi v = true → Q .non H) (h2 : vR lo hi v = false → ∀ d H', BadAt H' d (.str p) → Same H H' → E (.ref c.k_BadValue) (some d) H') :
    sp_check_number K c [v, .int lo, .int hi, .str p] H Q E := ⟨v, n, lo, hi, p, rfl, h, hC, h1, h2⟩
def N_p_check_number : List Str := ["value", "low", "high", "parameter"]
def t_p_check_number (K : PySem.W.Frag) (c : Cl) (E : XK) : TS := (tIfS (tOr (tNot (tB (tCall (sp_is_whole K) [] E0 (tCons (tVar 0) tNil)))) (tOr (tTest (tOp oLt (tVar 0) (tVar 1))) (tTest (tOp oGt (tVar 0) (tVar 2))))) (tRz (tMkO c.k_BadValue (sp_init_BadValue K c.k_BadValue) [] (tCons (tVar 3) tNil)) (fun cls d _ H => E cls d H)) tNext)
theorem pure_check_number {K : PySem.W.Frag} {c : Cl} {vs : List V} {H : Hp} {Q : VK} {E : XK} (h : sp_check_number K c vs H Q E) : t_p_check_number K c E { nx := fun _ H' => Q .non H', rt := Q } (start N_p_check_number vs) H := by
  obtain ⟨v, n, lo, hi, p, rfl, ht, hC, k1, k2⟩ := h
  unfold t_p_check_number
  fold_lay
  refine c_is_whole ht ?_
  fold_lay
  refine i_ifb (fun h => ?_) (fun h => ?_)
  · have h : vI v = false := by simpa using h
    fold_lay
    exact c_bad hC (k2 (vR_no h))
  · have h : vI v = true := by simpa using h
    obtain ⟨i, rfl⟩ := vI_int h
    fold_lay
    refine i_ifd (fun h1 => ?_) (fun h1 => ?_)
    · fold_lay
      exact c_bad hC (k2 (by simp [vR]; omega))
    · fold_lay
      refine i_ifd (fun h2 => ?_) (fun h2 => ?_)
      · fold_lay
        exact c_bad hC (k2 (by simp [vR]; omega))
      · fold_lay
        exact k1 (vR_yes (by omega) (by omega))
def sp_check_align (K : PySem.W.Frag) (c : Cl) : Sp := fun vs H Q E => ∃ (v : V) (n : String), vs = [v] ∧ Ty0 H v n ∧ BvC K c.k_BadValue ∧
  (vA 4096 v = true → Q .non H) ∧ (vA 4096 v = false → ∀ d H', BadAt H' d (.str "align") → Same H H' → E (.ref c.k_BadValue) (some d) H')
theorem c_check_align {K : PySem.W.Frag} {c : Cl} {v : V} {n : String} {H : Hp} {Q : VK} {E : XK} (h : Ty0 H v n) (hC : BvC K c.k_BadValue) (h1 : vA 4096 v = true → Q .non H) (h2 : vA 4096 v = false → ∀ d H', BadAt H' d (.str "align") → Same H H' → E (.ref c.k_BadValue) (some d) H') :
    sp_check_align K c [v] H Q E := ⟨v, n, rfl, h, hC, h1, h2⟩
def N_p_check_align : List Str := ["value"]
def t_p_check_align (K : PySem.W.Frag) (c : Cl) (E : XK) : TS := (tIfS (tOr (tNot (tB (tCall (sp_is_power K) [] E0 (tCons (tVar 0) tNil)))) (tTest (tOp oGt (tVar 0) (tC (.int 4096))))) (tRz (tMkO c.k_BadValue (sp_init_BadValue K c.k_BadValue) [] (tCons (tC (.str "align")) tNil)) (fun cls d _ H => E cls d H)) tNext)
theorem pure_check_align {K : PySem.W.Frag} {c : Cl} {vs : List V} {H : Hp} {Q : VK} {E : XK} (h : sp_check_align K c vs H Q E) : t_p_check_align K c E { nx := fun _ H' => Q .non H', rt := Q } (start N_p_check_align vs) H := by
  obtain ⟨v, n, rfl, ht, hC, k1, k2⟩ := h
  unfold t_p_check_align
  fold_lay
  refine c_is_power ht ?_
  fold_lay
  refine i_ifb (fun h => ?_) (fun h => ?_)
  · have h : vP v = false := by simpa using h
    fold_lay
    exact c_bad hC (k2 (vA_no h))
  · have h : vP v = true := by simpa using h
    obtain ⟨i, rfl⟩ := vP_int h
    fold_lay
    refine i_ifd (fun h1 => ?_) (fun h1 => ?_)
    · fold_lay
      refine c_bad hC (k2 ?_)
      show (vP (.int i) && decide (i ≤ 4096)) = false
      rw [decide_eq_false (by omega), Bool.and_false]
    · fold_lay
      refine k1 ?_
      show (vP (.int i) && decide (i ≤ 4096)) = true
      rw [decide_eq_true (by omega), h]
      rfl
/-! ## Alike -/
/-! ### alike: two data that are one -/
mutual
def Dt.flat : Dt → Bool
  | .lst l => decide (l.length ≤ 10000) && Dt.flatL l
  | .tup l => decide (l.length ≤ 10000) && Dt.flatL l
  | .dic _ => false
  | _ => true
def Dt.flatL : List Dt → Bool
  | [] => true
  | d :: r => d.flat && Dt.flatL r
end
theorem flatL_get : ∀ {l : List Dt} {i : Nat} {d : Dt}, Dt.flatL l = true → l[i]? = some d → d.flat = true
  | [], _, _, _, h => by simp at h
  | x :: r, 0, d, h, e => by
    simp at e
    subst e
    exact (Bool.and_eq_true_iff.mp (by simpa [Dt.flatL] using h)).1
  | x :: r, i + 1, d, h, e => flatL_get (l := r) (i := i) (Bool.and_eq_true_iff.mp (by simpa [Dt.flatL] using h)).2 (by simpa using e)
theorem depL_get : ∀ {l : List Dt} {i : Nat} {d : Dt}, l[i]? = some d → d.dep ≤ Dt.depL l
  | [], _, _, h => by simp at h
  | x :: r, 0, d, e => by
    simp at e
    subst e
    simp only [Dt.depL]
    omega
  | x :: r, i + 1, d, e => by
    have := depL_get (l := r) (i := i) (d := d) (by simpa using e)
    simp only [Dt.depL]
    omega
def sp_alike : Nat → Sp
  | 0 => fun _ _ _ _ => False
  | n + 1 => fun vs H Q _ => ∃ (va vb : V) (d : Dt), vs = [va, vb] ∧ At H va d ∧ At H vb d ∧ d.dep ≤ n ∧ d.flat = true ∧ ∀ H', Same H H' → Q (.bl true) H'
theorem c_alike {n : Nat} {va vb : V} {d : Dt} {H : Hp} {Q : VK} {E : XK} (h1 : At H va d) (h2 : At H vb d) (h3 : d.dep ≤ n) (h4 : d.flat = true) (h : ∀ H', Same H H' → Q (.bl true) H') : sp_alike (n + 1) [va, vb] H Q E := ⟨va, vb, d, rfl, h1, h2, h3, h4, h⟩
/-- bools compared -/
theorem i_neB {a b : Bool} {H : Hp} {Q : VK} (q : Q (.bl (a != b)) H) : rNe (.bl a) (.bl b) H Q := ⟨rfl, by
  have e : (!decide (V.bl a = V.bl b)) = (a != b) := by cases a <;> cases b <;> rfl
  rw [e]
  exact q⟩
instance s_neB {a b : Bool} {H : Hp} {Q : VK} : Stp (rNe (.bl a) (.bl b) H Q) (Q (.bl (a != b)) H) := ⟨i_neB⟩
theorem i_eqB {a b : Bool} {H : Hp} {Q : VK} (q : Q (.bl (a == b)) H) : rEq (.bl a) (.bl b) H Q := ⟨rfl, by
  have e : decide (V.bl a = V.bl b) = (a == b) := by cases a <;> cases b <;> rfl
  rw [e]
  exact q⟩
instance s_eqB {a b : Bool} {H : Hp} {Q : VK} : Stp (rEq (.bl a) (.bl b) H Q) (Q (.bl (a == b)) H) := ⟨i_eqB⟩
theorem i_ixSL {K : PySem.W.Frag} {H : Hp} {Q : VK} {p : Addr} {xs : List V} {i : Int} {v : V} (h : SqL K H p xs) (e : atI xs i = some v) (q : Q v H) : rIx K (.ref p) (.int i) H Q := .inl (i_ixL h e q)
theorem i_ixST {K : PySem.W.Frag} {H : Hp} {Q : VK} {p : Addr} {xs : List V} {i : Int} {v : V} (h : SqT K H p xs) (e : atI xs i = some v) (q : Q v H) : rIx K (.ref p) (.int i) H Q := .inr (.inl (i_ixT h e q))
theorem i_all {K : PySem.W.Frag} {H : Hp} {Q : VK} {a : Addr} {m : Nat} (h : H a = some (.lst (List.replicate m (.bl true)))) (q : Q (.bl true) H) : rAll K [.ref a] H Q := by
  refine ⟨a, List.replicate m true, rfl, sqL (by rw [List.map_replicate]; exact h), ?_⟩
  rw [List.all_replicate]
  cases m <;> exact q
theorem nz {x : V} (h : x ≠ .non) : ¬ (x = .non) := h
def N_l_alike : List Str := ["_law_actual", "_law_due_here", "_law_k"]
def t_l_alike (K : PySem.W.Frag) (n : Nat) : TS := (tSeq (tIfS (tOr (tTest (tOp oIsN (tVar 1) (tC .non))) (tTest (tOp oIsN (tVar 0) (tC .non)))) (tRet (tAndV (tOp oIsN (tVar 1) (tC .non)) (tOp oIsN (tVar 0) (tC .non)))) tNext)
  (tSeq (tIfS (tOr (tB (tCB (rIsi K) (tCons (tVar 1) (tCons (tC (.ty "list")) tNil)))) (tB (tCB (rIsi K) (tCons (tVar 1) (tCons (tC (.ty "tuple")) tNil))))) (tSeq (tIfS (tOr (tTest (tOp rNe (tCB (rIsi K) (tCons (tVar 0) (tCons (tC (.ty "list")) tNil))) (tCB (rIsi K) (tCons (tVar 1) (tCons (tC (.ty "list")) tNil))))) (tTest (tOp rNe (tCB (rIsi K) (tCons (tVar 0) (tCons (tC (.ty "tuple")) tNil))) (tCB (rIsi K) (tCons (tVar 1) (tCons (tC (.ty "tuple")) tNil)))))) (tRet (tC (.bl false))) tNext)
  (tRet (tAndV (tOp rEq (tCB (rLen K) (tCons (tVar 0) tNil)) (tCB (rLen K) (tCons (tVar 1) tNil))) (tCB (rAll K) (tCons (tLc (iRng1 (tCons (tCB (rLen K) (tCons (tVar 1) tNil)) tNil)) (gName 2) tYes (tCall (sp_alike n) [] E0 (tCons (tOp (rIx K) (tVar 0) (tVar 2)) (tCons (tOp (rIx K) (tVar 1) (tVar 2)) tNil))) [2]) tNil))))) tNext)
  (tSeq (tIfS (tTest (tOp rNe (tCB (rIsi K) (tCons (tVar 1) (tCons (tC (.ty "bool")) tNil))) (tCB (rIsi K) (tCons (tVar 0) (tCons (tC (.ty "bool")) tNil))))) (tRet (tC (.bl false))) tNext)
  (tSeq (tIfS (tB (tCB (rIsi K) (tCons (tVar 1) (tCons (tC (.ty "int")) tNil)))) (tRet (tAndV (tCB (rIsi K) (tCons (tVar 0) (tCons (tC (.ty "int")) tNil))) (tOp rEq (tVar 0) (tVar 1)))) tNext)
  (tRet (tAndV (tCB (rIsi K) (tCons (tVar 0) (tCons (tC (.ty "str")) tNil))) (tOp rEq (tVar 0) (tVar 1))))))))
/-- the walk over two rows that hold the same data -/
theorem alike_row {K : PySem.W.Frag} {n : Nat} {a b : Addr} {xs ys : List V} {ds : List Dt} {H : Hp} {Q : VK} {x : Option V} (A : ∀ H', Same H H' → ∀ (i : Int) v (Q' : VK), atI xs i = some v → Q' v H' → rIx K (.ref a) (.int i) H' Q') (B : ∀ H', Same H H' → ∀ (i : Int) v (Q' : VK), atI ys i = some v → Q' v H' → rIx K (.ref b) (.int i) H' Q')
    (h1 : Ats H xs ds) (h2 : Ats H ys ds) (hl : ds.length ≤ 10000) (hd : Dt.depL ds + 1 ≤ n) (hf : Dt.flatL ds = true) (k : ∀ D H', Same H H' → H' D = some (.lst (List.replicate ds.length (.bl true))) → Q (.ref D) H') :
    LcW (Itr 0 ds.length) (gName 2) tYes (tCall (sp_alike n) [] E0 (tCons (tOp (rIx K) (tVar 0) (tVar 2)) (tCons (tOp (rIx K) (tVar 1) (tVar 2)) tNil))) [2] [some (.ref a), some (.ref b), x] H Q := by
  refine m_rng (fun D i H' => Same H H' ∧ H D = none ∧ H' D = some (.lst (List.replicate i (.bl true)))) ?_ ?_ ?_
  · exact fun D hD => ⟨same_new hD, hD, upd_same⟩
  · rintro D i H' hi ⟨s1, s2, s3⟩
    obtain ⟨d, hd'⟩ : ∃ d, ds[i]? = some d := ⟨_, List.getElem?_eq_getElem hi⟩
    obtain ⟨va, ea, ha⟩ := h1.get hd'
    obtain ⟨vb, eb, hb⟩ := h2.get hd'
    fold_lay
    refine ⟨rfl, ?_⟩
    fold_lay
    refine A H' s1 _ va _ (at_of (j := i) (by omega) ea) ?_
    fold_lay
    refine B H' s1 _ vb _ (at_of (j := i) (by omega) eb) ?_
    fold_lay
    cases n with
    | zero => omega
    | succ m =>
      have hdd := depL_get hd'
      refine c_alike (ha.mono s1) (hb.mono s1) (by omega) (flatL_get hf hd') fun H2 s4 => ?_
      refine ⟨_, s4 _ _ s3, szl (by rw [List.length_replicate]; omega), ?_, s2, ?_⟩
      · exact fun c o e => upd_off (ne_of_none e s2) (s4 _ _ (s1 _ _ e))
      · rw [upd_same, List.replicate_succ']
  · rintro D H' ⟨s1, s2, s3⟩
    exact k D H' s1 s3
theorem pure_alike {K : PySem.W.Frag} {n : Nat} {vs : List V} {H : Hp} {Q : VK} {E : XK} (h : sp_alike (n + 1) vs H Q E) : t_l_alike K n { nx := fun _ H' => Q .non H', rt := Q } (start N_l_alike vs) H := by
  obtain ⟨va, vb, d, rfl, h1, h2, h3, h4, k⟩ := h
  unfold t_l_alike
  cases h1 with
  | non => cases h2; kbj_rows; exact k H (Same.refl H)
  | bl b =>
    cases h2
    have t1 : Ty0 H (.bl b) "bool" := .bl b
    kbj_rows
    rw [beq_self_eq_true]
    exact k H (Same.refl H)
  | int i =>
    cases h2
    have t1 : Ty0 H (.int i) "int" := .int i
    kbj_rows
    rw [decide_eq_true rfl]
    exact k H (Same.refl H)
  | str x =>
    cases h2
    have t1 : Ty0 H (.str x) "str" := .str x
    kbj_rows
    rw [decide_eq_true rfl]
    exact k H (Same.refl H)
  | @lst a xs ds ea ha =>
    cases h2 with
    | @lst b ys _ eb hb =>
      have t1 : Ty0 H (.ref a) "list" := .lst ea
      have t2 : Ty0 H (.ref b) "list" := .lst eb
      have l1 := ha.length
      have l2 := hb.length
      simp only [Dt.flat, Bool.and_eq_true] at h4
      have f1 := of_decide_eq_true h4.1
      have h3' : Dt.depL ds + 1 ≤ n := by simpa only [Dt.dep] using h3
      kbj_rows
      refine i_yes (by omega) ?_
      kbj_rows
      refine c_rng1 (by omega) (by omega) ?_
      rw [show (ys.length : Int).toNat = ds.length by omega]
      refine alike_row (fun H' s i v Q' e q => i_ixSL (sqL (s _ _ ea)) e q) (fun H' s i v Q' e q => i_ixSL (sqL (s _ _ eb)) e q) ha hb f1 h3' h4.2 fun D H' s1 hD => ?_
      kbj_rows
      exact i_all hD (k H' s1)
  | @tup a xs ds ea ha =>
    cases h2 with
    | @tup b ys _ eb hb =>
      have t1 : Ty0 H (.ref a) "tuple" := .tup ea
      have t2 : Ty0 H (.ref b) "tuple" := .tup eb
      have l1 := ha.length
      have l2 := hb.length
      simp only [Dt.flat, Bool.and_eq_true] at h4
      have f1 := of_decide_eq_true h4.1
      have h3' : Dt.depL ds + 1 ≤ n := by simpa only [Dt.dep] using h3
      kbj_rows
      refine i_yes (by omega) ?_
      kbj_rows
      refine c_rng1 (by omega) (by omega) ?_
      rw [show (ys.length : Int).toNat = ds.length by omega]
      refine alike_row (fun H' s i v Q' e q => i_ixST (sqT (s _ _ ea)) e q) (fun H' s i v Q' e q => i_ixST (sqT (s _ _ eb)) e q) ha hb f1 h3' h4.2 fun D H' s1 hD => ?_
      kbj_rows
      exact i_all hD (k H' s1)
  | dic h hs => cases h4
/-! ## Data -/
/-! ### data: the same, a copy -/
def rLenD : List V → Hp → VK → Prop := fun vs G R => ∃ a kvs, vs = [V.ref a] ∧ G a = some (.dK kvs) ∧ R (.int kvs.length) G
def rListDk : List V → Hp → VK → Prop := fun vs G R => ∃ (a : Addr) (kvs : List (Key × V)), vs = [.ref a] ∧ Rd G a (.dK kvs) ∧ ∀ p, G p = none → R (.ref p) (upd G p (.lst (kvs.map fun kv => kV kv.1)))
theorem okL_get : ∀ {l : List Dt} {i : Nat} {d : Dt}, Dt.okL l = true → l[i]? = some d → d.okd = true
  | [], i, d, _, e => by simp at e
  | x :: r, i, d, h, e => by
    simp only [Dt.okL, Bool.and_eq_true] at h
    cases i with
    | zero =>
      simp at e
      rw [← e]
      exact h.1
    | succ i => exact okL_get (i := i) h.2 (by simpa using e)
theorem okK_mem : ∀ {l : List (Str × Dt)} {p : Str × Dt}, Dt.okK l = true → p ∈ l → p.2.okd = true ∧ p.2.dep ≤ Dt.depK l
  | [], p, _, e => by cases e
  | (k, x) :: r, p, h, e => by
    simp only [Dt.okK, Bool.and_eq_true] at h
    simp only [Dt.depK]
    rcases List.mem_cons.mp e with e | e
    · rw [e]
      exact ⟨h.1, by show x.dep ≤ _; omega⟩
    · have q := okK_mem h.2 e
      exact ⟨q.1, by omega⟩
theorem Atk.length {H : Hp} : ∀ {kvs : List (Key × V)} {ds : List (Str × Dt)}, Atk H kvs ds → kvs.length = ds.length
  | _, _, .nil => rfl
  | _, _, .cons _ hs => congrArg (· + 1) (Atk.length hs)
theorem Atk.keys {H : Hp} : ∀ {kvs : List (Key × V)} {ds : List (Str × Dt)}, Atk H kvs ds → (kvs.map fun kv => kV kv.1) = ds.map fun kd => V.str kd.1
  | _, _, .nil => rfl
  | _, _, .cons (k := k) _ hs => by
    rw [List.map_cons, List.map_cons, Atk.keys hs]
    rfl
theorem valV_cons {k j : Key} {v : V} {r : List (Key × V)} : valV ((j, v) :: r) k = if j = k then some v else valV r k := by
  unfold valV
  rw [List.find?_cons]
  by_cases h : j = k
  · rw [if_pos h]
    have : decide (j = k) = true := decide_eq_true h
    simp [this]
  · rw [if_neg h]
    have : decide (j = k) = false := decide_eq_false h
    simp [this]
/-- the value under a key that is there -/
theorem Atk.find {H : Hp} : ∀ {kvs : List (Key × V)} {ds : List (Str × Dt)} {k : Str} {d : Dt}, Atk H kvs ds → (ds.map (·.1)).Nodup → (k, d) ∈ ds → ∃ v, valV kvs (Sum.inr k) = some v ∧ At H v d
  | _, _, k, d, .nil, _, h => by cases h
  | _, _, k, d, .cons (k := j) (v := v) (d := e) hv hs, nd, h => by
    rw [valV_cons]
    rw [List.map_cons, List.nodup_cons] at nd
    rcases List.mem_cons.mp h with h | h
    · cases h
      rw [if_pos rfl]
      exact ⟨v, rfl, hv⟩
    · have nj : j ≠ k := fun z => nd.1 (by rw [z]; exact List.mem_map.mpr ⟨(k, d), h, rfl⟩)
      rw [if_neg (fun z => nj (Sum.inr.inj z))]
      exact Atk.find hs nd.2 h
def sp_is_int (K : PySem.W.Frag) : Sp := fun vs H Q _ => ∃ (v : V) (n : String), vs = [v] ∧ Ty0 H v n ∧ Q (.bl (vI v)) H
theorem c_is_int {K : PySem.W.Frag} {v : V} {n : String} {H : Hp} {Q : VK} {E : XK} (h : Ty0 H v n) (q : Q (.bl (vI v)) H) : sp_is_int K [v] H Q E := ⟨v, n, rfl, h, q⟩
def N_l_is_int : List Str := ["_law_value"]
def t_l_is_int (K : PySem.W.Frag) : TS := (tRet (tAndV (tCB (rIsi K) (tCons (tVar 0) (tCons (tC (.ty "int")) tNil))) (tNotV (tCB (rIsi K) (tCons (tVar 0) (tCons (tC (.ty "bool")) tNil))))))
theorem pure_is_int {K : PySem.W.Frag} {vs : List V} {H : Hp} {Q : VK} {E : XK} (h : sp_is_int K vs H Q E) : t_l_is_int K { nx := fun _ H' => Q .non H', rt := Q } (start N_l_is_int vs) H := by
  obtain ⟨v, n, rfl, ht, q⟩ := h
  exact pure_is_whole (K := K) (E := E) ⟨v, n, rfl, ht, q⟩
def Dt.eqI (j : Int) : Dt → Bool
  | .int i => decide (i = j)
  | _ => false
/-- what `same` says of two data, where we need it -/
def SameIs (d1 d2 : Dt) (b : Bool) : Prop := (d1 = d2 ∧ b = true) ∨ ∃ j, d2 = .int j ∧ b = d1.eqI j
def sp_same : Nat → Sp
  | 0 => fun _ _ _ _ => False
  | n + 1 => fun vs H Q _ => ∃ (va vb : V) (d1 d2 : Dt) (b : Bool), vs = [va, vb] ∧ At H va d1 ∧ At H vb d2 ∧ SameIs d1 d2 b ∧ d1.dep ≤ n ∧ d1.okd = true ∧ ∀ H', Same H H' → Q (.bl b) H'
theorem c_same {n : Nat} {va vb : V} {d : Dt} {H : Hp} {Q : VK} {E : XK} (h1 : At H va d) (h2 : At H vb d) (h3 : d.dep ≤ n) (h4 : d.okd = true) (h : ∀ H', Same H H' → Q (.bl true) H') : sp_same (n + 1) [va, vb] H Q E := ⟨va, vb, d, d, true, rfl, h1, h2, .inl ⟨rfl, rfl⟩, h3, h4, h⟩
theorem c_sameI {n : Nat} {va : V} {d : Dt} {j : Int} {H : Hp} {Q : VK} {E : XK} (h1 : At H va d) (h3 : d.dep ≤ n) (h4 : d.okd = true) (h : ∀ H', Same H H' → Q (.bl (d.eqI j)) H') : sp_same (n + 1) [va, .int j] H Q E := ⟨va, .int j, d, .int j, _, rfl, h1, .int j, .inr ⟨j, rfl, rfl⟩, h3, h4, h⟩
theorem i_lenD {H : Hp} {Q : VK} {a : Addr} {kvs : List (Key × V)} (h : H a = some (.dK kvs)) (q : Q (.int kvs.length) H) : rLenD [.ref a] H Q := ⟨a, kvs, rfl, h, q⟩
theorem i_dget {σ : St} {H : Hp} {Q : VK} {td ty : TE} (h : td σ H fun x H1 => ty σ H1 fun y H2 => ∃ a v, x = .ref a ∧ DGet H2 a y (some v) ∧ Q v H2) : tDGet td ty σ H Q := h
instance s_dget {σ : St} {H : Hp} {Q : VK} {td ty : TE} : Stp (tDGet td ty σ H Q) (td σ H fun x H1 => ty σ H1 fun y H2 => ∃ a v, x = .ref a ∧ DGet H2 a y (some v) ∧ Q v H2) := ⟨i_dget⟩
theorem i_dnotin {σ : St} {H : Hp} {Q : VK} {td ty : TE} (h : ty σ H fun y H1 => td σ H1 fun x H2 => ∃ a o, x = .ref a ∧ DGet H2 a y o ∧ Q (.bl (!o.isSome)) H2) : tDNotIn ty td σ H Q := h
instance s_dnotin {σ : St} {H : Hp} {Q : VK} {td ty : TE} : Stp (tDNotIn ty td σ H Q) (ty σ H fun y H1 => td σ H1 fun x H2 => ∃ a o, x = .ref a ∧ DGet H2 a y o ∧ Q (.bl (!o.isSome)) H2) := ⟨i_dnotin⟩
theorem dget_k {H : Hp} {a : Addr} {kvs : List (Key × V)} {k : Str} {v : V} (h : H a = some (.dK kvs)) (e : valV kvs (Sum.inr k) = some v) : DGet H a (.str k) (some v) := by
  rw [← e]
  exact DGet.k (k := Sum.inr k) h
instance s_dput {σ : St} {H : Hp} {D : Ends} {td ty tv : TE} : Stp (sDPut td ty tv D σ H) (tv σ H fun v H1 => td σ H1 fun x H2 => ty σ H2 fun y H3 => ∃ a H4, x = .ref a ∧ DPut H3 a y v H4 ∧ D.nx σ H4) := ⟨fun h => h⟩
/-- a test of the built-in class -/
theorem isi {K : PySem.W.Frag} {H : Hp} {Q : VK} {v : V} {d : Dt} (h : At H v d) (c : String) (b : Bool) (e : kitB d.ty c = some b) (q : Q (.bl b) H) : rIsi K [v, .ty c] H Q := i_isi h.ty e q
def N_l_same : List Str := ["_law_actual", "_law_expected", "_law_key", "_law_k"]
def t_l_same (K : PySem.W.Frag) (n : Nat) : TS := (tSeq (tIfS (tOr (tTest (tOp oIsN (tVar 0) (tC .non))) (tTest (tOp oIsN (tVar 1) (tC .non)))) (tRet (tAndV (tOp oIsN (tVar 0) (tC .non)) (tOp oIsN (tVar 1) (tC .non)))) tNext)
  (tSeq (tIfS (tOr (tB (tCB (rIsi K) (tCons (tVar 0) (tCons (tC (.ty "bool")) tNil)))) (tB (tCB (rIsi K) (tCons (tVar 1) (tCons (tC (.ty "bool")) tNil))))) (tRet (tAndV (tCB (rIsi K) (tCons (tVar 0) (tCons (tC (.ty "bool")) tNil))) (tAndV (tCB (rIsi K) (tCons (tVar 1) (tCons (tC (.ty "bool")) tNil))) (tOp rEq (tVar 0) (tVar 1))))) tNext)
  (tSeq (tIfS (tB (tCB (rIsi K) (tCons (tVar 1) (tCons (tC (.ty "int")) tNil)))) (tRet (tAndV (tCB (rIsi K) (tCons (tVar 0) (tCons (tC (.ty "int")) tNil))) (tOp rEq (tVar 0) (tVar 1)))) tNext)
  (tSeq (tIfS (tB (tCB (rIsi K) (tCons (tVar 1) (tCons (tC (.ty "str")) tNil)))) (tRet (tAndV (tCB (rIsi K) (tCons (tVar 0) (tCons (tC (.ty "str")) tNil))) (tOp rEq (tVar 0) (tVar 1)))) tNext)
  (tSeq (tIfS (tB (tCB (rIsi K) (tCons (tVar 1) (tCons (tC (.ty "dict")) tNil)))) (tSeq (tIfS (tOr (tNot (tB (tCB (rIsi K) (tCons (tVar 0) (tCons (tC (.ty "dict")) tNil))))) (tTest (tOp rNe (tCB rLenD (tCons (tVar 0) tNil)) (tCB rLenD (tCons (tVar 1) tNil))))) (tRet (tC (.bl false))) tNext)
  (tSeq (tFor (iList K (tCB rListDk (tCons (tVar 1) tNil))) (gName 2) (tIfS (tOr (tB (tDNotIn (tVar 2) (tVar 0))) (tNot (tB (tCall (sp_same n) [] E0 (tCons (tDGet (tVar 0) (tVar 2)) (tCons (tDGet (tVar 1) (tVar 2)) tNil)))))) (tRet (tC (.bl false))) tNext))
  (tRet (tC (.bl true))))) tNext)
  (tSeq (tIfS (tTest (tOp rNe (tCB (rIsi K) (tCons (tVar 1) (tCons (tC (.ty "list")) tNil))) (tCB (rIsi K) (tCons (tVar 0) (tCons (tC (.ty "list")) tNil))))) (tRet (tC (.bl false))) tNext)
  (tSeq (tIfS (tTest (tOp rNe (tCB (rIsi K) (tCons (tVar 1) (tCons (tC (.ty "tuple")) tNil))) (tCB (rIsi K) (tCons (tVar 0) (tCons (tC (.ty "tuple")) tNil))))) (tRet (tC (.bl false))) tNext)
  (tSeq (tIfS (tOr (tAnd (tNot (tB (tCB (rIsi K) (tCons (tVar 1) (tCons (tC (.ty "list")) tNil))))) (tNot (tB (tCB (rIsi K) (tCons (tVar 1) (tCons (tC (.ty "tuple")) tNil)))))) (tTest (tOp rNe (tCB (rLen K) (tCons (tVar 0) tNil)) (tCB (rLen K) (tCons (tVar 1) tNil))))) (tRet (tC (.bl false))) tNext)
  (tSeq (tFor (iRng1 (tCons (tCB (rLen K) (tCons (tVar 1) tNil)) tNil)) (gName 3) (tIfS (tNot (tB (tCall (sp_same n) [] E0 (tCons (tOp (rIx K) (tVar 0) (tVar 3)) (tCons (tOp (rIx K) (tVar 1) (tVar 3)) tNil))))) (tRet (tC (.bl false))) tNext))
  (tRet (tC (.bl true))))))))))))

/-- the walk over two rows that hold the same data -/
theorem same_row {K : PySem.W.Frag} {n : Nat} {a b : Addr} {xs ys : List V} {ds : List Dt} {H : Hp} {Q : VK} {x y : Option V} {nx bk ct : St → Hp → Prop} (A : ∀ H', Same H H' → ∀ (i : Int) v (Q' : VK), atI xs i = some v → Q' v H' → rIx K (.ref a) (.int i) H' Q') (B : ∀ H', Same H H' → ∀ (i : Int) v (Q' : VK), atI ys i = some v → Q' v H' → rIx K (.ref b) (.int i) H' Q')
    (h1 : Ats H xs ds) (h2 : Ats H ys ds) (hl : ds.length ≤ 20000) (hd : Dt.depL ds + 1 ≤ n) (hf : Dt.okL ds = true) (k : ∀ σ' H', Same H H' → nx σ' H') :
    ForW (Itr 0 ds.length) (gName 3) (tIfS (tNot (tB (tCall (sp_same n) [] E0 (tCons (tOp (rIx K) (tVar 0) (tVar 3)) (tCons (tOp (rIx K) (tVar 1) (tVar 3)) tNil))))) (tRet (tC (.bl false))) tNext) ⟨nx, Q, bk, ct⟩ [some (.ref a), some (.ref b), x, y] H := by
  refine l_rng (fun i σ H' => Same H H' ∧ ∃ y, σ = [some (.ref a), some (.ref b), x, y]) ⟨Same.refl H, y, rfl⟩ ?_ ?_
  · rintro i σ H' hi ⟨s1, y, rfl⟩
    obtain ⟨d, hd'⟩ : ∃ d, ds[i]? = some d := ⟨_, List.getElem?_eq_getElem hi⟩
    obtain ⟨va, ea, ha⟩ := h1.get hd'
    obtain ⟨vb, eb, hb⟩ := h2.get hd'
    fold_lay
    refine A H' s1 _ va _ (at_of (j := i) (by omega) ea) ?_
    fold_lay
    refine B H' s1 _ vb _ (at_of (j := i) (by omega) eb) ?_
    fold_lay
    cases n with
    | zero => omega
    | succ m =>
      have hdd := depL_get hd'
      refine c_same (ha.mono s1) (hb.mono s1) (by omega) (okL_get hf hd') fun H2 s4 => ?_
      fold_lay
      exact ⟨s1.trans s4, _, rfl⟩
  · rintro σ H' ⟨s1, _⟩
    exact k σ H' s1
theorem pure_same {K : PySem.W.Frag} {n : Nat} {vs : List V} {H : Hp} {Q : VK} {E : XK} (h : sp_same (n + 1) vs H Q E) : t_l_same K n { nx := fun _ H' => Q .non H', rt := Q } (start N_l_same vs) H := by
  obtain ⟨va, vb, d1, d2, b, rfl, h1, h2, hb, h3, h4, k⟩ := h
  unfold t_l_same
  rcases hb with ⟨rfl, rfl⟩ | ⟨j, rfl, rfl⟩
  rotate_left
  · cases h2
    have t0 : Ty0 H (.int j) "int" := .int j
    have t1 := h1.ty
    cases h1 with
    | non => kbj_rows; exact k H (Same.refl H)
    | bl b => simp only [Dt.ty] at t1; kbj_rows; exact k H (Same.refl H)
    | int i => simp only [Dt.ty] at t1; kbj_rows; exact k H (Same.refl H)
    | str x => simp only [Dt.ty] at t1; kbj_rows; exact k H (Same.refl H)
    | lst ea ha => simp only [Dt.ty] at t1; kbj_rows; exact k H (Same.refl H)
    | tup ea ha => simp only [Dt.ty] at t1; kbj_rows; exact k H (Same.refl H)
    | dic ea ha => simp only [Dt.ty] at t1; kbj_rows; exact k H (Same.refl H)
  cases h1 with
  | non => cases h2; kbj_rows; exact k H (Same.refl H)
  | bl b =>
    cases h2
    have t1 : Ty0 H (.bl b) "bool" := .bl b
    kbj_rows
    rw [beq_self_eq_true]
    exact k H (Same.refl H)
  | int i =>
    cases h2
    have t1 : Ty0 H (.int i) "int" := .int i
    kbj_rows
    rw [decide_eq_true rfl]
    exact k H (Same.refl H)
  | str x =>
    cases h2
    have t1 : Ty0 H (.str x) "str" := .str x
    kbj_rows
    rw [decide_eq_true rfl]
    exact k H (Same.refl H)
  | @lst a xs ds ea ha =>
    cases h2 with
    | @lst b ys _ eb hb =>
      have t1 : Ty0 H (.ref a) "list" := .lst ea
      have t2 : Ty0 H (.ref b) "list" := .lst eb
      have l1 := ha.length
      have l2 := hb.length
      simp only [Dt.okd, Bool.and_eq_true] at h4
      have f1 := of_decide_eq_true h4.1
      have h3' : Dt.depL ds + 1 ≤ n := by simpa only [Dt.dep] using h3
      kbj_rows
      refine i_ifn (fun z => absurd (by omega) z) (fun _ => ?_)
      kbj_rows
      refine f_rng1 (by omega) (by omega) ?_
      rw [show (ys.length : Int).toNat = ds.length by omega]
      refine same_row (fun H' s i v Q' e q => i_ixSL (sqL (s _ _ ea)) e q) (fun H' s i v Q' e q => i_ixSL (sqL (s _ _ eb)) e q) ha hb f1 h3' h4.2 fun σ' H' s1 => ?_
      kbj_rows
      exact k H' s1
  | @tup a xs ds ea ha =>
    cases h2 with
    | @tup b ys _ eb hb =>
      have t1 : Ty0 H (.ref a) "tuple" := .tup ea
      have t2 : Ty0 H (.ref b) "tuple" := .tup eb
      have l1 := ha.length
      have l2 := hb.length
      simp only [Dt.okd, Bool.and_eq_true] at h4
      have f1 := of_decide_eq_true h4.1
      have h3' : Dt.depL ds + 1 ≤ n := by simpa only [Dt.dep] using h3
      kbj_rows
      refine i_ifn (fun z => absurd (by omega) z) (fun _ => ?_)
      kbj_rows
      refine f_rng1 (by omega) (by omega) ?_
      rw [show (ys.length : Int).toNat = ds.length by omega]
      refine same_row (fun H' s i v Q' e q => i_ixST (sqT (s _ _ ea)) e q) (fun H' s i v Q' e q => i_ixST (sqT (s _ _ eb)) e q) ha hb f1 h3' h4.2 fun σ' H' s1 => ?_
      kbj_rows
      exact k H' s1
  | @dic a kv1 ds ea ha =>
    cases h2 with
    | @dic b kv2 _ eb hb =>
      have t1 : Ty0 H (.ref a) "dict" := .dic ea
      have t2 : Ty0 H (.ref b) "dict" := .dic eb
      have l1 := ha.length
      have l2 := hb.length
      simp only [Dt.okd, Bool.and_eq_true] at h4
      have f1 := of_decide_eq_true h4.1.1
      have f2 := of_decide_eq_true h4.1.2
      have h3' : Dt.depK ds + 1 ≤ n := by simpa only [Dt.dep] using h3
      kbj_rows
      refine i_lenD ea ?_
      kbj_rows
      refine i_lenD eb ?_
      kbj_rows
      refine i_ifn (fun z => absurd (by omega) z) (fun _ => ?_)
      kbj_rows
      refine ⟨b, kv2, rfl, .inl eb, fun p hp => ?_⟩
      rw [hb.keys]
      refine f_lst (sqL upd_same) (l_lst (fun i σ H' => Same (upd H p (.lst (ds.map fun kd => V.str kd.1))) H' ∧ ∃ x y, σ = [some (.ref a), some (.ref b), x, y]) ⟨Same.refl _, _, _, rfl⟩ (fun i σ H' _ h => sqL (h.1 _ _ upd_same)) ?_ ?_)
      · rintro i x σ H' hx ⟨s1, y, z, rfl⟩
        have s0 := (same_new (o := .lst (ds.map fun kd => V.str kd.1)) hp).trans s1
        rw [List.getElem?_map, Option.map_eq_some_iff] at hx
        obtain ⟨⟨kk, d⟩, hk, rfl⟩ := hx
        have hm := List.mem_of_getElem? hk
        obtain ⟨v1, e1, a1⟩ := ha.find f2 hm
        obtain ⟨v2, e2, a2⟩ := hb.find f2 hm
        have ok := okK_mem h4.2 hm
        kbj_rows
        refine ⟨a, some v1, rfl, dget_k (s0 _ _ ea) e1, ?_⟩
        kbj_rows
        refine i_ifF ?_
        kbj_rows
        refine ⟨a, v1, rfl, dget_k (s0 _ _ ea) e1, ?_⟩
        kbj_rows
        refine ⟨b, v2, rfl, dget_k (s0 _ _ eb) e2, ?_⟩
        kbj_rows
        cases n with
        | zero => omega
        | succ m =>
          refine c_same (a1.mono s0) (a2.mono s0) (by have := ok.2; simp only at this; omega) ok.1 fun H2 s4 => ?_
          kbj_rows
          exact ⟨s1.trans s4, _, _, rfl⟩
      · rintro σ H' ⟨s1, _⟩
        kbj_rows
        exact k H' ((same_new hp).trans s1)

def sp_copy : Nat → Sp
  | 0 => fun _ _ _ _ => False
  | n + 1 => fun vs H Q _ => ∃ (v : V) (d : Dt), vs = [v] ∧ At H v d ∧ d.dep ≤ n ∧ d.okd = true ∧ ∀ v' H', At (nw H H') v' d → Same H H' → Q v' H'
theorem c_copy {n : Nat} {v : V} {d : Dt} {H : Hp} {Q : VK} {E : XK} (h1 : At H v d) (h3 : d.dep ≤ n) (h4 : d.okd = true) (h : ∀ v' H', At (nw H H') v' d → Same H H' → Q v' H') : sp_copy (n + 1) [v] H Q E := ⟨v, d, rfl, h1, h3, h4, h⟩
/-- what was copied ahead stays beside the growing row at D -/
theorem beside_old {H H1 H2 : Hp} {D : Addr} {o : HO} (k : Same H1 H2) : Same (hid D (nw H H1)) (hid D (nw H (upd H2 D o))) := fun b u e => by
  obtain ⟨e1, e2⟩ := hid_of e
  obtain ⟨e3, e4⟩ := nw_of e1
  exact hid_to (nw_to e3 (upd_off e2 (k _ _ e4))) e2
theorem beside_new {H H1 H2 : Hp} {D : Addr} {o o1 : HO} (h0 : Same H H1 ∨ ∀ b u, H b = some u → b ≠ D → H1 b = some u) (hD : H1 D = some o1) (hn : H D = none) : Same (nw H1 H2) (hid D (nw H (upd H2 D o))) := fun b u e => by
  obtain ⟨e1, e2⟩ := nw_of e
  have nb : b ≠ D := fun z => by
    rw [z, hD] at e1
    cases e1
  have hb : H b = none := by
    cases q : H b with
    | none => rfl
    | some w =>
      rcases h0 with h0 | h0
      · rw [h0 b w q] at e1
        cases e1
      · rw [h0 b w q nb] at e1
        cases e1
  exact hid_to (nw_to hb (upd_off nb e2)) nb
theorem Ats.snoc {H : Hp} : ∀ {vs : List V} {ds : List Dt} {v : V} {d : Dt}, Ats H vs ds → At H v d → Ats H (vs ++ [v]) (ds ++ [d])
  | _, _, _, _, .nil, h => .cons h .nil
  | _, _, _, _, .cons h1 hs, h => .cons h1 (Ats.snoc hs h)
theorem Atk.snoc {H : Hp} : ∀ {vs : List (Key × V)} {ds : List (Str × Dt)} {k : Str} {v : V} {d : Dt}, Atk H vs ds → At H v d → Atk H (vs ++ [(Sum.inr k, v)]) (ds ++ [(k, d)])
  | _, _, _, _, _, .nil, h => .cons h .nil
  | _, _, _, _, _, .cons h1 hs, h => .cons h1 (Atk.snoc hs h)
theorem hid_nw_sub {H H1 : Hp} {D : Addr} : Same (hid D (nw H H1)) (nw H H1) := hid_same
/-- the copies of a row's items, in a new list -/
theorem copy_row {K : PySem.W.Frag} {n : Nat} {J : It} {xs : List V} {ds : List Dt} {H : Hp} {Q : VK} {σ : St} (hJ : ∀ (Pv : Addr → Nat → Hp → Prop), (∀ D, H D = none → Pv D 0 (upd H D (.lst []))) → (∀ D i H', i ≤ xs.length → Pv D i H' → Same H H') →
      (∀ D i x H', xs[i]? = some x → Pv D i H' → gName 3 x (wipe σ [3]) H' fun σ2 H2 => wipe σ2 [3] = wipe σ [3] ∧ tYes σ2 H2 fun b H3 => if b = true then tCall (sp_copy n) [] E0 (tCons (tVar 3) tNil) σ2 H3 fun y H4 => ∃ acc, H4 D = some (.lst acc) ∧ acc.length < sizeLine ∧ Pv D (i + 1) (upd H4 D (.lst (acc ++ [y]))) else Pv D (i + 1) H3) →
      (∀ D H', Pv D xs.length H' → Q (.ref D) H') → LcW J (gName 3) tYes (tCall (sp_copy n) [] E0 (tCons (tVar 3) tNil)) [3] σ H Q)
    (hσ : ∀ x, ((wipe σ [3]).set 3 (some x))[3]? = some (some x)) (hw : ∀ x, wipe ((wipe σ [3]).set 3 (some x)) [3] = wipe σ [3])
    (h1 : Ats H xs ds) (hl : ds.length ≤ 20000) (hd : Dt.depL ds + 1 ≤ n) (hf : Dt.okL ds = true)
    (k : ∀ D ys H', Same H H' → H D = none → H' D = some (.lst ys) → Ats (hid D (nw H H')) ys ds → Q (.ref D) H') : LcW J (gName 3) tYes (tCall (sp_copy n) [] E0 (tCons (tVar 3) tNil)) [3] σ H Q := by
  have hlen := h1.length
  refine hJ (fun D i H' => Same H H' ∧ H D = none ∧ ∃ ys, H' D = some (.lst ys) ∧ Ats (hid D (nw H H')) ys (ds.take i)) ?_ ?_ ?_ ?_
  · exact fun D hD => ⟨same_new hD, hD, [], upd_same, .nil⟩
  · exact fun D i H' _ h => h.1
  · rintro D i x H' hx ⟨s1, hn, ys, hys, hat⟩
    have hi : i < ds.length := by
      have := (List.getElem?_eq_some_iff.mp hx).1
      omega
    obtain ⟨d, hd'⟩ : ∃ d, ds[i]? = some d := ⟨_, List.getElem?_eq_getElem hi⟩
    obtain ⟨va, ea, ha⟩ := h1.get hd'
    rw [hx] at ea
    obtain rfl : x = va := Option.some.inj ea
    refine i_gname ⟨hw _, ?_⟩
    fold_lay
    refine i_var (hσ x) ?_
    fold_lay
    cases n with
    | zero => omega
    | succ m =>
      have hdd := depL_get hd'
      have hly := hat.length
      rw [List.length_take] at hly
      refine c_copy (ha.mono s1) (by omega) (okL_get hf hd') fun v' H2 hv' s2 => ?_
      refine ⟨ys, s2 _ _ hys, szl (by omega), ?_, hn, _, upd_same, ?_⟩
      · exact fun b o e => upd_off (ne_of_none e hn) (s2 _ _ (s1 _ _ e))
      · rw [take_more hd']
        exact (hat.mono (beside_old s2)).snoc (hv'.mono (beside_new (.inl s1) hys hn))
  · rintro D H' ⟨s1, hn, ys, hys, hat⟩
    rw [hlen, List.take_length] at hat
    exact k D ys H' s1 hn hys hat
def N_l_copy : List Str := ["_law_value", "_law_twin", "_law_key", "_law_one"]
def t_l_copy (K : PySem.W.Frag) (n : Nat) : TS := (tSeq (tIfS (tB (tCB (rIsi K) (tCons (tVar 0) (tCons (tC (.ty "list")) tNil)))) (tRet (tLc (iList K (tVar 0)) (gName 3) tYes (tCall (sp_copy n) [] E0 (tCons (tVar 3) tNil)) [3])) tNext)
  (tSeq (tIfS (tB (tCB (rIsi K) (tCons (tVar 0) (tCons (tC (.ty "tuple")) tNil)))) (tRet (tCB (rTupleOf K) (tCons (tLc (iTup K (tVar 0)) (gName 3) tYes (tCall (sp_copy n) [] E0 (tCons (tVar 3) tNil)) [3]) tNil))) tNext)
  (tSeq (tIfS (tB (tCB (rIsi K) (tCons (tVar 0) (tCons (tC (.ty "dict")) tNil)))) (tSeq (tAsg tDNewK (gName 1))
  (tSeq (tFor (iList K (tCB rListDk (tCons (tVar 0) tNil))) (gName 2) (sDPut (tVar 1) (tVar 2) (tCall (sp_copy n) [] E0 (tCons (tDGet (tVar 0) (tVar 2)) tNil))))
  (tRet (tVar 1)))) tNext)
  (tRet (tVar 0)))))
theorem take_fresh : ∀ {ds : List (Str × Dt)} {i : Nat} {p : Str × Dt}, (ds.map (·.1)).Nodup → ds[i]? = some p → p.1 ∉ (ds.take i).map (·.1)
  | [], i, p, _, e => by simp at e
  | x :: r, 0, p, _, e => by simp
  | x :: r, i + 1, p, nd, e => by
    rw [List.map_cons, List.nodup_cons] at nd
    rw [List.getElem?_cons_succ] at e
    rw [List.take_succ_cons, List.map_cons, List.mem_cons, not_or]
    exact ⟨fun z => nd.1 (by rw [← z]; exact List.mem_map.mpr ⟨p, List.mem_of_getElem? e, rfl⟩), take_fresh nd.2 e⟩
theorem putK_fresh {kvs : List (Key × V)} {k : Key} {v : V} (h : ∀ kv ∈ kvs, kv.1 ≠ k) : putK kvs k v = kvs ++ [(k, v)] := by
  unfold putK
  rw [if_neg]
  intro z
  rw [List.any_eq_true] at z
  obtain ⟨kv, h1, h2⟩ := z
  exact h kv h1 (of_decide_eq_true h2)
theorem Atk.fresh {H : Hp} {k : Str} : ∀ {kvs : List (Key × V)} {ds : List (Str × Dt)}, Atk H kvs ds → k ∉ ds.map (·.1) → ∀ kv ∈ kvs, kv.1 ≠ Sum.inr k
  | _, _, .nil, _, kv, h => by cases h
  | _, _, .cons (k := j) hv hs, hn, kv, h => by
    rw [List.map_cons, List.mem_cons, not_or] at hn
    rcases List.mem_cons.mp h with h | h
    · rw [h]
      exact fun z => hn.1 (Sum.inr.inj z).symm
    · exact Atk.fresh hs hn.2 kv h
theorem pure_copy {K : PySem.W.Frag} {n : Nat} {vs : List V} {H : Hp} {Q : VK} {E : XK} (h : sp_copy (n + 1) vs H Q E) : t_l_copy K n { nx := fun _ H' => Q .non H', rt := Q } (start N_l_copy vs) H := by
  obtain ⟨v, d, rfl, h1, h3, h4, k⟩ := h
  unfold t_l_copy
  cases h1 with
  | non => have t1 : Ty0 H .non "NoneType" := .non; kbj_rows; exact k _ H .non (Same.refl H)
  | bl b => have t1 : Ty0 H (.bl b) "bool" := .bl b; kbj_rows; exact k _ H (.bl b) (Same.refl H)
  | int i => have t1 : Ty0 H (.int i) "int" := .int i; kbj_rows; exact k _ H (.int i) (Same.refl H)
  | str x => have t1 : Ty0 H (.str x) "str" := .str x; kbj_rows; exact k _ H (.str x) (Same.refl H)
  | @lst a xs ds ea ha =>
    have t1 : Ty0 H (.ref a) "list" := .lst ea
    simp only [Dt.okd, Bool.and_eq_true] at h4
    have f1 := of_decide_eq_true h4.1
    have h3' : Dt.depL ds + 1 ≤ n := by simpa only [Dt.dep] using h3
    kbj_rows
    refine c_lst (sqL ea) (copy_row (K := K) (fun Pv p0 pl ps pd => m_lst (K := K) (a := a) (xs := xs) Pv p0 (fun D i H' hi hp => sqL (pl D i H' hi hp _ _ ea)) ps pd) (fun x => rfl) (fun x => rfl) ha f1 h3' h4.2 fun D ys H' s1 hn hD hat => ?_)
    exact k _ H' (.lst (nw_to hn hD) (hat.mono hid_nw_sub)) s1
  | @tup a xs ds ea ha =>
    have t1 : Ty0 H (.ref a) "tuple" := .tup ea
    simp only [Dt.okd, Bool.and_eq_true] at h4
    have f1 := of_decide_eq_true h4.1
    have h3' : Dt.depL ds + 1 ≤ n := by simpa only [Dt.dep] using h3
    kbj_rows
    refine c_tup (sqT ea) (copy_row (K := K) (fun Pv p0 pl ps pd => m_tup (K := K) (a := a) (xs := xs) Pv p0 (fun D i H' hi hp => sqT (pl D i H' hi hp _ _ ea)) ps pd) (fun x => rfl) (fun x => rfl) ha f1 h3' h4.2 fun D ys H' s1 hn hD hat => ?_)
    kbj_rows
    refine ⟨D, ys, rfl, .inl ⟨sqL hD, fun p hp => ?_⟩⟩
    refine k _ _ (.tup (nw_to (s1.free hp) upd_same) (hat.mono ?_)) (s1.trans (same_new hp))
    exact fun b o e => by
      obtain ⟨e1, e2⟩ := nw_of (hid_same _ _ e)
      exact nw_to e1 (upd_keep hp e2)
  | @dic a kvs ds ea ha =>
    have t1 : Ty0 H (.ref a) "dict" := .dic ea
    simp only [Dt.okd, Bool.and_eq_true] at h4
    have f1 := of_decide_eq_true h4.1.1
    have f2 := of_decide_eq_true h4.1.2
    have h3' : Dt.depK ds + 1 ≤ n := by simpa only [Dt.dep] using h3
    kbj_rows
    intro p hp
    kbj_rows
    refine ⟨a, kvs, rfl, .inl (upd_keep hp ea), fun q hq => ?_⟩
    rw [ha.keys]
    have np : p ≠ q := ne_of_none upd_same hq
    have h0 : upd H p (.dK []) p = some (.dK []) := upd_same
    refine f_lst (sqL upd_same) (l_lst (xs := ds.map fun kd => V.str kd.1) (fun i σ H' => Same H H' ∧ H' q = some (.lst (ds.map fun kd => V.str kd.1)) ∧ (∃ kw, H' p = some (.dK kw) ∧ Atk (hid p (nw H H')) kw (ds.take i)) ∧ ∃ x y, σ = [some (.ref a), some (.ref p), x, y]) ⟨(same_new hp).trans (same_new hq), upd_same, ⟨[], upd_keep hq h0, .nil⟩, _, _, rfl⟩ (fun i σ H' _ h => sqL h.2.1) ?_ ?_)
    · rintro i x σ H' hx ⟨s1, hq', ⟨kw, hkw, hat⟩, y, z, rfl⟩
      rw [List.getElem?_map, Option.map_eq_some_iff] at hx
      obtain ⟨⟨kk, d⟩, hk, rfl⟩ := hx
      have hm := List.mem_of_getElem? hk
      obtain ⟨v1, e1, a1⟩ := ha.find f2 hm
      have ok := okK_mem h4.2 hm
      kbj_rows
      refine ⟨a, v1, rfl, dget_k (s1 _ _ ea) e1, ?_⟩
      kbj_rows
      cases n with
      | zero => omega
      | succ m =>
        refine c_copy (a1.mono s1) (by have := ok.2; simp only at this; omega) ok.1 fun v' H2 hv' s2 => ?_
        kbj_rows
        refine ⟨p, _, rfl, DPut.k (k := Sum.inr kk) (s2 _ _ hkw) (szl (by have := hat.length; rw [List.length_take] at this; omega)), ?_⟩
        have nk : kk ∉ (ds.take i).map (·.1) := take_fresh f2 hk
        rw [putK_fresh (hat.fresh nk)]
        refine ⟨fun b o e => upd_off (ne_of_none e hp) (s2 _ _ (s1 _ _ e)), upd_off (Ne.symm np) (s2 _ _ hq'), ⟨_, upd_same, ?_⟩, _, _, rfl⟩
        rw [take_more hk]
        exact (hat.mono (beside_old s2)).snoc (hv'.mono (beside_new (.inl s1) hkw hp))
    · rintro σ H' ⟨s1, hq', ⟨kw, hkw, hat⟩, y, z, rfl⟩
      rw [List.length_map, List.take_length] at hat
      kbj_rows
      exact k _ H' (.dic (nw_to hp hkw) (hat.mono hid_nw_sub)) s1
/-! ## Seq -/
/-! ### for over what may be a list or a tuple -/
def iSeq (K : PySem.W.Frag) (tl : TE) : TI := fun σ H R => tl σ H fun x H1 => ∃ a, x = .ref a ∧ (((∃ xs, SqL K H1 a xs) ∧ R (Itl K a) H1) ∨ ((∃ xs, SqT K H1 a xs) ∧ R (Itt K a) H1))
/-- a fresh walk at the heap's end -/
theorem fresh_fp {X : Cx} {pins : List (Addr × Obj)} {σ : St} {H : Hp} {g : Shared} (J : Inv X pins σ H g) : ∀ b ∈ [g.heap.objs.size], FpOk X pins H b := fun b hb => by
  rw [List.mem_singleton.mp hb]
  exact J.fpOk (Nat.le_refl _) (J.hok.fresh (Nat.le_refl _))
theorem pi_seq {X : Cx} {tg l : Expr} {tl : TE} (hl : PE X l tl) : PI X tg l (iSeq X.K tl) := by
  constructor
  intro pins g σ H R J h
  refine thn (hl.run pins g σ H _ J h) fun u g1 z => ?_
  obtain ⟨y, G, J1, ry, a, ey, q⟩ := z
  subst ey
  obtain rfl : u = .ref a := ry
  rcases q with ⟨⟨xs, hx⟩, q⟩ | ⟨⟨xs, hx⟩, q⟩
  · obtain ⟨its, _, at1, _⟩ := J1.list hx
    refine wpAny_pyIter_list at1.isList ⟨_, _, _, _, G, rfl, ?_, turn_list a _, ⟨_, Heap.get?_push_size _ rfl, rfl, rfl⟩, fun b hb => ?_, q⟩
    · exact J1.kept (t' := g1.toks) fun b o e => Heap.get?_push_of_some _ e
    · exact fresh_fp J1 b hb
  · obtain ⟨its, _, at1, _⟩ := J1.tuple hx
    have at2 : g1.heap.IsTuple a its.toArray := at1
    refine wpAny_pyIter_tuple at2 ⟨_, _, _, _, G, rfl, ?_, turn_tuple a _, ⟨_, Heap.get?_push_size _ rfl, rfl, rfl⟩, fun b hb => ?_, q⟩
    · exact J1.kept (t' := g1.toks) fun b o e => Heap.get?_push_of_some _ e
    · exact fresh_fp J1 b hb
instance s_forS {K : PySem.W.Frag} {σ : St} {H : Hp} {D : Ends} {g : TG} {tb : TS} {tl : TE} : Stp (tFor (iSeq K tl) g tb D σ H) (tl σ H fun x H1 => ∃ a, x = .ref a ∧ (((∃ xs, SqL K H1 a xs) ∧ ForW (Itl K a) g tb D σ H1) ∨ ((∃ xs, SqT K H1 a xs) ∧ ForW (Itt K a) g tb D σ H1))) := ⟨fun h => h⟩
/-! ## Data2 -/
/-! ### rows of ints -/
theorem at_isI {H : Hp} {v : V} {d : Dt} (h : At H v d) : vI v = d.isI := by
  cases h <;> rfl
def isInts (l : Bool) (n : Int) : Dt → Bool
  | .lst ds => l && ((decide (n < 0) || decide ((ds.length : Int) = n)) && ds.all Dt.isI)
  | .tup ds => !l && ((decide (n < 0) || decide ((ds.length : Int) = n)) && ds.all Dt.isI)
  | _ => false
def sp_is_ints (K : PySem.W.Frag) : Sp := fun vs H Q _ => ∃ (v : V) (l : Bool) (n : Int) (d : Dt), vs = [v, .bl l, .int n] ∧ At H v d ∧ Q (.bl (isInts l n d)) H
theorem c_is_ints {K : PySem.W.Frag} {v : V} {l : Bool} {n : Int} {d : Dt} {H : Hp} {Q : VK} {E : XK} (h : At H v d) (q : Q (.bl (isInts l n d)) H) : sp_is_ints K [v, .bl l, .int n] H Q E := ⟨v, l, n, d, rfl, h, q⟩
def N_l_is_ints : List Str := ["_law_value", "_law_listed", "_law_many", "_law_one"]
def t_l_is_ints (K : PySem.W.Frag) : TS := (tSeq (tIfS (tOr (tAnd (tB (tVar 1)) (tNot (tB (tCB (rIsi K) (tCons (tVar 0) (tCons (tC (.ty "list")) tNil)))))) (tAnd (tNot (tB (tVar 1))) (tNot (tB (tCB (rIsi K) (tCons (tVar 0) (tCons (tC (.ty "tuple")) tNil))))))) (tRet (tC (.bl false))) tNext)
  (tSeq (tIfS (tAnd (tTest (tOp oGe (tVar 2) (tC (.int 0)))) (tTest (tOp rNe (tCB (rLen K) (tCons (tVar 0) tNil)) (tVar 2)))) (tRet (tC (.bl false))) tNext)
  (tSeq (tFor (iSeq K (tVar 0)) (gName 3) (tIfS (tNot (tB (tCall (sp_is_int K) [] E0 (tCons (tVar 3) tNil)))) (tRet (tC (.bl false))) tNext))
  (tRet (tC (.bl true))))))
theorem ints_row {K : PySem.W.Frag} {H : Hp} {Q : VK} {xs : List V} {ds : List Dt} {J : It} {nx bk ct : St → Hp → Prop} {σ0 : List (Option V)} {x0 : Option V} (hJ : ∀ (Pv : Nat → St → Hp → Prop), Pv 0 (σ0 ++ [x0]) H → (∀ i σ' H', Pv i σ' H' → H' = H) → (∀ i x σ' H', xs[i]? = some x → Pv i σ' H' → gName 3 x σ' H' fun σ2 H2 => tIfS (tNot (tB (tCall (sp_is_int K) [] E0 (tCons (tVar 3) tNil)))) (tRet (tC (.bl false))) tNext ⟨Pv (i + 1), Q, nx, Pv (i + 1)⟩ σ2 H2) → (∀ σ' H', Pv xs.length σ' H' → nx σ' H') → ForW J (gName 3) (tIfS (tNot (tB (tCall (sp_is_int K) [] E0 (tCons (tVar 3) tNil)))) (tRet (tC (.bl false))) tNext) ⟨nx, Q, bk, ct⟩ (σ0 ++ [x0]) H)
    (h0 : σ0.length = 3) (h : Ats H xs ds) (k1 : ds.all Dt.isI = true → ∀ σ', nx σ' H) (k2 : ds.all Dt.isI = false → Q (.bl false) H) : ForW J (gName 3) (tIfS (tNot (tB (tCall (sp_is_int K) [] E0 (tCons (tVar 3) tNil)))) (tRet (tC (.bl false))) tNext) ⟨nx, Q, bk, ct⟩ (σ0 ++ [x0]) H := by
  match σ0, h0 with
  | [a1, a2, a3], _ =>
    refine hJ (fun i σ' H' => H' = H ∧ (ds.take i).all Dt.isI = true ∧ ∃ y, σ' = [a1, a2, a3] ++ [y]) ⟨rfl, rfl, x0, rfl⟩ (fun i σ' H' h => h.1) ?_ ?_
    · rintro i x σ' H' hx ⟨rfl, ht, y, rfl⟩
      have hi := (List.getElem?_eq_some_iff.mp hx).1
      have hl := h.length
      obtain ⟨d, hd⟩ : ∃ d, ds[i]? = some d := ⟨_, List.getElem?_eq_getElem (by omega)⟩
      obtain ⟨va, ea, ha⟩ := h.get hd
      rw [hx] at ea
      obtain rfl : x = va := Option.some.inj ea
      fold_lay
      refine c_is_int ha.ty ?_
      rw [at_isI ha]
      fold_lay
      refine i_ifb (fun z => ?_) (fun z => ?_)
      · fold_lay
        refine k2 ?_
        rw [← Bool.not_eq_true]
        intro w
        have := List.all_eq_true.mp w d (List.mem_of_getElem? hd)
        rw [this] at z
        cases z
      · fold_lay
        refine ⟨rfl, ?_, _, rfl⟩
        rw [take_more hd, List.all_append, ht]
        simpa using z
    · rintro σ' H' ⟨rfl, ht, y, rfl⟩
      rw [h.length, List.take_length] at ht
      exact k1 ht _
theorem pure_is_ints {K : PySem.W.Frag} {vs : List V} {H : Hp} {Q : VK} {E : XK} (h : sp_is_ints K vs H Q E) : t_l_is_ints K { nx := fun _ H' => Q .non H', rt := Q } (start N_l_is_ints vs) H := by
  obtain ⟨v, l, n, d, rfl, h1, k⟩ := h
  unfold t_l_is_ints
  have t1 := h1.ty
  cases h1 with
  | non => simp only [Dt.ty] at t1; cases l <;> kbj_rows <;> exact k
  | bl b => simp only [Dt.ty] at t1; cases l <;> kbj_rows <;> exact k
  | int i => simp only [Dt.ty] at t1; cases l <;> kbj_rows <;> exact k
  | str x => simp only [Dt.ty] at t1; cases l <;> kbj_rows <;> exact k
  | dic ea ha => simp only [Dt.ty] at t1; cases l <;> kbj_rows <;> exact k
  | @lst a xs ds ea ha =>
    simp only [Dt.ty] at t1
    have hl := ha.length
    cases l
    · kbj_rows; exact k
    fold_depth
    refine i_cut (fun σ' H' => H' = H ∧ (decide (n < 0) || decide ((ds.length : Int) = n)) = true ∧ σ' = [some (.ref a), some (.bl true), some (.int n), none]) ?_ (fun nx key => ?_)
    · rintro σ' H' ⟨rfl, hc, rfl⟩
      fold_depth
      refine ⟨a, rfl, .inl ⟨⟨_, sqL ea⟩, ?_⟩⟩
      refine ints_row (σ0 := [some (.ref a), some (.bl true), some (.int n)]) (fun Pv p0 pe ps pd => l_lst (xs := xs) Pv p0 (fun i σ' H' _ h => sqL (by rw [pe i σ' H' h]; exact ea)) ps pd) rfl ha (fun w σ' => ?_) (fun w => ?_)
      · fold_lay
        simpa [isInts, hc, w] using k
      · simpa [isInts, hc, w] using k
    · fold_lay
      refine i_ifd (fun h1 => ?_) (fun h1 => ?_)
      · fold_lay
        refine i_ifn (fun h2 => ?_) (fun h2 => ?_)
        · fold_lay
          have : (decide (n < 0) || decide ((ds.length : Int) = n)) = false := by simp; omega
          simpa [isInts, this] using k
        · fold_lay
          exact key _ _ ⟨rfl, by simp; omega, rfl⟩
      · fold_lay
        exact key _ _ ⟨rfl, by simp; omega, rfl⟩
  | @tup a xs ds ea ha =>
    simp only [Dt.ty] at t1
    have hl := ha.length
    cases l
    rotate_left
    · kbj_rows; exact k
    fold_depth
    refine i_cut (fun σ' H' => H' = H ∧ (decide (n < 0) || decide ((ds.length : Int) = n)) = true ∧ σ' = [some (.ref a), some (.bl false), some (.int n), none]) ?_ (fun nx key => ?_)
    · rintro σ' H' ⟨rfl, hc, rfl⟩
      fold_depth
      refine ⟨a, rfl, .inr ⟨⟨_, sqT ea⟩, ?_⟩⟩
      refine ints_row (σ0 := [some (.ref a), some (.bl false), some (.int n)]) (fun Pv p0 pe ps pd => l_tup (xs := xs) Pv p0 (fun i σ' H' _ h => sqT (by rw [pe i σ' H' h]; exact ea)) ps pd) rfl ha (fun w σ' => ?_) (fun w => ?_)
      · fold_lay
        simpa [isInts, hc, w] using k
      · simpa [isInts, hc, w] using k
    · fold_lay
      refine i_ifd (fun h1 => ?_) (fun h1 => ?_)
      · fold_lay
        refine i_ifn (fun h2 => ?_) (fun h2 => ?_)
        · fold_lay
          have : (decide (n < 0) || decide ((ds.length : Int) = n)) = false := by simp; omega
          simpa [isInts, this] using k
        · fold_lay
          exact key _ _ ⟨rfl, by simp; omega, rfl⟩
      · fold_lay
        exact key _ _ ⟨rfl, by simp; omega, rfl⟩
/-! ## Told -/
/-! ### refusals, asked under try -/
theorem i_isX {K : PySem.W.Frag} {H : Hp} {Q : VK} {a D dd C : Addr} {fs : List (Str × V)} {b : Bool} (ha : H a = some (exi a (.ref D) (some dd))) (hd : H dd = some (.xd fs)) (hD : ExcC K D) (e : PySem.W.kitOne K (.ref D) (.ref C) = some b) (q : Q (.bl b) H) : rIsX K [.ref a, .ref C] H Q :=
  ⟨a, D, dd, fs, .ref C, .ref C, b, rfl, .own C, ha, hd, hD, e, q⟩
theorem i_isXt {K : PySem.W.Frag} {H : Hp} {Q : VK} {a D dd : Addr} {t : String} {fs : List (Str × V)} {b : Bool} (ha : H a = some (exi a (.ref D) (some dd))) (hd : H dd = some (.xd fs)) (hD : ExcC K D) (e : PySem.W.kitOne K (.ref D) (.type t) = some b) (q : Q (.bl b) H) : rIsX K [.ref a, .ty t] H Q :=
  ⟨a, D, dd, fs, .ty t, .type t, b, rfl, .ty t, ha, hd, hD, e, q⟩
theorem i_xt {K : PySem.W.Frag} {σ : St} {H : Hp} {Q : VK} {f : Str} {te : TE} (h : te σ H fun x H1 => ∃ (a C dd : Addr) (fs : List (Str × V)) (v : V), x = .ref a ∧ H1 a = some (exi a (.ref C) (some dd)) ∧ XfC K C ∧ PySem.W.findIn K (.ref C) f = some none ∧ H1 dd = some (.xd fs) ∧ fs.lookup f = some v ∧ Q v H1) : tXt K f te σ H Q := h
instance s_xt {K : PySem.W.Frag} {σ : St} {H : Hp} {Q : VK} {f : Str} {te : TE} : Stp (tXt K f te σ H Q) (te σ H fun x H1 => ∃ (a C dd : Addr) (fs : List (Str × V)) (v : V), x = .ref a ∧ H1 a = some (exi a (.ref C) (some dd)) ∧ XfC K C ∧ PySem.W.findIn K (.ref C) f = some none ∧ H1 dd = some (.xd fs) ∧ fs.lookup f = some v ∧ Q v H1) := ⟨i_xt⟩
theorem i_cat {H : Hp} {Q : VK} {l b : Addr} {xs zs : List V} (h1 : H l = some (.lst xs)) (h2 : H b = some (.lst zs)) (hz : xs.length + zs.length ≤ 100000) (q : ∀ p, H p = none → Q (.ref p) (upd H p (.lst (xs ++ zs)))) : rCat (.ref l) (.ref b) H Q := ⟨l, b, xs, zs, rfl, rfl, h1, h2, sz hz, q⟩
theorem lk_told {s : V} {t : Addr} : List.lookup ("told" : Str) [("told", V.ref t), ("parameter", s)] = some (V.ref t) := by
  have e : (("told" : Str) == ("told" : Str)) = true := beq_self_eq_true _
  simp only [List.lookup, e]
theorem lk_param {s : V} {t : Addr} : List.lookup ("parameter" : Str) [("told", V.ref t), ("parameter", s)] = some s := by
  have e : (("parameter" : Str) == ("told" : Str)) = false := by decide
  have e2 : (("parameter" : Str) == ("parameter" : Str)) = true := beq_self_eq_true _
  simp only [List.lookup, e, e2]
theorem i_callS {sp : Sp} {E : St → XK} {t : TA} {σ : St} {H : Hp} {Q : VK} (h : t σ H fun vs H1 => sp vs H1 Q (E σ)) : tCallS sp E t σ H Q := h
instance s_callS {sp : Sp} {E : St → XK} {t : TA} {σ : St} {H : Hp} {Q : VK} : Stp (tCallS sp E t σ H Q) (t σ H fun vs H1 => sp vs H1 Q (E σ)) := ⟨i_callS⟩
theorem i_try {K : PySem.W.Frag} {c : Value} {i : Nat} {tb : WX → TS} {ts : TS} {Wout : WX} {D : Ends} {σ : St} {H : Hp} (h : tb (wAsT K c i ts Wout D) D σ H) : tTryT K c i tb ts Wout D σ H := h
instance s_try {K : PySem.W.Frag} {c : Value} {i : Nat} {tb : WX → TS} {ts : TS} {Wout : WX} {D : Ends} {σ : St} {H : Hp} : Stp (tTryT K c i tb ts Wout D σ H) (tb (wAsT K c i ts Wout D) D σ H) := ⟨i_try⟩
def titles : List Str := ["BadValue", "Broken", "Unknown", "NotHeld", "Fault", "NoRoom", "Cut", "BadLine"]
theorem Ats_bls {H : Hp} : ∀ l : List Bool, Ats H (l.map V.bl) (l.map Dt.bl)
  | [] => .nil
  | b :: r => .cons (.bl b) (Ats_bls r)
theorem getS {l : List Str} {i : Nat} {y : V} (hi : (l.map V.str)[i]? = some y) : ∃ z, l[i]? = some z ∧ y = V.str z := by
  rw [List.getElem?_map, Option.map_eq_some_iff] at hi
  exact hi.elim fun z h => ⟨z, h.1, h.2.symm⟩
/-- which of the ten classes an exception of class D is of -/
structure ExK (K : PySem.W.Frag) (c : Cl) (D : Addr) (k3 k4 k5 k6 k7 k8 k9 k10 : Bool) : Prop where
  ex : ExcC K D
  xf : XfC K D
  i1 : PySem.W.kitOne K (.ref D) (.ref c.k_StoreError) = some true
  i2 : PySem.W.kitOne K (.ref D) (.type "ValueError") = some true
  i3 : PySem.W.kitOne K (.ref D) (.ref c.k_BadValue) = some k3
  i4 : PySem.W.kitOne K (.ref D) (.ref c.k_Broken) = some k4
  i5 : PySem.W.kitOne K (.ref D) (.ref c.k_Unknown) = some k5
  i6 : PySem.W.kitOne K (.ref D) (.ref c.k_NotHeld) = some k6
  i7 : PySem.W.kitOne K (.ref D) (.ref c.k_Fault) = some k7
  i8 : PySem.W.kitOne K (.ref D) (.ref c.k_NoRoom) = some k8
  i9 : PySem.W.kitOne K (.ref D) (.ref c.k_Cut) = some k9
  i10 : PySem.W.kitOne K (.ref D) (.ref c.k_BadLine) = some k10
def sp_kinds (K : PySem.W.Frag) (c : Cl) : Sp := fun vs H Q _ => ∃ (e d D : Addr) (fs : List (Str × V)) (k3 k4 k5 k6 k7 k8 k9 k10 : Bool), vs = [.ref e] ∧ H e = some (exi e (.ref D) (some d)) ∧ H d = some (.xd fs) ∧ ExK K c D k3 k4 k5 k6 k7 k8 k9 k10 ∧
  ∀ p, H p = none → Q (.ref p) (upd H p (.lst ([true, true, k3, k4, k5, k6, k7, k8, k9, k10].map V.bl)))
def N_l_kinds : List Str := ["_law_error"]
def t_l_kinds (K : PySem.W.Frag) (c : Cl) : TS := (tRet (tLst (tCons (tCB (rIsX K) (tCons (tVar 0) (tCons (tC (.ref c.k_StoreError)) tNil))) (tCons (tCB (rIsX K) (tCons (tVar 0) (tCons (tC (.ty "ValueError")) tNil))) (tCons (tCB (rIsX K) (tCons (tVar 0) (tCons (tC (.ref c.k_BadValue)) tNil))) (tCons (tCB (rIsX K) (tCons (tVar 0) (tCons (tC (.ref c.k_Broken)) tNil))) (tCons (tCB (rIsX K) (tCons (tVar 0) (tCons (tC (.ref c.k_Unknown)) tNil))) (tCons (tCB (rIsX K) (tCons (tVar 0) (tCons (tC (.ref c.k_NotHeld)) tNil))) (tCons (tCB (rIsX K) (tCons (tVar 0) (tCons (tC (.ref c.k_Fault)) tNil))) (tCons (tCB (rIsX K) (tCons (tVar 0) (tCons (tC (.ref c.k_NoRoom)) tNil))) (tCons (tCB (rIsX K) (tCons (tVar 0) (tCons (tC (.ref c.k_Cut)) tNil))) (tCons (tCB (rIsX K) (tCons (tVar 0) (tCons (tC (.ref c.k_BadLine)) tNil))) tNil))))))))))))
theorem pure_kinds {K : PySem.W.Frag} {c : Cl} {vs : List V} {H : Hp} {Q : VK} {E : XK} (h : sp_kinds K c vs H Q E) : t_l_kinds K c { nx := fun _ H' => Q .non H', rt := Q } (start N_l_kinds vs) H := by
  obtain ⟨e, d, D, fs, k3, k4, k5, k6, k7, k8, k9, k10, rfl, he, hd, R, k⟩ := h
  unfold t_l_kinds
  fold_lay
  refine i_isX he hd R.ex R.i1 ?_
  fold_lay
  refine i_isXt he hd R.ex R.i2 ?_
  fold_lay
  refine i_isX he hd R.ex R.i3 ?_
  fold_lay
  refine i_isX he hd R.ex R.i4 ?_
  fold_lay
  refine i_isX he hd R.ex R.i5 ?_
  fold_lay
  refine i_isX he hd R.ex R.i6 ?_
  fold_lay
  refine i_isX he hd R.ex R.i7 ?_
  fold_lay
  refine i_isX he hd R.ex R.i8 ?_
  fold_lay
  refine i_isX he hd R.ex R.i9 ?_
  fold_lay
  refine i_isX he hd R.ex R.i10 ?_
  fold_lay
  rename_i p hp
  exact k p hp
/-- BadValue, all that is asked of it -/
structure BvK (K : PySem.W.Frag) (c : Cl) : Prop where
  bv : BvC K c.k_BadValue
  kd : ExK K c c.k_BadValue true false false false false false false false
  ht : PySem.W.exmOne K (.ref c.k_BadValue) (.ref c.k_BadValue) = some true
def yes (t : Str) : List Bool := titles.map fun s : Str => decide (s = t)
def refD2 (t : Str) (fd : Dt) : Dt := .lst [.str "refused", .tup [.str t, fd], fd, .lst (([true, true] ++ yes t).map Dt.bl)]
theorem yes_bad : yes "BadValue" = [true, false, false, false, false, false, false, false] := by decide +kernel
def sp_refused : Sp := fun vs H Q _ => ∃ (t : Str) (v : V) (fd : Dt), vs = [.str t, v] ∧ At H v fd ∧ ∀ w H', At H' w (refD2 t fd) → Same H H' → Q w H'
theorem c_refused {t : Str} {v : V} {fd : Dt} {H : Hp} {Q : VK} {E : XK} (h : At H v fd) (k : ∀ w H', At H' w (refD2 t fd) → Same H H' → Q w H') : sp_refused [.str t, v] H Q E := ⟨t, v, fd, rfl, h, k⟩
def N_l_refused : List Str := ["_law_title", "_law_fields", "_law_titles", "_law_one"]
def t_l_refused (K : PySem.W.Frag) : TS := (tSeq (tAsg (tLst (tCons (tC (.str "BadValue")) (tCons (tC (.str "Broken")) (tCons (tC (.str "Unknown")) (tCons (tC (.str "NotHeld")) (tCons (tC (.str "Fault")) (tCons (tC (.str "NoRoom")) (tCons (tC (.str "Cut")) (tCons (tC (.str "BadLine")) tNil))))))))) (gName 2))
  (tRet (tLst (tCons (tC (.str "refused")) (tCons (tTup (tCons (tVar 0) (tCons (tVar 1) tNil))) (tCons (tVar 1) (tCons (tOp rCat (tLst (tCons (tC (.bl true)) (tCons (tC (.bl true)) tNil))) (tLc (iList K (tVar 2)) (gName 3) tYes (tOp rEq (tVar 3) (tVar 0)) [3])) tNil)))))))
theorem pure_refused {K : PySem.W.Frag} {vs : List V} {H : Hp} {Q : VK} {E : XK} (h : sp_refused vs H Q E) : t_l_refused K { nx := fun _ H' => Q .non H', rt := Q } (start N_l_refused vs) H := by
  obtain ⟨t, v, fd, rfl, hv, k⟩ := h
  unfold t_l_refused
  fold_lay
  rename_i p hp q hq r hr
  have s1 : Same H (upd H p (.lst [.str "BadValue", .str "Broken", .str "Unknown", .str "NotHeld", .str "Fault", .str "NoRoom", .str "Cut", .str "BadLine"])) := same_new hp
  have s2 : Same H (upd (upd H p (.lst [.str "BadValue", .str "Broken", .str "Unknown", .str "NotHeld", .str "Fault", .str "NoRoom", .str "Cut", .str "BadLine"])) q (.tup [.str t, v])) := s1.trans (same_new hq)
  have s3 : Same H (upd (upd (upd H p (.lst [.str "BadValue", .str "Broken", .str "Unknown", .str "NotHeld", .str "Fault", .str "NoRoom", .str "Cut", .str "BadLine"])) q (.tup [.str t, v])) r (.lst [.bl true, .bl true])) := s2.trans (same_new hr)
  have hp3 : upd (upd (upd H p (.lst [.str "BadValue", .str "Broken", .str "Unknown", .str "NotHeld", .str "Fault", .str "NoRoom", .str "Cut", .str "BadLine"])) q (.tup [.str t, v])) r (.lst [.bl true, .bl true]) p = some (.lst [.str "BadValue", .str "Broken", .str "Unknown", .str "NotHeld", .str "Fault", .str "NoRoom", .str "Cut", .str "BadLine"]) := upd_keep hr (upd_keep hq upd_same)
  have hq3 : upd (upd (upd H p (.lst [.str "BadValue", .str "Broken", .str "Unknown", .str "NotHeld", .str "Fault", .str "NoRoom", .str "Cut", .str "BadLine"])) q (.tup [.str t, v])) r (.lst [.bl true, .bl true]) q = some (.tup [.str t, v]) := upd_keep hr upd_same
  have hr3 : upd (upd (upd H p (.lst [.str "BadValue", .str "Broken", .str "Unknown", .str "NotHeld", .str "Fault", .str "NoRoom", .str "Cut", .str "BadLine"])) q (.tup [.str t, v])) r (.lst [.bl true, .bl true]) r = some (.lst [.bl true, .bl true]) := upd_same
  generalize upd (upd (upd H p (.lst [.str "BadValue", .str "Broken", .str "Unknown", .str "NotHeld", .str "Fault", .str "NoRoom", .str "Cut", .str "BadLine"])) q (.tup [.str t, v])) r (.lst [.bl true, .bl true]) = H3 at s3 hp3 hq3 hr3
  have hp3 : H3 p = some (.lst (titles.map V.str)) := hp3
  refine c_lst (xs := titles.map V.str) (sqL hp3) (m_lst (xs := titles.map V.str) (fun D i H' => Same H3 H' ∧ H3 D = none ∧ H' D = some (.lst (((titles.take i).map (fun s : Str => decide (s = t))).map V.bl))) ?_ ?_ ?_ ?_)
  · exact fun D hD => ⟨same_new hD, hD, upd_same⟩
  · exact fun D i H' _ h => sqL (h.1 _ _ hp3)
  · rintro D i x H' hx ⟨a1, a2, a3⟩
    obtain ⟨z, hz, rfl⟩ := getS hx
    fold_lay
    refine ⟨rfl, ?_⟩
    fold_lay
    refine ⟨_, a3, szl (by have : titles.length = 8 := rfl; simp; omega), ?_, a2, ?_⟩
    · exact fun b o e => upd_off (ne_of_none e a2) (a1 b o e)
    · rw [upd_same, take_more hz, List.map_append, List.map_append]
      rfl
  · rintro D H' ⟨a1, a2, a3⟩
    rw [List.length_map, List.take_length] at a3
    refine i_cat (a1 _ _ hr3) a3 (by have : titles.length = 8 := rfl; simp; omega) fun l hl => ?_
    fold_lay
    rename_i m hm
    have s5 := (a1.trans (same_new (o := .lst ([.bl true, .bl true] ++ (titles.map (fun s : Str => decide (s = t))).map V.bl)) hl)).trans (same_new (o := .lst [.str "refused", .ref q, v, .ref l]) hm)
    refine k _ _ (.lst upd_same (.cons (.str _) (.cons (.tup (s5 _ _ hq3) (.cons (.str _) (.cons (hv.mono (s3.trans s5)) .nil))) (.cons (hv.mono (s3.trans s5)) (.cons (.lst (upd_keep hm upd_same) ?_) .nil))))) (s3.trans s5)
    have := Ats_bls (H := upd (upd H' l (.lst ([.bl true, .bl true] ++ (titles.map (fun s : Str => decide (s = t))).map V.bl))) m (.lst [.str "refused", .ref q, v, .ref l])) ([true, true] ++ yes t)
    rw [List.map_append] at this
    exact this
/-! ## Plain -/
/-! ### any integer, text, plain value -/
def rJoin (K : PySem.W.Frag) : V → List V → Hp → VK → Prop := fun x xs H Q => ∃ a p, ∃ ys : List Str, x = .str a ∧ xs = [.ref p] ∧ (SqL K H p (ys.map V.str) ∨ SqT K H p (ys.map V.str)) ∧ (ys.map (·.length)).sum + ys.length * a.length ≤ 16777216 ∧ Q (.str (Txt.join a ys)) H
instance s_m1 {r : V → List V → Hp → VK → Prop} {to te : TE} {σ : St} {H : Hp} {Q : VK} : Stp (tM1 r to te σ H Q) (to σ H fun x H1 => (∃ a, x = .str a) ∧ te σ H1 fun y H2 => r x [y] H2 Q) := ⟨fun h => h⟩
/-- no integer that is drawn is above -/
def big : Int := 2 ^ 3400
theorem big_lng : lng + 10000000000000000000000000000000000000000000000000000000000000000 ≤ big := by decide +kernel
theorem big_ten : 100000000000000000000000000000000000000000000000000000000000000000000 ≤ big := by decide +kernel
def Dt.sm : Dt → Prop
  | .int i => i ≤ big
  | _ => True
def sp_integer : Sp := fun vs H Q _ => ∃ (d s : Addr), vs = [.ref d] ∧ Dr d s H ∧ ∀ i H', i ≤ big → Dr d s H' → Same (hid s H) (hid s H') → Q (.int i) H'
theorem c_integer {d s : Addr} {H : Hp} {Q : VK} {E : XK} (hD : Dr d s H) (k : ∀ i H', i ≤ big → Dr d s H' → Same (hid s H) (hid s H') → Q (.int i) H') : sp_integer [.ref d] H Q E := ⟨d, s, rfl, hD, k⟩
theorem ten64 : (10 : Int) ^ (64 : Int).toNat = 10000000000000000000000000000000000000000000000000000000000000000 := by decide +kernel
theorem ten9 : (10 : Int) ^ (9 : Int).toNat = 1000000000 := by decide
def N_l_integer : List Str := ["_law_draws_here", "_law_kind", "_law_value"]
def t_l_integer (K : PySem.W.Frag) : TS := (tSeq (tAsg (tCall sp_take [] E0 (tCons (tVar 0) (tCons (tC (.int 8)) tNil))) (gName 1))
  (tSeq (tIfS (tTest (tOp oLt (tVar 1) (tC (.int 4)))) (tRet (tOp oSub (tCall sp_take [] E0 (tCons (tVar 0) (tCons (tC (.int 12)) tNil))) (tC (.int 2)))) tNext)
  (tSeq (tIfS (tTest (tOp rEq (tVar 1) (tC (.int 4)))) (tRet (tCall sp_take [] E0 (tCons (tVar 0) (tCons (tC (.int 70000)) tNil)))) tNext)
  (tSeq (tIfS (tTest (tOp rEq (tVar 1) (tC (.int 5)))) (tRet (tCall sp_take [] E0 (tCons (tVar 0) (tCons (tOp oAdd (tOp oPow (tC (.int 10)) (tC (.int 9))) (tC (.int 10))) tNil)))) tNext)
  (tSeq (tAsg (tOp oAdd (tOp oPow (tC (.int 10)) (tC (.int 30))) (tCall sp_take [] E0 (tCons (tVar 0) (tCons (tOp oPow (tC (.int 10)) (tC (.int 30))) tNil)))) (gName 2))
  (tSeq (tIfS (tTest (tOp rEq (tVar 1) (tC (.int 7)))) (tAsg (tOp oAdd (tCall sp_long [] E0 tNil) (tCall sp_take [] E0 (tCons (tVar 0) (tCons (tOp oPow (tC (.int 10)) (tC (.int 64))) tNil)))) (gName 2)) tNext)
  (tSeq (tIfS (tTest (tOp rEq (tCall sp_take [] E0 (tCons (tVar 0) (tCons (tC (.int 2)) tNil))) (tC (.int 1)))) (tRet (tUn oNeg (tVar 2))) tNext)
  (tRet (tVar 2)))))))))
theorem pure_integer {K : PySem.W.Frag} {vs : List V} {H : Hp} {Q : VK} {E : XK} (h : sp_integer vs H Q E) : t_l_integer K { nx := fun _ H' => Q .non H', rt := Q } (start N_l_integer vs) H := by
  obtain ⟨d, s, rfl, hD, k⟩ := h
  have b1 := big_lng
  have b2 := big_ten
  unfold t_l_integer
  fold_lay
  refine c_take hD (by omega) fun kd H1 _ _ hD1 s1 => ?_
  fold_lay; fold_depth
  refine i_ifd (fun _ => ?_) (fun _ => ?_)
  · fold_lay
    refine c_take hD1 (by omega) fun w H2 w0 w1 hD2 s2 => ?_
    fold_lay
    exact k _ _ (by omega) hD2 (by mem_news)
  fold_lay; fold_depth
  refine i_ifd (fun _ => ?_) (fun _ => ?_)
  · fold_lay
    exact c_take hD1 (by omega) fun w H2 w0 w1 hD2 s2 => k _ _ (by omega) hD2 (by mem_news)
  fold_lay; fold_depth
  refine i_ifd (fun _ => ?_) (fun _ => ?_)
  · fold_lay
    rw [ten9]
    exact c_take hD1 (by omega) fun w H2 w0 w1 hD2 s2 => k _ _ (by omega) hD2 (by mem_news)
  fold_lay
  rw [ten30]
  refine c_take hD1 (by omega) fun w H2 w0 w1 hD2 s2 => ?_
  fold_lay
  refine i_cut (fun σ' H' => ∃ x, 0 ≤ x ∧ x ≤ big ∧ σ' = [some (.ref d), some (.int kd), some (.int x)] ∧ Dr d s H' ∧ Same (hid s H) (hid s H')) ?_ (fun nx key => ?_)
  rotate_left
  · fold_lay
    refine i_ifd (fun _ => ?_) (fun _ => ?_)
    · fold_lay
      refine ⟨rfl, ?_⟩
      fold_lay
      rw [ten64]
      refine c_take hD2 (by omega) fun w2 H3 w20 w21 hD3 s3 => ?_
      fold_lay
      have b3 := lng_big
      exact key _ _ ⟨_, by omega, by omega, rfl, hD3, by mem_news⟩
    · fold_lay
      exact key _ _ ⟨_, by omega, by omega, rfl, hD2, by mem_news⟩
  rintro σ' H3 ⟨x, x0, x1, rfl, hD3, s3⟩
  fold_depth
  refine c_take hD3 (by omega) fun w2 H4 _ _ hD4 s4 => ?_
  fold_lay
  refine i_ifd (fun _ => ?_) (fun _ => ?_)
  · fold_lay
    exact k _ _ (by omega) hD4 (by mem_news)
  · fold_lay
    exact k _ _ (by omega) hD4 (by mem_news)
def chs : Str := Str.ofString " !\"#$&'()*+,-./0123456789:;<=>?@ABCDEFGHIJKLMNOPQRSTUVWXYZ[\\]^_`" ++ Str.ofString "abcdefghijklmnopqrstuvwxyz{|}~\n"
theorem chs_len : chs.length = 95 := by decide +kernel
theorem chs_lenL : chs.cps.toList.length = 95 := by decide +kernel
def sp_chars : Sp := fun vs H Q _ => vs = [] ∧ Q (.str chs) H
def N_l_chars : List Str := ["_law_chars_here"]
def t_l_chars (K : PySem.W.Frag) : TS := (tSeq (tAsg (tC (.str " !\"#$&'()*+,-./0123456789:;<=>?@ABCDEFGHIJKLMNOPQRSTUVWXYZ[\\]^_`")) (gName 0))
  (tRet (tOp oAddS (tVar 0) (tC (.str "abcdefghijklmnopqrstuvwxyz{|}~\n")))))
theorem pure_chars {K : PySem.W.Frag} {vs : List V} {H : Hp} {Q : VK} {E : XK} (h : sp_chars vs H Q E) : t_l_chars K { nx := fun _ H' => Q .non H', rt := Q } (start N_l_chars vs) H := by
  obtain ⟨rfl, k⟩ := h
  unfold t_l_chars
  fold_lay
  exact ⟨_, _, rfl, rfl, sz (by decide +kernel), k⟩
def sp_text : Sp := fun vs H Q _ => ∃ (d s : Addr) (m : Int), vs = [.ref d, .int m] ∧ Dr d s H ∧ m ≤ 1000 ∧ ∀ x H', Dr d s H' → Same (hid s H) (hid s H') → Q (.str x) H'
theorem c_text {d s : Addr} {m : Int} {H : Hp} {Q : VK} {E : XK} (hD : Dr d s H) (hm : m ≤ 1000) (k : ∀ x H', Dr d s H' → Same (hid s H) (hid s H') → Q (.str x) H') : sp_text [.ref d, .int m] H Q E := ⟨d, s, m, rfl, hD, hm, k⟩
theorem sum_ones : ∀ {ys : List Str}, (∀ y ∈ ys, y.length = 1) → (ys.map (·.length)).sum = ys.length
  | [], _ => rfl
  | y :: r, h => by
    have e := h y (by simp)
    rw [List.map_cons, List.sum_cons, sum_ones (fun z hz => h z (by simp [hz]))]
    show y.length + r.length = r.length + 1
    omega
def N_l_text : List Str := ["_law_draws_here", "_law_most", "_law_chars_here", "_law_k"]
def t_l_text (K : PySem.W.Frag) : TS := (tSeq (tAsg (tCall sp_chars [] E0 tNil) (gName 2))
  (tRet (tM1 (rJoin K) (tC (.str "")) (tLc (iRng1 (tCons (tCall sp_between [] E0 (tCons (tVar 0) (tCons (tC (.int 0)) (tCons (tVar 1) tNil)))) tNil)) (gName 3) tYes (tOp rIxS (tVar 2) (tCall sp_take [] E0 (tCons (tVar 0) (tCons (tC (.int 95)) tNil)))) [3]))))
theorem pure_text {K : PySem.W.Frag} {vs : List V} {H : Hp} {Q : VK} {E : XK} (h : sp_text vs H Q E) : t_l_text K { nx := fun _ H' => Q .non H', rt := Q } (start N_l_text vs) H := by
  obtain ⟨d, s, m, rfl, hD, hm, k⟩ := h
  unfold t_l_text
  fold_lay
  refine ⟨rfl, ?_⟩
  fold_lay
  refine ⟨⟨_, rfl⟩, ?_⟩
  fold_lay
  refine c_between hD (by omega) fun n H1 n0 n1 hD1 s1 => ?_
  fold_lay
  refine c_rng1 (by omega) (by omega) (m_rng (fun D i H' => Dr d s H' ∧ Same (hid s H1) (hid s H') ∧ H1 D = none ∧ ∃ ys : List Str, ys.length = i ∧ (∀ y ∈ ys, y.length = 1) ∧ H' D = some (.lst (ys.map V.str))) ?_ ?_ ?_)
  · exact fun D hD0 => ⟨by leaf_len, by mem_news, hD0, [], rfl, by simp, upd_same⟩
  · rintro D i H' hi ⟨hD', s', hD0, ys, hl, h1, hys⟩
    fold_lay
    refine ⟨rfl, ?_⟩
    fold_lay
    refine c_take hD' (by omega) fun v H2 v0 v1 hD2 s2 => ?_
    obtain ⟨cc, hc⟩ : ∃ cc, chs.cps.toList[v.toNat]? = some cc := ⟨_, List.getElem?_eq_getElem (by rw [chs_lenL]; omega)⟩
    refine ⟨chs, v, cc, rfl, rfl, sz (by rw [chs_len]; omega), (by rw [show v = ((v.toNat : Nat) : Int) by omega]; exact atI_nat hc), ?_⟩
    have nD : D ≠ s := hD1.ne hD0
    have hys2 : H2 D = some (.lst (ys.map V.str)) := by kct_strs
    refine ⟨_, hys2, szl (by rw [List.length_map]; omega), hD1.upd hD0 (by mem_news) hD2, hid_step hD0 (by mem_news), hD0, ys ++ [⟨#[cc]⟩], by rw [List.length_append, hl]; rfl, fun y hy => ?_, ?_⟩
    · rcases List.mem_append.mp hy with hy | hy
      · exact h1 y hy
      · rw [List.mem_singleton.mp hy]
        rfl
    · rw [upd_same, List.map_append]
      rfl
  · rintro D H' ⟨hD', s', hD0, ys, hl, h1, hys⟩
    refine ⟨_, D, ys, rfl, rfl, .inl (sqL hys), ?_, k _ _ hD' (by mem_news)⟩
    rw [sum_ones h1]
    show ys.length + ys.length * 0 ≤ _
    omega
def sp_plain : Nat → Sp
  | 0 => fun _ _ _ _ => False
  | n + 1 => fun vs H Q _ => ∃ (d s : Addr) (m : Nat), vs = [.ref d, .int m] ∧ m ≤ n ∧ Dr d s H ∧ ∀ v dt H', At (nw H H') v dt → dt.dep ≤ 2 * m + 2 → dt.okd = true → dt.sm → Dr d s H' → Same (hid s H) (hid s H') → Q v H'
theorem c_plain {n m : Nat} {d s : Addr} {H : Hp} {Q : VK} {E : XK} (hm : m ≤ n) (hD : Dr d s H) (k : ∀ v dt H', At (nw H H') v dt → dt.dep ≤ 2 * m + 2 → dt.okd = true → dt.sm → Dr d s H' → Same (hid s H) (hid s H') → Q v H') : sp_plain (n + 1) [.ref d, .int m] H Q E := ⟨d, s, m, rfl, hm, hD, k⟩
theorem depL_snoc : ∀ {l : List Dt} {d : Dt}, Dt.depL (l ++ [d]) = max (Dt.depL l) d.dep
  | [], d => by simp [Dt.depL]
  | x :: r, d => by
    rw [List.cons_append, Dt.depL, depL_snoc, Dt.depL]
    omega
theorem okL_snoc : ∀ {l : List Dt} {d : Dt}, Dt.okL (l ++ [d]) = (Dt.okL l && d.okd)
  | [], d => by simp [Dt.okL]
  | x :: r, d => by rw [List.cons_append, Dt.okL, okL_snoc, Dt.okL, Bool.and_assoc]
/-- what was new since H1 stays beside a growing row at D -/
theorem row_old {d s D : Addr} {H1 H' H2 : Hp} {o : HO} (h : Dr d s H1) (k : Same (hid s H') (hid s H2)) : Same (hid D (nw H1 H')) (hid D (nw H1 (upd H2 D o))) := fun b u e => by
  obtain ⟨e1, e2⟩ := hid_of e
  obtain ⟨e3, e4⟩ := nw_of e1
  exact hid_to (nw_to e3 (upd_off e2 (hget k (h.ne e3) e4))) e2
theorem row_new {d s D : Addr} {H1 H' H2 : Hp} {o o1 : HO} (h : Dr d s H') (k : Same (hid s H1) (hid s H')) (hD : H' D = some o1) : Same (nw H' H2) (hid D (nw H1 (upd H2 D o))) := fun b u e => by
  obtain ⟨e3, e4⟩ := nw_of e
  have nb : b ≠ D := fun z => by
    rw [z, hD] at e3
    cases e3
  exact hid_to (nw_to (dead2 e3 h k) (upd_off nb e4)) nb
theorem hid_nw {H H' : Hp} {D : Addr} : Same (hid D (nw H H')) (nw H H') := hid_same
def N_l_plain : List Str := ["_law_draws_here", "_law_deep", "_law_kind", "_law_parts", "_law_k"]
def t_l_plain (K : PySem.W.Frag) (n : Nat) : TS := (tSeq (tAsg (tCall sp_take [] E0 (tCons (tVar 0) (tCons (tC (.int 10)) tNil))) (gName 2))
  (tSeq (tIfS (tTest (tOp rEq (tVar 2) (tC (.int 0)))) (tRet (tC .non)) tNext)
  (tSeq (tIfS (tTest (tOp rEq (tVar 2) (tC (.int 1)))) (tRet (tOp rEq (tCall sp_take [] E0 (tCons (tVar 0) (tCons (tC (.int 2)) tNil))) (tC (.int 0)))) tNext)
  (tSeq (tIfS (tTest (tOp oLt (tVar 2) (tC (.int 5)))) (tRet (tCall sp_integer [] E0 (tCons (tVar 0) tNil))) tNext)
  (tSeq (tIfS (tTest (tOp rEq (tVar 2) (tC (.int 5)))) (tRet (tCall sp_text [] E0 (tCons (tVar 0) (tCons (tC (.int 4)) tNil)))) tNext)
  (tSeq (tAsg (tLst tNil) (gName 3))
  (tSeq (tIfS (tTest (tOp oGt (tVar 1) (tC (.int 0)))) (tAsg (tLc (iRng1 (tCons (tCall sp_take [] E0 (tCons (tVar 0) (tCons (tC (.int 4)) tNil))) tNil)) (gName 4) tYes (tCall (sp_plain n) [] E0 (tCons (tVar 0) (tCons (tOp oSub (tVar 1) (tC (.int 1))) tNil))) [4]) (gName 3)) tNext)
  (tSeq (tIfS (tTest (tOp oLt (tVar 2) (tC (.int 8)))) (tRet (tCB (rTupleOf K) (tCons (tVar 3) tNil))) tNext)
  (tSeq (tIfS (tTest (tOp rEq (tVar 2) (tC (.int 8)))) (tRet (tVar 3)) tNext)
  (tRet (tDisp [((tC (.str "a")), (tVar 3))])))))))))))
theorem pure_plain {K : PySem.W.Frag} {n : Nat} {vs : List V} {H : Hp} {Q : VK} {E : XK} (h : sp_plain (n + 1) vs H Q E) : t_l_plain K n { nx := fun _ H' => Q .non H', rt := Q } (start N_l_plain vs) H := by
  obtain ⟨d, s, n', rfl, hn, hD, k⟩ := h
  unfold t_l_plain
  fold_lay
  refine c_take hD (by omega) fun kd H1 _ _ hD1 s1 => ?_
  fold_lay; fold_depth
  refine i_ifd (fun _ => ?_) (fun _ => ?_)
  · fold_lay
    exact k _ _ _ .non (Nat.zero_le _) rfl trivial hD1 s1
  fold_lay; fold_depth
  refine i_ifd (fun _ => ?_) (fun _ => ?_)
  · fold_lay
    refine c_take hD1 (by omega) fun w H2 _ _ hD2 s2 => ?_
    fold_lay
    exact k _ _ _ (.bl _) (Nat.zero_le _) rfl trivial hD2 (by mem_news)
  fold_lay; fold_depth
  refine i_ifd (fun _ => ?_) (fun _ => ?_)
  · fold_lay
    exact c_integer hD1 fun i H2 ib hD2 s2 => k _ _ _ (.int i) (Nat.zero_le _) rfl ib hD2 (by mem_news)
  fold_lay; fold_depth
  refine i_ifd (fun _ => ?_) (fun _ => ?_)
  · fold_lay
    exact c_text hD1 (by omega) fun x H2 hD2 s2 => k _ _ _ (.str x) (Nat.zero_le _) rfl trivial hD2 (by mem_news)
  fold_lay
  rename_i l hl
  have hD2 := hD1.same (same_new (o := .lst []) hl)
  refine i_cut (fun σ' H' => ∃ (D : Addr) (ys : List V) (ds : List Dt) (x : Option V), σ' = [some (.ref d), some (.int n'), some (.int kd), some (.ref D), x] ∧ Dr d s H' ∧ Same (hid s H) (hid s H') ∧ H D = none ∧ H' D = some (.lst ys) ∧ Ats (nw H H') ys ds ∧ Dt.depL ds ≤ 2 * n' ∧ Dt.okL ds = true ∧ ds.length ≤ 4) ?_ (fun nx key => ?_)
  rotate_left
  · fold_lay
    refine i_ifd (fun g => ?_) (fun g => ?_)
    · fold_lay
      refine c_take hD2 (by omega) fun w H3 w0 w1 hD3 s3 => ?_
      fold_lay
      have s13 : Same (hid s H) (hid s H3) := by mem_news
      obtain ⟨m, rfl⟩ : ∃ m, n' = m + 1 := ⟨n' - 1, by omega⟩
      obtain ⟨n, rfl⟩ : ∃ m, n = m + 1 := ⟨n - 1, by omega⟩
      refine c_rng1 (by omega) (by omega) (m_rng (fun D i H' => Dr d s H' ∧ Same (hid s H3) (hid s H') ∧ H3 D = none ∧ ∃ ys ds, H' D = some (.lst ys) ∧ Ats (hid D (nw H3 H')) ys ds ∧ Dt.depL ds ≤ 2 * m + 2 ∧ Dt.okL ds = true ∧ ds.length = i) ?_ ?_ ?_)
      · exact fun D hD0 => ⟨by leaf_len, by mem_news, hD0, [], [], upd_same, .nil, Nat.zero_le _, rfl, rfl⟩
      · rintro D i H' hi ⟨hD', s', hD0, ys, ds, hys, hat, h1, h2, h3⟩
        fold_lay
        refine ⟨rfl, ?_⟩
        fold_lay
        rw [show ((m + 1 : Nat) : Int) - 1 = (m : Int) by omega]
        refine c_plain (by omega) hD' fun v dt H4 hv v1 v2 _ hD4 s4 => ?_
        fold_lay
        have nD : D ≠ s := hD3.ne hD0
        have hys4 : H4 D = some (.lst ys) := by kct_strs
        have yl := hat.length
        refine ⟨_, hys4, szl (by omega), hD3.upd hD0 (by mem_news) hD4, hid_step hD0 (by mem_news), hD0, ys ++ [v], ds ++ [dt], upd_same, (hat.mono (row_old hD3 s4)).snoc (hv.mono (row_new hD' s' hys)), ?_, ?_, ?_⟩
        · rw [depL_snoc]
          omega
        · rw [okL_snoc, h2, v2]
          rfl
        · rw [List.length_append, h3]
          rfl
      · rintro D H' ⟨hD', s', hD0, ys, ds, hys, hat, h1, h2, h3⟩
        fold_lay
        exact key _ _ ⟨D, ys, ds, _, rfl, hD', by mem_news, by nest_room, hys, (hat.mono hid_nw).mono (nw_wide hD3 s13 (Same.refl _)), h1, h2, by omega⟩
    · fold_lay
      exact key _ _ ⟨l, [], [], _, rfl, hD2, by mem_news, by nest_room, upd_same, .nil, Nat.zero_le _, rfl, by simp⟩
  rintro σ' H3 ⟨D, ys, ds, x, rfl, hD3, s3, hD0, hys, hat, h1, h2, h3⟩
  have okl : Dt.okd (.lst ds) = true := by
    rw [Dt.okd, h2, decide_eq_true (by omega)]
    rfl
  fold_depth
  refine i_ifd (fun _ => ?_) (fun _ => ?_)
  · fold_lay
    refine ⟨D, ys, rfl, .inl ⟨sqL hys, fun p hp => ?_⟩⟩
    have hp0 : H p = none := by nest_room
    exact k _ (.tup ds) _ (.tup (nw_to hp0 upd_same) (hat.mono (nw_wide0 (Same.refl _) (same_new hp)))) (by rw [Dt.dep]; omega) okl trivial (by leaf_len) (by mem_news)
  fold_lay; fold_depth
  refine i_ifd (fun _ => ?_) (fun _ => ?_)
  · fold_lay
    exact k _ (.lst ds) _ (.lst (nw_to hD0 hys) hat) (by rw [Dt.dep]; omega) okl trivial hD3 s3
  · fold_lay
    refine i_disp1V rfl fun p hp => ?_
    have hp0 : H p = none := by nest_room
    refine k _ (.dic [("a", .lst ds)]) _ (.dic (nw_to hp0 upd_same) (.cons (.lst (nw_to hD0 (upd_keep hp hys)) (hat.mono (nw_wide0 (Same.refl _) (same_new hp)))) .nil)) ?_ ?_ trivial (by leaf_len) (by mem_news)
    · simp only [Dt.dep, Dt.depK]
      omega
    · simp only [Dt.okd, Dt.okK] at okl ⊢
      simp [okl]
/-! ## Told4 -/
/-! ### the except suite that tells a refusal as a row -/
def tRefu (K : PySem.W.Frag) (c : Cl) (i : Nat) : TS := tRet (tLst (tCons (tC (.str "refused")) (tCons (tXt K "told" (tVar i)) (tCons (tTup (tCons (tXt K "parameter" (tVar i)) tNil)) (tCons (tCall (sp_kinds K c) [] E0 (tCons (tVar i) tNil)) tNil)))))
theorem refu {K : PySem.W.Frag} {c : Cl} {i : Nat} {σ : St} {H : Hp} {t : Str} {d e : Addr} {nx bk ct : St → Hp → Prop} {rt : VK} (R : BvK K c) (hσ : σ[i]? = some (some (.ref e))) (he : H e = none) (hB : BadAt H d (.str t)) (k : ∀ v H', At H' v (refD2 "BadValue" (.tup [.str t])) → Same H H' → rt v H') :
    tRefu K c i ⟨nx, rt, bk, ct⟩ σ (upd H e (exi e (.ref c.k_BadValue) (some d))) := by
  obtain ⟨u1, u2, g1, g2, g3⟩ := hB
  unfold tRefu
  fold_lay
  refine i_var hσ ?_
  refine ⟨e, c.k_BadValue, d, _, .ref u2, rfl, upd_same, R.kd.xf, R.bv.nt, upd_keep he g1, lk_told, ?_⟩
  fold_lay
  refine i_var hσ ?_
  refine ⟨e, c.k_BadValue, d, _, .str t, rfl, upd_same, R.kd.xf, R.bv.np, upd_keep he g1, lk_param, ?_⟩
  fold_lay
  rename_i p hp
  refine i_var hσ ?_
  fold_lay
  refine ⟨e, d, c.k_BadValue, _, true, false, false, false, false, false, false, false, rfl, upd_keep hp upd_same, upd_keep hp (upd_keep he g1), R.kd, fun q hq => ?_⟩
  fold_lay
  rename_i r hr
  refine k _ _ (.lst upd_same (.cons (.str _) (.cons (.tup (by kct_strs) (.cons (.str _) (.cons (.tup (by kct_strs) (.cons (.str _) .nil)) .nil))) (.cons (.tup (by kct_strs) (.cons (.str _) .nil)) (.cons (.lst (by kct_strs) ?_) .nil))))) (by mem_news)
  rw [yes_bad]
  exact Ats_bls _
/-! ## Span0 -/
/-! ### spans -/
abbrev spanD (a n : Int) : Dt := .tup [.int a, .int n]
def okS (a n : Int) : Bool := decide (0 ≤ a) && (decide (1 ≤ n) && decide (a + n ≤ 1000000000))
def isSpan : Dt → Bool
  | .tup [.int a, .int n] => okS a n
  | _ => false
theorem okS_iff {a n : Int} : okS a n = true ↔ 0 ≤ a ∧ 1 ≤ n ∧ a + n ≤ 1000000000 := by
  simp [okS]
theorem isSpan_of {d : Dt} (h : isSpan d = true) : ∃ a n, d = spanD a n ∧ 0 ≤ a ∧ 1 ≤ n ∧ a + n ≤ 1000000000 := by
  unfold isSpan at h
  split at h
  · exact ⟨_, _, rfl, okS_iff.mp h⟩
  · cases h
theorem isSpan_two {d1 d2 : Dt} (h : (d1.isI && d2.isI) = false) : isSpan (.tup [d1, d2]) = false := by
  cases d1 <;> first | rfl | (cases d2 <;> first | rfl | cases h)
theorem AtI2 {H : Hp} {v : V} {x y : Int} (h : At H v (.tup [.int x, .int y])) : ∃ p, v = .ref p ∧ H p = some (.tup [.int x, .int y]) := by
  cases h with
  | @tup r rs _ hr hrs =>
    cases hrs with
    | cons e1 e2 =>
      cases e1
      cases e2 with
      | cons e1 e2 =>
        cases e1
        cases e2
        exact ⟨r, rfl, hr⟩
def sp_is_span (K : PySem.W.Frag) : Sp := fun vs H Q _ => ∃ (v : V) (d : Dt), vs = [v] ∧ At H v d ∧ Q (.bl (isSpan d)) H
theorem c_is_span {K : PySem.W.Frag} {v : V} {d : Dt} {H : Hp} {Q : VK} {E : XK} (h : At H v d) (q : Q (.bl (isSpan d)) H) : sp_is_span K [v] H Q E := ⟨v, d, rfl, h, q⟩
def N_p_is_span : List Str := ["value", "start", "size"]
def t_p_is_span (K : PySem.W.Frag) : TS := (tSeq (tIfS (tOr (tNot (tB (tCB (rIsi K) (tCons (tVar 0) (tCons (tC (.ty "tuple")) tNil))))) (tTest (tOp rNe (tCB (rLen K) (tCons (tVar 0) tNil)) (tC (.int 2))))) (tRet (tC (.bl false))) tNext)
  (tSeq (tAsg (tVar 0) (gTup K 2 (gCons (gName 1) (gCons (gName 2) gNil))))
  (tSeq (tIfS (tOr (tNot (tB (tCall (sp_is_whole K) [] E0 (tCons (tVar 1) tNil)))) (tNot (tB (tCall (sp_is_whole K) [] E0 (tCons (tVar 2) tNil))))) (tRet (tC (.bl false))) tNext)
  (tRet (tAndV (tOp oGe (tVar 1) (tC (.int 0))) (tAndV (tOp oGe (tVar 2) (tC (.int 1))) (tOp oLe (tOp oAdd (tVar 1) (tVar 2)) (tC (.int 1000000000)))))))))
theorem isSpan_len {ds : List Dt} (h : ¬ ds.length = 2) : isSpan (.tup ds) = false := by
  unfold isSpan
  split
  · rename_i e
    cases e
    exact absurd rfl h
  · rfl
theorem at_two {H : Hp} {xs : List V} {ds : List Dt} (h : Ats H xs ds) (hl : xs.length = 2) : ∃ x y d1 d2, xs = [x, y] ∧ ds = [d1, d2] ∧ At H x d1 ∧ At H y d2 := by
  cases h with
  | nil => cases hl
  | cons h1 hs =>
    cases hs with
    | nil => cases hl
    | cons h2 hs =>
      cases hs with
      | nil => exact ⟨_, _, _, _, rfl, rfl, h1, h2⟩
      | cons _ _ => simp at hl
theorem pure_is_span {K : PySem.W.Frag} {vs : List V} {H : Hp} {Q : VK} {E : XK} (h : sp_is_span K vs H Q E) : t_p_is_span K { nx := fun _ H' => Q .non H', rt := Q } (start N_p_is_span vs) H := by
  obtain ⟨v, d, rfl, h1, k⟩ := h
  unfold t_p_is_span
  have t1 := h1.ty
  cases h1 with
  | non => simp only [Dt.ty] at t1; kbj_rows; exact k
  | bl b => simp only [Dt.ty] at t1; kbj_rows; exact k
  | int i => simp only [Dt.ty] at t1; kbj_rows; exact k
  | str x => simp only [Dt.ty] at t1; kbj_rows; exact k
  | lst ea ha => simp only [Dt.ty] at t1; kbj_rows; exact k
  | dic ea ha => simp only [Dt.ty] at t1; kbj_rows; exact k
  | @tup a xs ds ea ha =>
    simp only [Dt.ty] at t1
    have hl := ha.length
    fold_depth
    refine i_ifn (fun g => ?_) (fun g => ?_)
    · fold_lay
      rw [isSpan_len (by omega)] at k
      exact k
    · obtain ⟨x, y, d1, d2, rfl, rfl, hx, hy⟩ := at_two ha (by omega)
      fold_lay
      fold_depth
      refine c_is_whole hx.ty ?_
      rw [at_isI hx]
      fold_lay
      refine i_ifb (fun g1 => ?_) (fun g1 => ?_)
      · have g1 : d1.isI = false := by simpa using g1
        fold_lay
        rw [isSpan_two (by rw [g1]; rfl)] at k
        exact k
      · have g1 : d1.isI = true := by simpa using g1
        fold_lay
        refine c_is_whole hy.ty ?_
        rw [at_isI hy]
        fold_lay
        refine i_ifb (fun g2 => ?_) (fun g2 => ?_)
        · have g2 : d2.isI = false := by simpa using g2
          fold_lay
          rw [isSpan_two (by rw [g2, Bool.and_false])] at k
          exact k
        · have g2 : d2.isI = true := by simpa using g2
          cases hx <;> first | cases g1 | skip
          cases hy <;> first | cases g2 | skip
          rename_i i j
          fold_lay
          have e : isSpan (.tup [.int i, .int j]) = okS i j := rfl
          rw [e] at k
          unfold okS at k
          refine i_ifd (fun q1 => ?_) (fun q1 => ?_)
          · rw [decide_eq_true q1] at k
            fold_lay
            refine i_ifd (fun q2 => ?_) (fun q2 => ?_)
            · rw [decide_eq_true q2] at k
              fold_lay
              exact k
            · rw [decide_eq_false q2] at k
              exact k
          · rw [decide_eq_false q1] at k
            exact k
/-! ## Raise -/
/-! ### raising, where it is told of the exception that its context is None -/
theorem passLN {X : Cx} : Passes (L2N.CX X.prog X.w) X E0 := fun _ _ _ _ _ _ _ ⟨_, _, _, _, _, _, _, _, _, _, _, _, z⟩ => z.elim
theorem takes0N {X : Cx} : L2N.Takes X (fun _ _ _ _ => False) := fun _ _ ⟨_, _, _, _, _, _, _, _, _, _, _, _, _, _, _, _, z⟩ => z.elim
theorem okXN {P : Program} {w : World} {K : PySem.W.Frag} {mg : Str → Option Value} {base : Heap} {x qual : Str} {st : Stmt} {f : Addr} {fd : FuncData} {N ps : List Str} {k : Nat} {sp : Sp} (F : Fun K x qual st f fd) (S : FnScope N ps (defScope st)) (len : ∀ vs H Q E, sp vs H Q E → vs.length = ps.length)
    (bod : ∀ (cdv : Value) (A : Around) (outer : List Env) (s : Shared) (H : Hp) (vs : List V) (Q : VK) (E : XK), Room k (A.deeper (envOfC qual (defScope st) s.heap.objs.size f cdv)) → sp vs H Q E →
      ∃ t, PSs (cxOf (L2N.CX P w) P w K mg base N qual (defScope st) f cdv A outer s H E) (defBody st) t ∧ t { nx := fun _ H' => Q .non H', rt := Q } (L2.start N vs) H) : FnOk P w K mg base (L2N.CX P w) (k + 1) f fd ps sp := by
  rcases F.ex with ⟨oc, od, kV, doc, pm, an, cdv, ct, osl, rfl, lk, code⟩
  exact fn_of lk code S len fun A outer s H vs Q E => bod cdv A outer s H vs Q E
theorem mk_endN {X : Cx} {pins : List (Addr × Obj)} {σ : St} {G1 G2 : Hp} {Q : XK} {hp hq hr : Heap} {g1 g2 : Array GenState} {d1 d2 : Drawn} {t1 t2 : Nat} {o1 o2 : OsState} {a C d : Addr} {fs : List (Str × V)} (rs : Raises X (.ref C)) (J1 : Inv X pins σ G1 ⟨hp, g1, d1, t1, o1⟩)
    (new : hp.objs.size ≤ a) (keep : ∀ b o, hp.get? b = some o → hq.get? b = some o) (un : Un (frs X.stack) [] (upd G1 a (exo a C none)) G2 hq hr) (ok : HOk X.prog X.w G2 hr) (eo : o2 = o1) (bare : AllBare g2)
    (atE : G2 a = some (exo a C (some d))) (atD : G2 d = some (exd d fs)) (freeD : G1 d = none) (q : Q (.ref C) (some d) (upd (del G2 a) d (.xd fs))) : L2N.MkP X pins σ Q (.ref a) ⟨hr, g2, d2, t2, o2⟩ := by
  obtain ⟨t0, G, J, kG, gN, atR, nE⟩ := mk_end0 (d2 := d2) (t2 := t2) J1 new keep un ok eo bare atE atD freeD
  exact ⟨a, _, _, ⟨G, g2, d2, t2, o2⟩, _, .ref C, some d, rfl, J, kG, gN, atR, ⟨rfl, rfl, fun vs z => by cases z; rfl⟩, rfl, rfl, nE, rfl, bare, rs, q⟩
theorem pmk_oexN {X : Cx} {Y : CXT} {x : Str} {C fI : Addr} {k : Nat} {fd : FuncData} {ps : List Str} {sp : Sp} {ds : List Value} {dvs : List V} {e : Expr} {es : List Expr} {ta : TA} {p pos : Pos} (T : OexC X.K C) (ini : PySem.W.findIn X.K (.ref C) "__init__" = some (some (.ref fI))) (tyI : PySem.W.typeIn X.K (.ref fI) = some (.type "function"))
    (F1 : FnOk X.prog X.w X.K X.mg X.base Y k fI fd ps sp) (room : Room (k + 1) X.A) (hb : Binds X.K fd ps ds) (vd : Vals dvs ds) (out : Passes Y X (fun _ _ _ => False)) (hg : Gl X x) (hm : X.mg x = some (.ref C)) (ha : PA X (e :: es) ta)
    (ndb : (x == ("__debug__" : Str)) = false := by decide) (st1 : starEach (e :: es) X.env = (false, eval e X.env) :: starEach es X.env := by rfl) (st2 : (backTo pos (starEach es X.env)).any (·.1) = false := by rfl) :
    L2N.PMk X (.Call (.Name x p) (e :: es) [] pos) (tMkO C sp dvs ta) := by
  intro pins s σ H Q I h
  rcases T.cls with ⟨nm, qn, N, bs, bm, sn, sub, ab, col, dd, k0, k1, k2, k3, k5, atC, em⟩
  refine wpAny_Call_Name_kw (ld_glob I hg hm ?_ ndb)
  refine PySem.W.callWith_K (h₀ := X.base) I.ok.mod.kin T.kC (thn (ha.run pos pins s σ H _ I h) fun us s1 ⟨vs, G, J, rel, short, pre⟩ => ⟨J.kIn, ?_⟩) st1 st2
  show wpAny _ _ (call (.ref C) us) _ _ _
  rcases s1 with ⟨hp, g, dr, tk, os⟩
  have grown : hp.objs.size ≤ hp.objs.size + 1 := Nat.le_succ _
  have pre1 := pre (hp.objs.size + 1) (J.hok.fresh grown)
  have keep : ∀ b o, hp.get? b = some o → ((hp.push (PySem.W.kdv_tup us)).push (PySem.HandSPX.excO C hp.objs.size)).get? b = some o := fun b o z => Heap.get?_push_of_some _ (Heap.get?_push_of_some _ z)
  have there : ((hp.push (PySem.W.kdv_tup us)).push (PySem.HandSPX.excO C hp.objs.size)).get? (hp.objs.size + 1) = some (PySem.HandSPX.excO C hp.objs.size) := by heap_get
  have J2 : Inv X pins σ (upd G (hp.objs.size + 1) (exo (hp.objs.size + 1) C none)) ⟨(hp.push (PySem.W.kdv_tup us)).push (PySem.HandSPX.excO C hp.objs.size), g, dr, tk, os⟩ :=
    J.laid (t' := tk) (a := hp.objs.size + 1) (o := exo (hp.objs.size + 1) C none) (h' := (hp.push (PySem.W.kdv_tup us)).push (PySem.HandSPX.excO C hp.objs.size)) keep grown (exo_ok there)
  have rel2 : Vals (V.ref (hp.objs.size + 1) :: (vs ++ dvs)) (Value.ref (hp.objs.size + 1) :: (us ++ ds)) := .cons rfl (rel.append vd)
  have many : (Value.ref (hp.objs.size + 1) :: us ++ ds).length = ps.length := (F1.len _ _ _ _ pre1 ▸ rel2.length).symm
  have fits : us.length ≤ sizeLine := by
    have := Paired.length rel
    rw [sizeLine_eq]
    omega
  have J2e := (J2.env0).make C us []
  refine wpAny_call (PySem.HandSPX.call_own F.excBase_ValueError (fun Z => PySem.HandSPX.refsVE_contains Z bm em) (J.kIn _ _ atC) (PySem.W.looks_findIn J.kIn ini) (fun self => PySem.W.bind_fn J.kIn self tyI) fits
    (codeAny_mono (F1.run _ X.stack _ _ ⟨Value.ref (hp.objs.size + 1) :: us, []⟩ (Value.ref (hp.objs.size + 1) :: (us ++ ds)) _ _ (fun _ _ _ => False) (room.make C us []) J2e (hb _ (Value.ref (hp.objs.size + 1) :: us) J2.kIn many) rel2 pre1) fun res sZ post => ?_))
  rcases res with er | fl
  · exact out pins σ _ _ er sZ J2 post
  · cases fl with
    | ret u =>
      obtain ⟨v, G2, osE, bareE, unE, okE, rv, ev, d, fs, atE, atD, freeD, q⟩ := post
      subst ev
      rcases sZ with ⟨h2, g2, d2, t2, osZ⟩
      exact ⟨rv, mk_endN (raises_own T.exC T.tyC) J grown keep unE okE osE bareE atE atD freeD q⟩
    | _ => exact False.elim post
/-! ## Made -/
/-! ### an exception that is made and kept as a value -/
def tMkX (t : St → Hp → XK → Prop) : TE := fun σ H Q => t σ H fun cls d H' => ∀ a, H' a = none → Q (.ref a) (upd H' a (exi a cls d))
theorem pe_mkx {X : Cx} {e : Expr} {t : St → Hp → XK → Prop} (he : L2N.PMk X e t) : PE X e (tMkX t) := by
  constructor
  intro pins s σ H Q I h
  refine thn (he pins s σ H _ I h) fun u s1 hu => ?_
  obtain ⟨a, oe, vs, sI, H', cls, d, rfl, J, k, hne, ha, hz, hd, h1, na, os, ag, r, q⟩ := hu
  have I2 := J.laidN (t' := s1.toks) (o := exi a cls d) k hne na (exi_ok ha hz hd)
  exact ⟨.ref a, upd H' a (exi a cls d), ⟨I2.ok, os.trans J.os, ag, I2.base, I2.loc, I2.cell, I2.free, I2.freeC, I2.pin, I2.hok, I2.len⟩, rfl, q a na⟩
theorem FnU.ok {P : Program} {w : World} {K : PySem.W.Frag} {mg : Str → Option Value} {base : Heap} {k : Nat} {f : Addr} {fd : FuncData} {ps : List Str} {sp : Sp} (F : FnU P w K mg base k f fd ps sp) : FnOk P w K mg base CX0 k f fd ps sp :=
  ⟨F.len, fun A outer s H args us vs Q E hr => F.run A outer s H args us vs Q E ⟨hr.dp, hr.un⟩⟩
instance s_mkx {t : St → Hp → XK → Prop} {σ : St} {H : Hp} {Q : VK} : Stp (tMkX t σ H Q) (t σ H fun cls d H' => ∀ a, H' a = none → Q (.ref a) (upd H' a (exi a cls d))) := ⟨fun h => h⟩
instance s_bits {to : TE} {σ : St} {H : Hp} {Q : VK} : Stp (tBits to σ H Q) (to σ H fun x H1 => ∃ i, x = .int i ∧ Q (.int (Builtin.Int.intBits i : Nat)) H1) := ⟨fun h => h⟩
/-- what a class of refusals has: how it is made, and no field of its own -/
structure ErC (K : PySem.W.Frag) (C : Addr) (fs : List Str) : Prop where
  ox : OexC K C
  nf : ∀ f ∈ fs, PySem.W.findIn K (.ref C) f = some none
/-! ## Inits -/
/-! ### the other refusals: how they are made -/
/-- the dict of a refusal at d: its fields (last first), and what is told -/
def ErAt (H : Hp) (d : Addr) (nm : Str) (fs : List (Str × V)) (vs : List V) : Prop := ∃ t1 t2, H d = some (.xd (("told", .ref t2) :: fs)) ∧ H t2 = some (.tup [.str nm, .ref t1]) ∧ H t1 = some (.tup vs)
/-- what __init__ promises of a refusal nm, its fields (last first) and values -/
def InitQ (e C : Addr) (nm : Str) (fs : List (Str × V)) (vs : List V) (H : Hp) (Q : VK) : Prop := ∀ (d t1 t2 : Addr) H', H' e = some (exo e C (some d)) → H' d = some (exd d (("told", .ref t2) :: fs)) → H' t1 = some (.tup vs) → H' t2 = some (.tup [.str nm, .ref t1]) → H d = none → (∀ b o, b ≠ e → H b = some o → H' b = some o) → Q .non H'
/-- C(..): what is asked of the values -/
def MkE (C : Addr) (sp : Sp) (vs : List V) (Q : XK) (H1 : Hp) : Prop := vs.length ≤ 1000 ∧ ∀ a, H1 a = none → sp (.ref a :: (vs ++ [])) (upd H1 a (exo a C none))
  (fun u H2 => u = .non ∧ ∃ (d : Addr) (fs : List (Str × V)), H2 a = some (exo a C (some d)) ∧ H2 d = some (exd d fs) ∧ H1 d = none ∧ Q (.ref C) (some d) (upd (del H2 a) d (.xd fs))) (fun _ _ _ => False)
instance s_mkE {C : Addr} {sp : Sp} {ta : TA} {σ : St} {H : Hp} {Q : XK} : Stp (tMkO C sp [] ta σ H Q) (ta σ H fun vs H1 => MkE C sp vs Q H1) := ⟨fun h => h⟩
theorem i_rzE {C : Addr} {sp : Sp} {ta : TA} {W : WX} {D : Ends} {σ : St} {H : Hp} (h : ta σ H fun vs H1 => MkE C sp vs (fun cls d H' => W cls d σ H') H1) : tRz (tMkO C sp [] ta) W D σ H := h
theorem c_mkE {C : Addr} {sp : Sp} {nm : Str} {fs : List (Str × V)} {vs : List V} {Q : XK} {H1 : Hp} (hv : vs.length ≤ 1000) (hs : ∀ (a : Addr) (H : Hp) (Q : VK), H a = some (exo a C none) → InitQ a C nm fs vs H Q → sp (.ref a :: (vs ++ [])) H Q (fun _ _ _ => False)) (h : ∀ d H', ErAt H' d nm fs vs → Same H1 H' → H1 d = none → Q (.ref C) (some d) H') : MkE C sp vs Q H1 := by
  refine ⟨hv, fun a ha => hs a _ _ upd_same fun d t1 t2 H2 h1 h2 h3 h4 h5 h6 => ?_⟩
  have nda : d ≠ a := fun e => by
    rw [e, upd_same] at h5
    cases h5
  have hd1 : H1 d = none := by
    rw [upd_ne nda] at h5
    exact h5
  refine ⟨rfl, d, _, h1, h2, hd1, ?_⟩
  have n1 : t1 ≠ d := fun e => by
    rw [e, h2] at h3
    cases h3
  have n2 : t2 ≠ d := fun e => by
    rw [e, h2] at h4
    cases h4
  have m1 : t1 ≠ a := fun e => by
    rw [e, h1] at h3
    cases h3
  have m2 : t2 ≠ a := fun e => by
    rw [e, h1] at h4
    cases h4
  refine h d _ ⟨t1, t2, upd_same, ?_, ?_⟩ (fun b o hb => ?_) hd1
  · rw [upd_ne n2, del_ne m2]
    exact h4
  · rw [upd_ne n1, del_ne m1]
    exact h3
  · have nb : b ≠ a := ne_of_none hb ha
    rw [upd_ne (ne_of_none hb hd1), del_ne nb]
    exact h6 b o nb (upd_off nb hb)

def sp_init_Broken (K : PySem.W.Frag) (C : Addr) : Sp := fun vs H Q _ => ∃ (e : Addr) (v1 v2 v3 : V), vs = [.ref e, v1, v2, v3] ∧ H e = some (exo e C none) ∧ ErC K C ["told", "place", "found", "due"] ∧ InitQ e C "Broken" [("due", v3), ("found", v2), ("place", v1)] [v1, v2, v3] H Q
def N_c_Broken_init : List Str := ["self", "place", "found", "due"]
def t_c_Broken_init (K : PySem.W.Frag) : TS := (tSeq (tOst K "place" (tVar 0) (tVar 1))
  (tSeq (tOst K "found" (tVar 0) (tVar 2))
  (tSeq (tOst K "due" (tVar 0) (tVar 3))
  (tOst K "told" (tVar 0) (tTup (tCons (tC (.str "Broken")) (tCons (tTup (tCons (tVar 1) (tCons (tVar 2) (tCons (tVar 3) tNil)))) tNil)))))))
theorem pure_init_Broken {K : PySem.W.Frag} {C : Addr} {vs : List V} {H : Hp} {Q : VK} {E : XK} (h : sp_init_Broken K C vs H Q E) : t_c_Broken_init K { nx := fun _ H' => Q .non H', rt := Q } (start N_c_Broken_init vs) H := by
  obtain ⟨e, v1, v2, v3, rfl, he, hC, k⟩ := h
  unfold t_c_Broken_init
  refine i_seq ?_
  refine ⟨v1, rfl, .ref e, rfl, e, C, rfl, hC.ox, hC.nf "place" (by simp), .inl ⟨he, fun d hd ne => ?_⟩⟩
  have ne2 : e ≠ d := Ne.symm ne
  refine i_seq ?_
  refine ⟨v2, rfl, .ref e, rfl, e, C, rfl, hC.ox, hC.nf "found" (by simp), .inr ⟨d, [("place", v1)], by kct_strs, by kct_strs, by simp, ?_⟩⟩
  refine i_seq ?_
  refine ⟨v3, rfl, .ref e, rfl, e, C, rfl, hC.ox, hC.nf "due" (by simp), .inr ⟨d, [("found", v2), ("place", v1)], by kct_strs, by kct_strs, by simp, ?_⟩⟩
  refine ⟨v1, rfl, ?_⟩
  refine ⟨v2, rfl, ?_⟩
  refine ⟨v3, rfl, ?_⟩
  refine ⟨sz (by simp), fun t1 ht1 => ?_⟩
  refine ⟨sz (by simp), fun t2 ht2 => ?_⟩
  have g1 : (upd (upd (upd (upd H d (exd d [("place", v1)])) e (exo e C (some d))) d (exd d [("found", v2), ("place", v1)])) d (exd d [("due", v3), ("found", v2), ("place", v1)])) d = some (exd d [("due", v3), ("found", v2), ("place", v1)]) := by kct_strs
  have g2 : (upd (upd (upd (upd H d (exd d [("place", v1)])) e (exo e C (some d))) d (exd d [("found", v2), ("place", v1)])) d (exd d [("due", v3), ("found", v2), ("place", v1)])) e = some (exo e C (some d)) := by kct_strs
  have n1 : t1 ≠ d := Ne.symm (ne_of_none g1 ht1)
  have n3 : t1 ≠ e := Ne.symm (ne_of_none g2 ht1)
  have n2 : t2 ≠ d := Ne.symm (ne_of_none (upd_keep ht1 g1) ht2)
  have n4 : t2 ≠ e := Ne.symm (ne_of_none (upd_keep ht1 g2) ht2)
  have nt : t1 ≠ t2 := ne_of_none upd_same ht2
  refine ⟨.ref e, rfl, e, C, rfl, hC.ox, hC.nf "told" (by simp), .inr ⟨d, [("due", v3), ("found", v2), ("place", v1)], upd_keep ht2 (upd_keep ht1 g2), upd_keep ht2 (upd_keep ht1 g1), by simp, ?_⟩⟩
  refine k d t1 t2 _ (upd_off ne2 (upd_keep ht2 (upd_keep ht1 g2))) upd_same (upd_off n1 (upd_keep ht2 upd_same)) (upd_off n2 upd_same) hd fun b o nb hb => ?_
  have nd : b ≠ d := ne_of_none hb hd
  have h2 : (upd (upd (upd (upd H d (exd d [("place", v1)])) e (exo e C (some d))) d (exd d [("found", v2), ("place", v1)])) d (exd d [("due", v3), ("found", v2), ("place", v1)])) b = some o := by kct_strs
  exact upd_off nd (upd_keep ht2 (upd_keep ht1 h2))
def sp_init_Unknown (K : PySem.W.Frag) (C : Addr) : Sp := fun vs H Q _ => ∃ (e : Addr) (v1 : V), vs = [.ref e, v1] ∧ H e = some (exo e C none) ∧ ErC K C ["told", "parameter"] ∧ InitQ e C "Unknown" [("parameter", v1)] [v1] H Q
def N_c_Unknown_init : List Str := ["self", "parameter"]
def t_c_Unknown_init (K : PySem.W.Frag) : TS := (tSeq (tOst K "parameter" (tVar 0) (tVar 1))
  (tOst K "told" (tVar 0) (tTup (tCons (tC (.str "Unknown")) (tCons (tTup (tCons (tVar 1) tNil)) tNil)))))
theorem pure_init_Unknown {K : PySem.W.Frag} {C : Addr} {vs : List V} {H : Hp} {Q : VK} {E : XK} (h : sp_init_Unknown K C vs H Q E) : t_c_Unknown_init K { nx := fun _ H' => Q .non H', rt := Q } (start N_c_Unknown_init vs) H := by
  obtain ⟨e, v1, rfl, he, hC, k⟩ := h
  unfold t_c_Unknown_init
  refine i_seq ?_
  refine ⟨v1, rfl, .ref e, rfl, e, C, rfl, hC.ox, hC.nf "parameter" (by simp), .inl ⟨he, fun d hd ne => ?_⟩⟩
  have ne2 : e ≠ d := Ne.symm ne
  refine ⟨v1, rfl, ?_⟩
  refine ⟨sz (by simp), fun t1 ht1 => ?_⟩
  refine ⟨sz (by simp), fun t2 ht2 => ?_⟩
  have g1 : (upd (upd H d (exd d [("parameter", v1)])) e (exo e C (some d))) d = some (exd d [("parameter", v1)]) := by kct_strs
  have g2 : (upd (upd H d (exd d [("parameter", v1)])) e (exo e C (some d))) e = some (exo e C (some d)) := by kct_strs
  have n1 : t1 ≠ d := Ne.symm (ne_of_none g1 ht1)
  have n3 : t1 ≠ e := Ne.symm (ne_of_none g2 ht1)
  have n2 : t2 ≠ d := Ne.symm (ne_of_none (upd_keep ht1 g1) ht2)
  have n4 : t2 ≠ e := Ne.symm (ne_of_none (upd_keep ht1 g2) ht2)
  have nt : t1 ≠ t2 := ne_of_none upd_same ht2
  refine ⟨.ref e, rfl, e, C, rfl, hC.ox, hC.nf "told" (by simp), .inr ⟨d, [("parameter", v1)], upd_keep ht2 (upd_keep ht1 g2), upd_keep ht2 (upd_keep ht1 g1), by simp, ?_⟩⟩
  refine k d t1 t2 _ (upd_off ne2 (upd_keep ht2 (upd_keep ht1 g2))) upd_same (upd_off n1 (upd_keep ht2 upd_same)) (upd_off n2 upd_same) hd fun b o nb hb => ?_
  have nd : b ≠ d := ne_of_none hb hd
  have h2 : (upd (upd H d (exd d [("parameter", v1)])) e (exo e C (some d))) b = some o := by kct_strs
  exact upd_off nd (upd_keep ht2 (upd_keep ht1 h2))
def sp_init_NotHeld (K : PySem.W.Frag) (C : Addr) : Sp := fun vs H Q _ => ∃ (e : Addr) (v1 v2 : V), vs = [.ref e, v1, v2] ∧ H e = some (exo e C none) ∧ ErC K C ["told", "place", "found"] ∧ InitQ e C "NotHeld" [("found", v2), ("place", v1)] [v1, v2] H Q
def N_c_NotHeld_init : List Str := ["self", "place", "found"]
def t_c_NotHeld_init (K : PySem.W.Frag) : TS := (tSeq (tOst K "place" (tVar 0) (tVar 1))
  (tSeq (tOst K "found" (tVar 0) (tVar 2))
  (tOst K "told" (tVar 0) (tTup (tCons (tC (.str "NotHeld")) (tCons (tTup (tCons (tVar 1) (tCons (tVar 2) tNil))) tNil))))))
theorem pure_init_NotHeld {K : PySem.W.Frag} {C : Addr} {vs : List V} {H : Hp} {Q : VK} {E : XK} (h : sp_init_NotHeld K C vs H Q E) : t_c_NotHeld_init K { nx := fun _ H' => Q .non H', rt := Q } (start N_c_NotHeld_init vs) H := by
  obtain ⟨e, v1, v2, rfl, he, hC, k⟩ := h
  unfold t_c_NotHeld_init
  refine i_seq ?_
  refine ⟨v1, rfl, .ref e, rfl, e, C, rfl, hC.ox, hC.nf "place" (by simp), .inl ⟨he, fun d hd ne => ?_⟩⟩
  have ne2 : e ≠ d := Ne.symm ne
  refine i_seq ?_
  refine ⟨v2, rfl, .ref e, rfl, e, C, rfl, hC.ox, hC.nf "found" (by simp), .inr ⟨d, [("place", v1)], by kct_strs, by kct_strs, by simp, ?_⟩⟩
  refine ⟨v1, rfl, ?_⟩
  refine ⟨v2, rfl, ?_⟩
  refine ⟨sz (by simp), fun t1 ht1 => ?_⟩
  refine ⟨sz (by simp), fun t2 ht2 => ?_⟩
  have g1 : (upd (upd (upd H d (exd d [("place", v1)])) e (exo e C (some d))) d (exd d [("found", v2), ("place", v1)])) d = some (exd d [("found", v2), ("place", v1)]) := by kct_strs
  have g2 : (upd (upd (upd H d (exd d [("place", v1)])) e (exo e C (some d))) d (exd d [("found", v2), ("place", v1)])) e = some (exo e C (some d)) := by kct_strs
  have n1 : t1 ≠ d := Ne.symm (ne_of_none g1 ht1)
  have n3 : t1 ≠ e := Ne.symm (ne_of_none g2 ht1)
  have n2 : t2 ≠ d := Ne.symm (ne_of_none (upd_keep ht1 g1) ht2)
  have n4 : t2 ≠ e := Ne.symm (ne_of_none (upd_keep ht1 g2) ht2)
  have nt : t1 ≠ t2 := ne_of_none upd_same ht2
  refine ⟨.ref e, rfl, e, C, rfl, hC.ox, hC.nf "told" (by simp), .inr ⟨d, [("found", v2), ("place", v1)], upd_keep ht2 (upd_keep ht1 g2), upd_keep ht2 (upd_keep ht1 g1), by simp, ?_⟩⟩
  refine k d t1 t2 _ (upd_off ne2 (upd_keep ht2 (upd_keep ht1 g2))) upd_same (upd_off n1 (upd_keep ht2 upd_same)) (upd_off n2 upd_same) hd fun b o nb hb => ?_
  have nd : b ≠ d := ne_of_none hb hd
  have h2 : (upd (upd (upd H d (exd d [("place", v1)])) e (exo e C (some d))) d (exd d [("found", v2), ("place", v1)])) b = some o := by kct_strs
  exact upd_off nd (upd_keep ht2 (upd_keep ht1 h2))
def sp_init_Fault (K : PySem.W.Frag) (C : Addr) : Sp := fun vs H Q _ => ∃ (e : Addr) (v1 v2 : V), vs = [.ref e, v1, v2] ∧ H e = some (exo e C none) ∧ ErC K C ["told", "kind", "place"] ∧ InitQ e C "Fault" [("place", v2), ("kind", v1)] [v1, v2] H Q
def N_c_Fault_init : List Str := ["self", "kind", "place"]
def t_c_Fault_init (K : PySem.W.Frag) : TS := (tSeq (tOst K "kind" (tVar 0) (tVar 1))
  (tSeq (tOst K "place" (tVar 0) (tVar 2))
  (tOst K "told" (tVar 0) (tTup (tCons (tC (.str "Fault")) (tCons (tTup (tCons (tVar 1) (tCons (tVar 2) tNil))) tNil))))))
theorem pure_init_Fault {K : PySem.W.Frag} {C : Addr} {vs : List V} {H : Hp} {Q : VK} {E : XK} (h : sp_init_Fault K C vs H Q E) : t_c_Fault_init K { nx := fun _ H' => Q .non H', rt := Q } (start N_c_Fault_init vs) H := by
  obtain ⟨e, v1, v2, rfl, he, hC, k⟩ := h
  unfold t_c_Fault_init
  refine i_seq ?_
  refine ⟨v1, rfl, .ref e, rfl, e, C, rfl, hC.ox, hC.nf "kind" (by simp), .inl ⟨he, fun d hd ne => ?_⟩⟩
  have ne2 : e ≠ d := Ne.symm ne
  refine i_seq ?_
  refine ⟨v2, rfl, .ref e, rfl, e, C, rfl, hC.ox, hC.nf "place" (by simp), .inr ⟨d, [("kind", v1)], by kct_strs, by kct_strs, by simp, ?_⟩⟩
  refine ⟨v1, rfl, ?_⟩
  refine ⟨v2, rfl, ?_⟩
  refine ⟨sz (by simp), fun t1 ht1 => ?_⟩
  refine ⟨sz (by simp), fun t2 ht2 => ?_⟩
  have g1 : (upd (upd (upd H d (exd d [("kind", v1)])) e (exo e C (some d))) d (exd d [("place", v2), ("kind", v1)])) d = some (exd d [("place", v2), ("kind", v1)]) := by kct_strs
  have g2 : (upd (upd (upd H d (exd d [("kind", v1)])) e (exo e C (some d))) d (exd d [("place", v2), ("kind", v1)])) e = some (exo e C (some d)) := by kct_strs
  have n1 : t1 ≠ d := Ne.symm (ne_of_none g1 ht1)
  have n3 : t1 ≠ e := Ne.symm (ne_of_none g2 ht1)
  have n2 : t2 ≠ d := Ne.symm (ne_of_none (upd_keep ht1 g1) ht2)
  have n4 : t2 ≠ e := Ne.symm (ne_of_none (upd_keep ht1 g2) ht2)
  have nt : t1 ≠ t2 := ne_of_none upd_same ht2
  refine ⟨.ref e, rfl, e, C, rfl, hC.ox, hC.nf "told" (by simp), .inr ⟨d, [("place", v2), ("kind", v1)], upd_keep ht2 (upd_keep ht1 g2), upd_keep ht2 (upd_keep ht1 g1), by simp, ?_⟩⟩
  refine k d t1 t2 _ (upd_off ne2 (upd_keep ht2 (upd_keep ht1 g2))) upd_same (upd_off n1 (upd_keep ht2 upd_same)) (upd_off n2 upd_same) hd fun b o nb hb => ?_
  have nd : b ≠ d := ne_of_none hb hd
  have h2 : (upd (upd (upd H d (exd d [("kind", v1)])) e (exo e C (some d))) d (exd d [("place", v2), ("kind", v1)])) b = some o := by kct_strs
  exact upd_off nd (upd_keep ht2 (upd_keep ht1 h2))
def sp_init_NoRoom (K : PySem.W.Frag) (C : Addr) : Sp := fun vs H Q _ => ∃ (e : Addr) (v1 : V), vs = [.ref e, v1] ∧ H e = some (exo e C none) ∧ ErC K C ["told", "paper"] ∧ InitQ e C "NoRoom" [("paper", v1)] [v1] H Q
def N_c_NoRoom_init : List Str := ["self", "paper"]
def t_c_NoRoom_init (K : PySem.W.Frag) : TS := (tSeq (tOst K "paper" (tVar 0) (tVar 1))
  (tOst K "told" (tVar 0) (tTup (tCons (tC (.str "NoRoom")) (tCons (tTup (tCons (tVar 1) tNil)) tNil)))))
theorem pure_init_NoRoom {K : PySem.W.Frag} {C : Addr} {vs : List V} {H : Hp} {Q : VK} {E : XK} (h : sp_init_NoRoom K C vs H Q E) : t_c_NoRoom_init K { nx := fun _ H' => Q .non H', rt := Q } (start N_c_NoRoom_init vs) H := by
  obtain ⟨e, v1, rfl, he, hC, k⟩ := h
  unfold t_c_NoRoom_init
  refine i_seq ?_
  refine ⟨v1, rfl, .ref e, rfl, e, C, rfl, hC.ox, hC.nf "paper" (by simp), .inl ⟨he, fun d hd ne => ?_⟩⟩
  have ne2 : e ≠ d := Ne.symm ne
  refine ⟨v1, rfl, ?_⟩
  refine ⟨sz (by simp), fun t1 ht1 => ?_⟩
  refine ⟨sz (by simp), fun t2 ht2 => ?_⟩
  have g1 : (upd (upd H d (exd d [("paper", v1)])) e (exo e C (some d))) d = some (exd d [("paper", v1)]) := by kct_strs
  have g2 : (upd (upd H d (exd d [("paper", v1)])) e (exo e C (some d))) e = some (exo e C (some d)) := by kct_strs
  have n1 : t1 ≠ d := Ne.symm (ne_of_none g1 ht1)
  have n3 : t1 ≠ e := Ne.symm (ne_of_none g2 ht1)
  have n2 : t2 ≠ d := Ne.symm (ne_of_none (upd_keep ht1 g1) ht2)
  have n4 : t2 ≠ e := Ne.symm (ne_of_none (upd_keep ht1 g2) ht2)
  have nt : t1 ≠ t2 := ne_of_none upd_same ht2
  refine ⟨.ref e, rfl, e, C, rfl, hC.ox, hC.nf "told" (by simp), .inr ⟨d, [("paper", v1)], upd_keep ht2 (upd_keep ht1 g2), upd_keep ht2 (upd_keep ht1 g1), by simp, ?_⟩⟩
  refine k d t1 t2 _ (upd_off ne2 (upd_keep ht2 (upd_keep ht1 g2))) upd_same (upd_off n1 (upd_keep ht2 upd_same)) (upd_off n2 upd_same) hd fun b o nb hb => ?_
  have nd : b ≠ d := ne_of_none hb hd
  have h2 : (upd (upd H d (exd d [("paper", v1)])) e (exo e C (some d))) b = some o := by kct_strs
  exact upd_off nd (upd_keep ht2 (upd_keep ht1 h2))
def sp_init_Cut (K : PySem.W.Frag) (C : Addr) : Sp := fun vs H Q _ => ∃ (e : Addr) (v1 v2 : V), vs = [.ref e, v1, v2] ∧ H e = some (exo e C none) ∧ ErC K C ["told", "needed", "left"] ∧ InitQ e C "Cut" [("left", v2), ("needed", v1)] [v1, v2] H Q
def N_c_Cut_init : List Str := ["self", "needed", "left"]
def t_c_Cut_init (K : PySem.W.Frag) : TS := (tSeq (tOst K "needed" (tVar 0) (tVar 1))
  (tSeq (tOst K "left" (tVar 0) (tVar 2))
  (tOst K "told" (tVar 0) (tTup (tCons (tC (.str "Cut")) (tCons (tTup (tCons (tVar 1) (tCons (tVar 2) tNil))) tNil))))))
theorem pure_init_Cut {K : PySem.W.Frag} {C : Addr} {vs : List V} {H : Hp} {Q : VK} {E : XK} (h : sp_init_Cut K C vs H Q E) : t_c_Cut_init K { nx := fun _ H' => Q .non H', rt := Q } (start N_c_Cut_init vs) H := by
  obtain ⟨e, v1, v2, rfl, he, hC, k⟩ := h
  unfold t_c_Cut_init
  refine i_seq ?_
  refine ⟨v1, rfl, .ref e, rfl, e, C, rfl, hC.ox, hC.nf "needed" (by simp), .inl ⟨he, fun d hd ne => ?_⟩⟩
  have ne2 : e ≠ d := Ne.symm ne
  refine i_seq ?_
  refine ⟨v2, rfl, .ref e, rfl, e, C, rfl, hC.ox, hC.nf "left" (by simp), .inr ⟨d, [("needed", v1)], by kct_strs, by kct_strs, by simp, ?_⟩⟩
  refine ⟨v1, rfl, ?_⟩
  refine ⟨v2, rfl, ?_⟩
  refine ⟨sz (by simp), fun t1 ht1 => ?_⟩
  refine ⟨sz (by simp), fun t2 ht2 => ?_⟩
  have g1 : (upd (upd (upd H d (exd d [("needed", v1)])) e (exo e C (some d))) d (exd d [("left", v2), ("needed", v1)])) d = some (exd d [("left", v2), ("needed", v1)]) := by kct_strs
  have g2 : (upd (upd (upd H d (exd d [("needed", v1)])) e (exo e C (some d))) d (exd d [("left", v2), ("needed", v1)])) e = some (exo e C (some d)) := by kct_strs
  have n1 : t1 ≠ d := Ne.symm (ne_of_none g1 ht1)
  have n3 : t1 ≠ e := Ne.symm (ne_of_none g2 ht1)
  have n2 : t2 ≠ d := Ne.symm (ne_of_none (upd_keep ht1 g1) ht2)
  have n4 : t2 ≠ e := Ne.symm (ne_of_none (upd_keep ht1 g2) ht2)
  have nt : t1 ≠ t2 := ne_of_none upd_same ht2
  refine ⟨.ref e, rfl, e, C, rfl, hC.ox, hC.nf "told" (by simp), .inr ⟨d, [("left", v2), ("needed", v1)], upd_keep ht2 (upd_keep ht1 g2), upd_keep ht2 (upd_keep ht1 g1), by simp, ?_⟩⟩
  refine k d t1 t2 _ (upd_off ne2 (upd_keep ht2 (upd_keep ht1 g2))) upd_same (upd_off n1 (upd_keep ht2 upd_same)) (upd_off n2 upd_same) hd fun b o nb hb => ?_
  have nd : b ≠ d := ne_of_none hb hd
  have h2 : (upd (upd (upd H d (exd d [("needed", v1)])) e (exo e C (some d))) d (exd d [("left", v2), ("needed", v1)])) b = some o := by kct_strs
  exact upd_off nd (upd_keep ht2 (upd_keep ht1 h2))
def sp_init_BadLine (K : PySem.W.Frag) (C : Addr) : Sp := fun vs H Q _ => ∃ (e : Addr) (v1 v2 : V), vs = [.ref e, v1, v2] ∧ H e = some (exo e C none) ∧ ErC K C ["told", "line", "column"] ∧ InitQ e C "BadLine" [("column", v2), ("line", v1)] [v1, v2] H Q
def N_c_BadLine_init : List Str := ["self", "line", "column"]
def t_c_BadLine_init (K : PySem.W.Frag) : TS := (tSeq (tOst K "line" (tVar 0) (tVar 1))
  (tSeq (tOst K "column" (tVar 0) (tVar 2))
  (tOst K "told" (tVar 0) (tTup (tCons (tC (.str "BadLine")) (tCons (tTup (tCons (tVar 1) (tCons (tVar 2) tNil))) tNil))))))
theorem pure_init_BadLine {K : PySem.W.Frag} {C : Addr} {vs : List V} {H : Hp} {Q : VK} {E : XK} (h : sp_init_BadLine K C vs H Q E) : t_c_BadLine_init K { nx := fun _ H' => Q .non H', rt := Q } (start N_c_BadLine_init vs) H := by
  obtain ⟨e, v1, v2, rfl, he, hC, k⟩ := h
  unfold t_c_BadLine_init
  refine i_seq ?_
  refine ⟨v1, rfl, .ref e, rfl, e, C, rfl, hC.ox, hC.nf "line" (by simp), .inl ⟨he, fun d hd ne => ?_⟩⟩
  have ne2 : e ≠ d := Ne.symm ne
  refine i_seq ?_
  refine ⟨v2, rfl, .ref e, rfl, e, C, rfl, hC.ox, hC.nf "column" (by simp), .inr ⟨d, [("line", v1)], by kct_strs, by kct_strs, by simp, ?_⟩⟩
  refine ⟨v1, rfl, ?_⟩
  refine ⟨v2, rfl, ?_⟩
  refine ⟨sz (by simp), fun t1 ht1 => ?_⟩
  refine ⟨sz (by simp), fun t2 ht2 => ?_⟩
  have g1 : (upd (upd (upd H d (exd d [("line", v1)])) e (exo e C (some d))) d (exd d [("column", v2), ("line", v1)])) d = some (exd d [("column", v2), ("line", v1)]) := by kct_strs
  have g2 : (upd (upd (upd H d (exd d [("line", v1)])) e (exo e C (some d))) d (exd d [("column", v2), ("line", v1)])) e = some (exo e C (some d)) := by kct_strs
  have n1 : t1 ≠ d := Ne.symm (ne_of_none g1 ht1)
  have n3 : t1 ≠ e := Ne.symm (ne_of_none g2 ht1)
  have n2 : t2 ≠ d := Ne.symm (ne_of_none (upd_keep ht1 g1) ht2)
  have n4 : t2 ≠ e := Ne.symm (ne_of_none (upd_keep ht1 g2) ht2)
  have nt : t1 ≠ t2 := ne_of_none upd_same ht2
  refine ⟨.ref e, rfl, e, C, rfl, hC.ox, hC.nf "told" (by simp), .inr ⟨d, [("column", v2), ("line", v1)], upd_keep ht2 (upd_keep ht1 g2), upd_keep ht2 (upd_keep ht1 g1), by simp, ?_⟩⟩
  refine k d t1 t2 _ (upd_off ne2 (upd_keep ht2 (upd_keep ht1 g2))) upd_same (upd_off n1 (upd_keep ht2 upd_same)) (upd_off n2 upd_same) hd fun b o nb hb => ?_
  have nd : b ≠ d := ne_of_none hb hd
  have h2 : (upd (upd (upd H d (exd d [("line", v1)])) e (exo e C (some d))) d (exd d [("column", v2), ("line", v1)])) b = some o := by kct_strs
  exact upd_off nd (upd_keep ht2 (upd_keep ht1 h2))
/-! ## Meths -/
/-! ### methods that may raise, called in a try -/
def tMthS (C : Addr) (m : Str) (sp : Sp) (E : St → XK) (ta : TE) (t : TA) : TE := fun σ H Q => ta σ H fun x H1 => ∃ a dx fs, x = .ref a ∧ H1 a = some (.ins C dx fs) ∧ fs.lookup m = none ∧ t σ H1 fun vs H2 => sp (x :: vs) H2 Q (E σ)
section
variable {X : Cx} {CX : CXT} {k : Nat} {C f : Addr} {fd : FuncData} {ps : List Str} {sp : Sp} {E : St → XK} {m : Str} {o e : Expr} {es : List Expr} {ta : TE} {t : TA} {apos pos : Pos} {pl : Sem Bool}
theorem pe_mthS (he : PE X o ta) (c : Cls X.K C) (hm : Meth X.K C m f) (F : FnOk X.prog X.w X.K X.mg X.base CX k f fd ps sp) (hr : Room k X.A) (hb : Binds X.K fd ps []) (hx : ∀ σ, PassesAt CX X σ (E σ)) (ha : PA X (e :: es) t)
    (hst : starEach (e :: es) X.env = (false, eval e X.env) :: starEach es X.env := by rfl) (hpl : (backTo pos (starEach es X.env)).any (·.1) = false := by rfl)
    (ht : eval (.Call (.Attribute o m apos) (e :: es) [] pos) X.env = (do
      let ov ← eval o X.env
      standAt apos.atName
      let (f, first) ← holding [ov] (getMethod ov m pl)
      callWith pos f first (backTo pos (starEach (e :: es) X.env)) (backToKw pos (keywordEach [] X.env))) := by rfl) :
    PE X (.Call (.Attribute o m apos) (e :: es) [] pos) (tMthS C m sp E ta t) := by
  refine ⟨fun pins s σ H Q I h => ?_⟩
  refine PySem.W.methodCall_KW (pl := pl) (thn (he.run pins s σ H _ I h) fun u s1 ⟨x, H1, I1, rx, a, dx, fs, ex, ea, l, q⟩ => ?_) ht
  subst ex
  obtain rfl : u = Value.ref a := rx
  refine getmeth_ok I1 ea c hm l ?_
  refine PySem.W.callWith_K (first := [.ref a]) (h₀ := X.base) I.ok.mod.kin hm.kp (thn (ha.run pos pins s1 σ H1 _ I1 q) fun us s2 ⟨vs, H2, I2, r, q2⟩ => ⟨I2.kIn, ?_⟩) hst hpl
  exact run_fnS (us := .ref a :: us) (vs := .ref a :: vs) F hr hb (hx σ) I2 (.cons rfl r) q2
theorem pe_mthS0 (he : PE X o ta) (c : Cls X.K C) (hm : Meth X.K C m f) (F : FnOk X.prog X.w X.K X.mg X.base CX k f fd ps sp) (hr : Room k X.A) (hb : Binds X.K fd ps []) (hx : ∀ σ, PassesAt CX X σ (E σ))
    (ht : eval (.Call (.Attribute o m apos) [] [] pos) X.env = (do
      let ov ← eval o X.env
      standAt apos.atName
      let (f, first) ← holding [ov] (getMethod ov m pl)
      callWith pos f first (backTo pos (starEach [] X.env)) (backToKw pos (keywordEach [] X.env))) := by rfl) :
    PE X (.Call (.Attribute o m apos) [] [] pos) (tMthS C m sp E ta tNil) := by
  refine ⟨fun pins s σ H Q I h => ?_⟩
  refine PySem.W.methodCall_KW (pl := pl) (thn (he.run pins s σ H _ I h) fun u s1 ⟨x, H1, I1, rx, a, dx, fs, ex, ea, l, q⟩ => ?_) ht
  subst ex
  obtain rfl : u = Value.ref a := rx
  refine getmeth_ok I1 ea c hm l ?_
  exact PySem.W.callWith_K0 (first := [.ref a]) I1.kIn hm.kp (run_fnS (us := [.ref a]) (vs := [.ref a]) F hr hb (hx σ) I1 (.cons rfl .nil) q)
end
/-! ### try with two clauses -/
section
variable {X : Cx} {x n x2 n2 : Str} {c c2 : Value} {i i2 : Nat} {body suite suite2 : List Stmt} {b₀ b₂ : Stmt} {np pos pos' np2 pos2' : Pos} {tb : WX → TS} {ts ts2 : TS} {Wout : WX} {pins : List (Addr × Obj)} {D : Ends}
theorem caught2 (hs : X.stack = X.env :: X.outer) (hf : X.env.frame = some X.env.locals) (hex : X.ex = []) (hN : X.N.Nodup) (hi : X.N[i]? = some n) (hln : X.env.kindOf n = some .local) (hc : Names X x c) (hi2 : X.N[i2]? = some n2) (hln2 : X.env.kindOf n2 = some .local) (hc2 : Names X x2 c2) (tk : L2N.Takes X Wout)
    (hsu : ∀ (a : Addr) (pn : List (Addr × Obj)), PSs (X.suite a pn) (b₀ :: suite) ts) (hsu2 : ∀ (a : Addr) (pn : List (Addr × Obj)), PSs (X.suite a pn) (b₂ :: suite2) ts2) (okX : X.Ok) {ev : Value} {sE : Shared} {xe : Value → Shared → Prop} (air : L2N.XE (X.tr (X.pn ++ pins) xe) (wAsT X.K c i ts (wAsT X.K c2 i2 ts2 Wout D) D) ev sE) :
    wpAny (model X.prog X.w) X.A (noteFrame ev X.env) (fun _ s2 => wpAny (model X.prog X.w) X.A (setFlight ev none) (fun _ s3 => wpAny (model X.prog X.w) X.A (handleBy ev X.env [.ExceptHandler (some (.Name x np)) (some n) (b₀ :: suite) pos', .ExceptHandler (some (.Name x2 np2)) (some n2) (b₂ :: suite2) pos2']) (SP X pins D) X.xe s3) X.xe s2) X.xe sE := by
  obtain ⟨ea, gr, sG, pG, σ1, H1, cls, dd, rfl, J1, inB, lift, sky, unk, eos, ebare, yes, hyes, hout, hin⟩ := air
  have J : Inv X pins σ1 H1 sG := J1.ofTry okX
  rw [show (X.tr (X.pn ++ pins) xe).stack = X.env :: X.outer from hs] at inB sky
  have frm : X.A.frames = some (X.env :: X.outer) := hs ▸ okX.frames
  have inB' : ∀ b o, sG.heap.get? b = some o → b ∉ frs X.stack → gr.get? b = some o := by rw [hs]; exact inB
  refine L2N.Sky.land L2N.Zn.steady frm hf sky fun hA flA upA => ?_
  obtain ⟨obA, fvA, getA, zA, dA⟩ := flA.there
  have offFr : ea ∉ frs (X.env :: X.outer) := fun hm => (flA.2.2.1.mem hm).elim fun _ ⟨o', e', hn⟩ => by
    rw [getA] at e'
    cases e'
    exact hn _ dA
  have offL : ea ≠ X.env.locals := fun z => offFr (List.mem_filterMap.mpr ⟨X.env, List.mem_cons_self, z ▸ hf⟩)
  have offF : ea ∉ X.fs := fun hm => offFr ((List.mem_filterMap.mp hm).elim fun e ⟨he, q⟩ => List.mem_filterMap.mpr ⟨e, List.mem_cons_of_mem _ he, q⟩)
  have newG : sG.heap.get? ea = none := by
    cases e : sG.heap.get? ea with
    | none => rfl
    | some o => exact absurd ((inB ea o e offFr).symm.trans flA.2.1) (by simp)
  have new0 : X.s_0.heap.get? ea = none := by
    cases e : X.s_0.heap.get? ea with
    | none => rfl
    | some o => exact (J.base.there ea o e (by rw [hex]; simp)).elim fun o' q => absurd (q.symm.trans newG) (by simp)
  have off : ∀ p ∈ X.pn ++ pins, p.1 ≠ ea := fun p hp z => absurd ((J.pin p hp).1.symm.trans (z ▸ newG)) (by simp)
  have JA : Inv X pins σ1 H1 { sE with heap := hA } := J.landed inB' flA.1 (lift.trans upA) eos ebare
  have SA := JA.suite getA dA unk offL offF
  have clsOf : PySem.W.Looks (model X.prog X.w) hA (typeOf (.ref ea)) cls := fun _ _ _ _ k q => wpAny_typeOf_ref (k _ _ getA) (by rw [zA.1]; exact q)
  have step : ∀ (x n : Str) (c : Value) (i : Nat) (b₀ : Stmt) (suite : List Stmt) (np pos' : Pos) (ts : TS) (rest : List _) (yes : Bool), X.N[i]? = some n → X.env.kindOf n = some .local → Names X x c → (∀ (a : Addr) (pn : List (Addr × Obj)), PSs (X.suite a pn) (b₀ :: suite) ts) → PySem.W.exmOne X.K cls c = some yes →
      (yes = false → wpAny (model X.prog X.w) X.A (handleBy (.ref ea) X.env rest) (SP X pins D) X.xe { sE with heap := hA }) →
      (yes = true → ∀ a, H1 a = none → ts ⟨fun σ' H' => D.nx (σ'.set i none) H', D.rt, fun σ' H' => D.bk (σ'.set i none) H', fun σ' H' => D.ct (σ'.set i none) H'⟩ (σ1.set i (some (.ref a))) (upd H1 a (exi a cls dd))) →
      wpAny (model X.prog X.w) X.A (handleBy (.ref ea) X.env (.ExceptHandler (some (.Name x np)) (some n) (b₀ :: suite) pos' :: rest)) (SP X pins D) X.xe { sE with heap := hA } := by
    intro x n c i b₀ suite np pos' ts rest yes hi hln hc hsu hyes hout hin
    refine wpAny_handleBy_cons (codeAny_handlers_test ?_) (fun q => nomatch q)
    have look : ∀ {Q : Value → Shared → Prop} {E : Value → Shared → Prop}, Q c { sE with heap := hA } → wpAny (model X.prog X.w) (X.A.mark (some (.ref ea))) (eval (.Name x np) X.env) Q E { sE with heap := hA } := fun {Q E} q => by
      rcases hc with ⟨hg, hdb, hm | ⟨hm, hv, hnn⟩⟩
      · exact ld_glob (X := X.suite ea ((ea, obA) :: (X.pn ++ pins))) SA hg hm q hdb
      · exact ld_blt (X := X.suite ea ((ea, obA) :: (X.pn ++ pins))) SA hg hm hv q hnn hdb
    refine look ((PySem.W.exm_one (M := model X.prog X.w) JA.kIn clsOf hyes).here ?_)
    cases yes with
    | false => exact hout rfl
    | true =>
      refine codeAny_handlers_suite_as (HandSPX.lands_againZ flA fun hB flB upB => ?_)
      obtain ⟨obB, fvB, getB, zB, dB⟩ := flB.there
      have SB := (J.landed (s' := { sE with heap := hB }) inB' flB.1 ((lift.trans upA).trans upB) eos ebare).suite getB dB unk offL offF
      refine store_ok (X := X.suite ea ((ea, obB) :: (X.pn ++ pins))) (v := .ref ea) SB hN hi (.inl hln) rfl (fun s5 S5 => ?_) (.inr hln)
      refine wpAny_mono ((hsu ea (X.pn ++ pins)).run [] s5 _ _ _ (track okX S5 new0 off zB ⟨_, dB⟩) (hin rfl ea unk)) (fun fl s6 r6 => ?_) (fun _ _ z => z.elim)
      have shut : ∀ {σ6 : St} {H6 : Hp} {R : Shared → Prop}, Inv (X.suite ea (X.pn ++ pins)) [] σ6 H6 s6 → (∀ s7, Inv X pins (σ6.set i none) H6 s7 → R s7) →
          wpAny (model X.prog X.w) X.A (do bindName X.env n .none; unbindBehindTheSuite X.env n pos') (fun _ s7 => R s7) X.xe s6 := fun S6 hR => gone_ok (unsuite0 S6 okX) hN hi hln hR
      cases fl with
      | ret u => exact r6.elim fun v ⟨_, _, S6, rv, q⟩ => shut S6 fun _ J7 => ⟨v, _, _, J7, rv, q⟩
      | _ => exact r6.elim fun _ ⟨_, S6, q⟩ => shut S6 fun _ J7 => ⟨_, _, J7, q⟩
  refine step x n c i b₀ suite np pos' ts _ yes hi hln hc hsu hyes (fun h => ?_) hin
  obtain ⟨yes2, hyes2, hout2, hin2⟩ := hout h
  refine step x2 n2 c2 i2 b₂ suite2 np2 pos2' ts2 [] yes2 hi2 hln2 hc2 hsu2 hyes2 (fun h2 => ?_) hin2
  refine wpAny_handleBy_nil ?_
  obtain ⟨_, _, _, ob, fv, tr, _, _, e1, _, e3, e4, _⟩ := id flA
  have up : wpAny (model X.prog X.w) X.A (setFlight (.ref ea) X.env.frame) (fun _ s4 => wpAny (model X.prog X.w) X.A (throw (.ref ea) : Sem Flow) (SP X pins D) X.xe s4) X.xe { sE with heap := hA } := by
    rw [hf]
    exact HandSPX.setFlight_upZ flA fun h4 held u4 => wpAny_throw (tk _ _ ⟨ea, gr, sG, pins, σ1, H1, cls, dd, rfl, J, inB', (lift.trans upA).trans u4, .inr (.inr (by rw [hs]; exact held)), unk, eos, ebare, hout2 h2⟩)
  unfold PySem.passOn
  refine wpAny_bind (wpAny_field e1 e3 e4 ?_)
  rw [if_neg (show ¬ ((Value.ref tr == Value.none) = true) by simp)]
  first
    | exact wpAny_bind up
    | exact wpAny_bind (wpAny_pure (wpAny_bind up))
theorem ps_try_asT2 (hs : X.stack = X.env :: X.outer) (hf : X.env.frame = some X.env.locals) (hex : X.ex = []) (hN : X.N.Nodup) (hi : X.N[i]? = some n) (hln : X.env.kindOf n = some .local) (hc : Names X x c) (hi2 : X.N[i2]? = some n2) (hln2 : X.env.kindOf n2 = some .local) (hc2 : Names X x2 c2) (tk : L2N.Takes X Wout)
    (bod : ∀ (W : WX) (pn : List (Addr × Obj)) (xe : Value → Shared → Prop), L2N.Takes (X.tr pn xe) W → PassesOwn (model X.prog X.w) X.A X.env xe → PSs (X.tr pn xe) body (tb W))
    (hsu : ∀ (a : Addr) (pn : List (Addr × Obj)), PSs (X.suite a pn) (b₀ :: suite) ts) (hsu2 : ∀ (a : Addr) (pn : List (Addr × Obj)), PSs (X.suite a pn) (b₂ :: suite2) ts2) :
    PS X (.Try body [.ExceptHandler (some (.Name x np)) (some n) (b₀ :: suite) pos', .ExceptHandler (some (.Name x2 np2)) (some n2) (b₂ :: suite2) pos2'] [] [] pos) (fun D σ H => tb (wAsT X.K c i ts (wAsT X.K c2 i2 ts2 Wout D) D) D σ H) := by
  constructor
  intro pins s σ H D I h
  have okX := I.ok
  refine wpAny_Try_except (wpAny_mono ((bod (wAsT X.K c i ts (wAsT X.K c2 i2 ts2 Wout D) D) (X.pn ++ pins) _ (fun u s' z => caught2 hs hf hex hN hi hln hc hi2 hln2 hc2 tk hsu hsu2 okX z) PassesOwn.looking).run [] s σ H D (I.toTry _) h) (fun fl s1 r => ?_) (fun _ _ z => z))
  cases fl with
  | next => exact r.elim fun _ ⟨_, J, q⟩ => wpAny_execs_nil ⟨_, _, J.ofTry okX, q⟩
  | ret u => exact r.elim fun v ⟨_, _, J, rv, q⟩ => ⟨v, _, _, J.ofTry okX, rv, q⟩
  | _ => exact r.elim fun _ ⟨_, J, q⟩ => ⟨_, _, J.ofTry okX, q⟩
end
/-- try: .. except C as n: .. except C2 as n2: .. -/
def tTryT2 (K : PySem.W.Frag) (c : Value) (i : Nat) (c2 : Value) (i2 : Nat) (tb : WX → TS) (ts ts2 : TS) (Wout : WX) : TS := fun D σ H => tb (wAsT K c i ts (wAsT K c2 i2 ts2 Wout D) D) D σ H
/-- a def with keyword-only parameters -/
structure DfK (K : PySem.W.Frag) (x qual : Str) (st : Stmt) (f : Addr) (fd : FuncData) : Prop where
  fn : Fun K x qual st f fd
/-! ## Enum -/
/-! ### for .. in enumerate(list); tuples among the constants -/
section
variable {K : PySem.W.Frag} {σ : St} {H : Hp} {g : TG} {tb : TS} {a : Addr} {xs : List V} {nx bk ct : St → Hp → Prop} {rt : VK}
theorem l_enum (Pv : Nat → St → Hp → Prop) (h0 : Pv 0 σ H) (hl : ∀ i σ' H', i ≤ xs.length → Pv i σ' H' → SqL K H' a xs)
    (hs : ∀ i x σ' H' T, xs[i]? = some x → Pv i σ' H' → H' T = none → g (.ref T) σ' (upd H' T (.tup [.int (i : Nat), x])) fun σ2 H2 => tb ⟨Pv (i + 1), rt, nx, Pv (i + 1)⟩ σ2 H2) (hd : ∀ σ' H', Pv xs.length σ' H' → nx σ' H') : ForW (Ite K a) g tb ⟨nx, rt, bk, ct⟩ σ H := by
  refine ⟨fun i m σ' H' => m + i = xs.length ∧ Pv i σ' H', ⟨xs.length, rfl, h0⟩, fun i m σ' H' h => ?_⟩
  obtain ⟨hm, hp⟩ := h
  have q := hl i σ' H' (by omega) hp
  cases m with
  | zero =>
    have e : i = xs.length := by omega
    subst e
    exact .inl ⟨⟨xs, q, Nat.le_refl _⟩, hd σ' H' hp⟩
  | succ m =>
    have hi : xs[i]? = some (xs[i]'(by omega)) := List.getElem?_eq_getElem _
    refine .inr ⟨⟨xs, _, q, hi⟩, Pv (i + 1), fun σ2 H2 p2 => ⟨m, by omega, by omega, p2⟩, fun v H2 y => ?_⟩
    obtain ⟨T, x, rfl, hT, rfl, hx⟩ := y
    exact hs i x σ' H' T (hx xs q) hp hT
instance s_forE {D : Ends} {ta : TA} : Stp (tFor (iEnum K ta) g tb D σ H) (ta σ H fun vs H1 => ∃ a xs, vs = [.ref a] ∧ SqL K H1 a xs ∧ ForW (Ite K a) g tb D σ H1) := ⟨fun h => h⟩
end
/-- a tuple of ints among the constants -/
def KTup (K : PySem.W.Frag) (a : Addr) (l : List Int) : Prop := ∃ (o : Obj) (its : Array Value) (n : Nat), K.lookup a = some o ∧ o.cls = .type "tuple" ∧ o.data = .seq its n ∧ its.size ≤ sizeLine ∧ Vals (l.map V.int) its.toList
theorem KTup.sq {K : PySem.W.Frag} {a : Addr} {l : List Int} {H : Hp} (h : KTup K a l) : SqT K H a (l.map V.int) := .inr h
/-! ## Ground0 -/
/-! ### the ground: words of its checks -/
def N_p_is_between : List Str := ["value", "low", "high"]
def t_p_is_between (K : PySem.W.Frag) : TS := (tRet (tAndV (tCall (sp_is_whole K) [] E0 (tCons (tVar 0) tNil)) (tChain oLe oLe (tVar 1) (tVar 0) (tVar 2))))
theorem pure_is_between {K : PySem.W.Frag} {vs : List V} {H : Hp} {Q : VK} {E : XK} (h : sp_whole_between K vs H Q E) : t_p_is_between K { nx := fun _ H' => Q .non H', rt := Q } (start N_p_is_between vs) H := pure_whole_between (E := E) h
def vH (v : V) : Bool := vR 0 8 v || (vR 11 18 v || vR 21 28 v)
def sp_is_holder (K : PySem.W.Frag) : Sp := fun vs H Q _ => ∃ (v : V) (n : String), vs = [v] ∧ Ty0 H v n ∧ Q (.bl (vH v)) H
theorem c_is_holder {K : PySem.W.Frag} {v : V} {n : String} {H : Hp} {Q : VK} {E : XK} (h : Ty0 H v n) (q : Q (.bl (vH v)) H) : sp_is_holder K [v] H Q E := ⟨v, n, rfl, h, q⟩
def N_p_is_holder : List Str := ["value"]
def t_p_is_holder (K : PySem.W.Frag) : TS := (tRet (tOrV (tCall (sp_whole_between K) [] E0 (tCons (tVar 0) (tCons (tC (.int 0)) (tCons (tC (.int 8)) tNil)))) (tOrV (tCall (sp_whole_between K) [] E0 (tCons (tVar 0) (tCons (tC (.int 11)) (tCons (tC (.int 18)) tNil)))) (tCall (sp_whole_between K) [] E0 (tCons (tVar 0) (tCons (tC (.int 21)) (tCons (tC (.int 28)) tNil)))))))
theorem pure_is_holder {K : PySem.W.Frag} {vs : List V} {H : Hp} {Q : VK} {E : XK} (h : sp_is_holder K vs H Q E) : t_p_is_holder K { nx := fun _ H' => Q .non H', rt := Q } (start N_p_is_holder vs) H := by
  obtain ⟨v, n, rfl, ht, k⟩ := h
  unfold vH at k
  unfold t_p_is_holder
  fold_lay
  refine c_whole_between ht ?_
  fold_lay
  refine i_ifb (fun g => ?_) (fun g => ?_)
  · rw [g] at k
    exact k
  rw [g] at k
  fold_lay
  refine c_whole_between ht ?_
  fold_lay
  refine i_ifb (fun g => ?_) (fun g => ?_)
  · rw [g] at k
    exact k
  rw [g] at k
  fold_lay
  refine c_whole_between ht ?_
  exact k
def vWd : V → Bool
  | .int i => decide (i ∈ ([16, 32, 64] : List Int))
  | _ => false
def sp_is_width (K : PySem.W.Frag) (c : Cl) : Sp := fun vs H Q _ => ∃ (v : V) (n : String), vs = [v] ∧ Ty0 H v n ∧ KTup K c.x_WIDTHS [16, 32, 64] ∧ Q (.bl (vWd v)) H
def N_p_is_width : List Str := ["value"]
def t_p_is_width (K : PySem.W.Frag) (c : Cl) : TS := (tRet (tAndV (tCall (sp_is_whole K) [] E0 (tCons (tVar 0) tNil)) (tOp (rIn K false) (tVar 0) (tC (.ref c.x_WIDTHS)))))
theorem in_ints3 {i : Int} : inV (.int i) [.int 16, .int 32, .int 64] = decide (i ∈ ([16, 32, 64] : List Int)) := by
  have e : ∀ j : Int, (j == i) = decide (i = j) := fun j => by
    rw [Bool.eq_iff_iff]
    exact ⟨fun h => decide_eq_true (eq_of_beq h).symm, fun h => beq_iff_eq.mpr (of_decide_eq_true h).symm⟩
  simp only [inV, eqV, List.any_cons, List.any_nil, Bool.or_false, e]
  simp
theorem pure_is_width {K : PySem.W.Frag} {c : Cl} {vs : List V} {H : Hp} {Q : VK} {E : XK} (h : sp_is_width K c vs H Q E) : t_p_is_width K c { nx := fun _ H' => Q .non H', rt := Q } (start N_p_is_width vs) H := by
  obtain ⟨v, n, rfl, ht, hT, k⟩ := h
  unfold t_p_is_width
  fold_lay
  refine c_is_whole ht ?_
  fold_lay
  refine i_ifb (fun g => ?_) (fun g => ?_)
  · obtain ⟨i, rfl⟩ := vI_int g
    fold_lay
    refine ⟨c.x_WIDTHS, _, rfl, .inr hT.sq, rfl, rfl, ?_⟩
    show Q (.bl (inV (.int i) [.int 16, .int 32, .int 64])) H
    rw [in_ints3]
    exact k
  · have e : vWd v = false := by cases v <;> first | rfl | cases g
    rw [e] at k
    exact k
def vB (v : V) : Bool := decide (v = .non) || vR 0 1000000000 v
def sp_is_budget (K : PySem.W.Frag) : Sp := fun vs H Q _ => ∃ (v : V) (n : String), vs = [v] ∧ Ty0 H v n ∧ Q (.bl (vB v)) H
def N_p_is_budget : List Str := ["value"]
def t_p_is_budget (K : PySem.W.Frag) : TS := (tRet (tOrV (tOp oIsN (tVar 0) (tC .non)) (tCall (sp_whole_between K) [] E0 (tCons (tVar 0) (tCons (tC (.int 0)) (tCons (tC (.int 1000000000)) tNil))))))
theorem pure_is_budget {K : PySem.W.Frag} {vs : List V} {H : Hp} {Q : VK} {E : XK} (h : sp_is_budget K vs H Q E) : t_p_is_budget K { nx := fun _ H' => Q .non H', rt := Q } (start N_p_is_budget vs) H := by
  obtain ⟨v, n, rfl, ht, k⟩ := h
  unfold vB at k
  unfold t_p_is_budget
  fold_lay
  refine i_ifb (fun g => ?_) (fun g => ?_)
  · rw [g] at k
    exact k
  · rw [g] at k
    fold_lay
    exact c_whole_between ht k
/-! ### the ground in the heap -/
/-- an entry of a deed: place, word, holder -/
abbrev En := Int × Int × Int
structure GS where
  pg : Int
  wd : Int
  fl : Int
  al : Option Int
  ch : Int
  ws : List Int
  hs : List Int
  ds : List (List En)
structure GA where
  g : Addr
  dx : Addr
  w : Addr
  h : Addr
  o : Addr
  dd : List Addr
def odV : Option Int → V
  | none => .non
  | some i => .int i
def flds (A : GA) (S : GS) : List (Str × V) := [("pages", .int S.pg), ("width", .int S.wd), ("fill", .int S.fl), ("allowance", odV S.al), ("charged", .int S.ch), ("cell_words", .ref A.w), ("cell_holders", .ref A.h), ("open_deeds", .ref A.o)]
/-- the entries of a deed's dict -/
inductive Ent (H : Hp) : List (Key × V) → List En → Prop where
  | nil : Ent H [] []
  | cons {p w h : Int} {t : Addr} {kvs : List (Key × V)} {es : List En} (ht : H t = some (.tup [.int w, .int h])) (r : Ent H kvs es) : Ent H ((Sum.inl p, .ref t) :: kvs) ((p, w, h) :: es)
/-- the deeds' dicts -/
inductive Dds (H : Hp) : List Addr → List (List En) → Prop where
  | nil : Dds H [] []
  | cons {d : Addr} {kvs : List (Key × V)} {es : List En} {dd : List Addr} {ds : List (List En)} (hd : H d = some (.dK kvs)) (he : Ent H kvs es) (r : Dds H dd ds) : Dds H (d :: dd) (es :: ds)
structure Gd (c : Cl) (H : Hp) (A : GA) (S : GS) : Prop where
  ob : H A.g = some (.ins c.k_Ground A.dx (flds A S))
  wl : H A.w = some (.lst (S.ws.map V.int))
  hl : H A.h = some (.lst (S.hs.map V.int))
  ol : H A.o = some (.lst (A.dd.map V.ref))
  dl : Dds H A.dd S.ds
  n1 : A.w ≠ A.h
  n2 : A.w ≠ A.o
  n3 : A.h ≠ A.o
  nd : A.dd.Nodup
  le : S.ws.length = S.hs.length
  sz : S.ws.length ≤ 20000
  dn : S.ds.length ≤ 1000
  ok : ∀ es ∈ S.ds, (es.map (·.1)).Nodup ∧ ∀ e ∈ es, 0 ≤ e.1 ∧ e.1 < S.ws.length
/-- what the class has -/
structure GdK (K : PySem.W.Frag) (c : Cl) : Prop where
  cl : Cls K c.k_Ground
  na : ∀ f ∈ (["pages", "width", "fill", "allowance", "charged", "cell_words", "cell_holders", "open_deeds"] : List Str), NoAttr K c.k_Ground f
theorem i_gfld {K : PySem.W.Frag} {c : Cl} {H : Hp} {g dx : Addr} {fs : List (Str × V)} {f : Str} {v : V} {P : V → Prop} (R : GdK K c) (h : H g = some (.ins c.k_Ground dx fs)) (hf : f ∈ (["pages", "width", "fill", "allowance", "charged", "cell_words", "cell_holders", "open_deeds"] : List Str)) (l : fs.lookup f = some v) (q : P v) :
    ∃ a C dx' fs' v', V.ref g = .ref a ∧ H a = some (.ins C dx' fs') ∧ Cls K C ∧ NoAttr K C f ∧ fs'.lookup f = some v' ∧ P v' := ⟨g, c.k_Ground, dx, fs, v, rfl, h, R.cl, R.na f hf, l, q⟩
instance s_fld {K : PySem.W.Frag} {ta : TE} {f : Str} {σ : St} {H : Hp} {Q : VK} : Stp (tFld K ta f σ H Q) (ta σ H fun x H1 => ∃ a C dx fs v, x = .ref a ∧ H1 a = some (.ins C dx fs) ∧ Cls K C ∧ NoAttr K C f ∧ fs.lookup f = some v ∧ Q v H1) := ⟨fun h => h⟩
theorem Gd.mono {c : Cl} {H H' : Hp} {A : GA} {S : GS} (h : Gd c H A S) (k : Same H H') : Gd c H' A S := by
  have e1 : ∀ {kvs es}, Ent H kvs es → Ent H' kvs es := by
    intro kvs es h
    induction h with
    | nil => exact .nil
    | cons ht _ ih => exact .cons (k _ _ ht) ih
  have e2 : ∀ {dd ds}, Dds H dd ds → Dds H' dd ds := by
    intro dd ds h
    induction h with
    | nil => exact .nil
    | cons hd he _ ih => exact .cons (k _ _ hd) (e1 he) ih
  exact ⟨k _ _ h.ob, k _ _ h.wl, k _ _ h.hl, k _ _ h.ol, e2 h.dl, h.n1, h.n2, h.n3, h.nd, h.le, h.sz, h.dn, h.ok⟩
/-! ## Ground1 -/
/-! ### the ground: what one write leaves -/
/-- all that stands outside of F stays -/
def Out (F : List Addr) (H H' : Hp) : Prop := ∀ b o, b ∉ F → H b = some o → H' b = some o
theorem Out.refl (F : List Addr) (H : Hp) : Out F H H := fun _ _ _ e => e
theorem Out.trans {F : List Addr} {H1 H2 H3 : Hp} (h1 : Out F H1 H2) (h2 : Out F H2 H3) : Out F H1 H3 := fun b o n e => h2 b o n (h1 b o n e)
theorem Out.wide {F G : List Addr} {H1 H2 : Hp} (h : Out F H1 H2) (s : ∀ a ∈ F, a ∈ G) : Out G H1 H2 := fun b o n e => h b o (fun z => n (s b z)) e
theorem Same.out {F : List Addr} {H1 H2 : Hp} (h : Same H1 H2) : Out F H1 H2 := fun b o _ e => h b o e
theorem out_upd {F : List Addr} {H : Hp} {a : Addr} {o : HO} (h : a ∈ F) : Out F H (upd H a o) := fun b u n e => upd_off (fun z => n (z ▸ h)) e
theorem Ent.upd {H : Hp} {a : Addr} {o : HO} {kvs : List (Key × V)} {es : List En} (h : Ent H kvs es) (ha : ∀ xs, H a ≠ some (.tup xs)) : Ent (L2.upd H a o) kvs es := by
  induction h with
  | nil => exact .nil
  | cons ht _ ih => exact .cons (upd_off (fun z => ha _ (z ▸ ht)) ht) ih
theorem Dds.upd {H : Hp} {a : Addr} {o : HO} {dd : List Addr} {ds : List (List En)} (h : Dds H dd ds) (ha : ∀ xs, H a ≠ some (.tup xs)) (hn : a ∉ dd) : Dds (L2.upd H a o) dd ds := by
  induction h with
  | nil => exact .nil
  | cons hd he _ ih => exact .cons (upd_off (fun z => hn (z ▸ List.mem_cons_self)) hd) (he.upd ha) (ih fun z => hn (List.mem_cons_of_mem _ z))
theorem Dds.length {H : Hp} {dd : List Addr} {ds : List (List En)} (h : Dds H dd ds) : dd.length = ds.length := by
  induction h with
  | nil => rfl
  | cons _ _ _ ih => simp [ih]
theorem Dds.at_ {H : Hp} {dd : List Addr} {ds : List (List En)} (h : Dds H dd ds) : ∀ d ∈ dd, ∃ kvs, H d = some (.dK kvs) := by
  induction h with
  | nil => intro d hd; cases hd
  | cons hd _ _ ih =>
    intro d m
    rcases List.mem_cons.mp m with rfl | m
    · exact ⟨_, hd⟩
    · exact ih d m
theorem Dds.snoc {H : Hp} {dd : List Addr} {ds : List (List En)} {d : Addr} {kvs : List (Key × V)} {es : List En} (h : Dds H dd ds) (hd : H d = some (.dK kvs)) (he : Ent H kvs es) : Dds H (dd ++ [d]) (ds ++ [es]) := by
  induction h with
  | nil => exact .cons hd he .nil
  | cons h1 h2 _ ih => exact .cons h1 h2 ih
theorem Dds.last {H : Hp} {ds : List (List En)} {es : List En} : ∀ {dd : List Addr}, Dds H dd (ds ++ [es]) → ∃ dd0 d kvs, dd = dd0 ++ [d] ∧ Dds H dd0 ds ∧ H d = some (.dK kvs) ∧ Ent H kvs es := by
  induction ds with
  | nil =>
    intro dd h
    cases h with
    | cons hd he r =>
      cases r
      exact ⟨[], _, _, rfl, .nil, hd, he⟩
  | cons x r ih =>
    intro dd h
    cases h with
    | cons hd he h2 =>
      obtain ⟨dd0, d, kvs, e, h3, h4, h5⟩ := ih h2
      exact ⟨_ :: dd0, d, kvs, by rw [e]; rfl, .cons hd he h3, h4, h5⟩
theorem Ent.mono {H H' : Hp} {kvs : List (Key × V)} {es : List En} (h : Ent H kvs es) (k : Same H H') : Ent H' kvs es := by
  induction h with
  | nil => exact .nil
  | cons ht _ ih => exact .cons (k _ _ ht) ih
theorem Dds.mono {H H' : Hp} {dd : List Addr} {ds : List (List En)} (h : Dds H dd ds) (k : Same H H') : Dds H' dd ds := by
  induction h with
  | nil => exact .nil
  | cons hd he _ ih => exact .cons (k _ _ hd) (he.mono k) ih
theorem Ent.length {H : Hp} {kvs : List (Key × V)} {es : List En} (h : Ent H kvs es) : kvs.length = es.length := by
  induction h with
  | nil => rfl
  | cons _ _ ih => simp [ih]
theorem Ent.snoc {H : Hp} {kvs : List (Key × V)} {es : List En} {p w h : Int} {t : Addr} (e : Ent H kvs es) (ht : H t = some (.tup [.int w, .int h])) : Ent H (kvs ++ [(Sum.inl p, .ref t)]) (es ++ [(p, w, h)]) := by
  induction e with
  | nil => exact .cons ht .nil
  | cons h1 _ ih => exact .cons h1 ih
theorem Ent.get {H : Hp} {kvs : List (Key × V)} {es : List En} (h : Ent H kvs es) : ∀ {i : Nat} {k : Key} {v : V}, kvs[i]? = some (k, v) → ∃ p w g t, es[i]? = some (p, w, g) ∧ k = Sum.inl p ∧ v = .ref t ∧ H t = some (.tup [.int w, .int g]) := by
  induction h with
  | nil => intro i k v e; simp at e
  | cons ht _ ih =>
    intro i k v e
    cases i with
    | zero =>
      simp at e
      obtain ⟨rfl, rfl⟩ := e
      exact ⟨_, _, _, _, rfl, rfl, rfl, ht⟩
    | succ i => exact ih (by simpa using e)
theorem Ent.fresh {H : Hp} {kvs : List (Key × V)} {es : List En} {p : Int} (h : Ent H kvs es) (hn : p ∉ es.map (·.1)) : ∀ kv ∈ kvs, kv.1 ≠ Sum.inl p := by
  induction h with
  | nil => intro kv m; cases m
  | cons _ _ ih =>
    intro kv m
    rw [List.map_cons, List.mem_cons, not_or] at hn
    rcases List.mem_cons.mp m with rfl | m
    · exact fun z => hn.1 (Sum.inl.inj z).symm
    · exact ih hn.2 kv m
theorem Ent.val {H : Hp} {kvs : List (Key × V)} {es : List En} {p : Int} (h : Ent H kvs es) : (valV kvs (Sum.inl p)).isSome = decide (p ∈ es.map (·.1)) := by
  induction h with
  | nil => rfl
  | @cons q w g t kvs es _ _ ih =>
    rw [valV_cons]
    by_cases e : (Sum.inl q : Key) = Sum.inl p
    · rw [if_pos e]
      have := Sum.inl.inj e
      subst this
      simp
    · rw [if_neg e, ih]
      have : p ≠ q := fun z => e (by rw [z])
      simp [this]
/-- for .. in d.items(), the dict locked -/
theorem l_items {σ : St} {H : Hp} {g : TG} {tb : TS} {d : Addr} {o : Obj} {kvs : List (Key × V)} {nx bk ct : St → Hp → Prop} {rt : VK} (Pv : Nat → St → Hp → Prop) (h0 : Pv 0 σ H) (hl : ∀ i σ' H', i ≤ kvs.length → Pv i σ' H' → H' d = some (.frz o (.dK kvs)))
    (hs : ∀ i k v σ' H' T, kvs[i]? = some (k, v) → Pv i σ' H' → H' T = none → g (.ref T) σ' (upd H' T (.tup [kV k, v])) fun σ2 H2 => tb ⟨Pv (i + 1), rt, nx, Pv (i + 1)⟩ σ2 H2) (hd : ∀ σ' H', Pv kvs.length σ' H' → nx σ' H') : ForW (Iti d o kvs) g tb ⟨nx, rt, bk, ct⟩ σ H := by
  refine ⟨fun i m σ' H' => m + i = kvs.length ∧ Pv i σ' H', ⟨kvs.length, rfl, h0⟩, fun i m σ' H' h => ?_⟩
  obtain ⟨hm, hp⟩ := h
  have q := hl i σ' H' (by omega) hp
  cases m with
  | zero =>
    have e : i = kvs.length := by omega
    subst e
    exact .inl ⟨⟨q, Nat.le_refl _⟩, hd σ' H' hp⟩
  | succ m =>
    refine .inr ⟨⟨q, by omega⟩, Pv (i + 1), fun σ2 H2 p2 => ⟨m, by omega, by omega, p2⟩, fun v H2 y => ?_⟩
    obtain ⟨T, k, w, hx, rfl, hT, rfl⟩ := y
    exact hs i k w σ' H' T hx hp hT
instance s_forI {D : Ends} {td : TE} {g : TG} {tb : TS} {σ : St} {H : Hp} : Stp (tFor (iItems td) g tb D σ H) (td σ H fun x H1 => ∃ d o kvs, x = .ref d ∧ H1 d = some (.frz o (.dK kvs)) ∧ ForW (Iti d o kvs) g tb D σ H1) := ⟨fun h => h⟩
instance s_meth {C : Addr} {m : Str} {sp : Sp} {dvs : List V} {E : XK} {ta : TE} {t : TA} {σ : St} {H : Hp} {Q : VK} : Stp (tMeth C m sp dvs E ta t σ H Q) (ta σ H fun x H1 => ∃ a dx fs, x = .ref a ∧ H1 a = some (.ins C dx fs) ∧ fs.lookup m = none ∧ t σ H1 fun vs H2 => sp (x :: (vs ++ dvs)) H2 Q E) := ⟨fun h => h⟩
instance s_bm0 {K : PySem.W.Frag} {T : String} {r : V → List V → Hp → VK → Prop} {to : TE} {σ : St} {H : Hp} {Q : VK} : Stp (tBM0 K T r to σ H Q) (to σ H fun x H1 => tyV K T x H1 ∧ r x [] H1 Q) := ⟨fun h => h⟩
/-! ## Ground2 -/
/-! ### the ground: begin, change_cell, cost_since -/
theorem lkf_pages {A : GA} {S : GS} : (flds A S).lookup ("pages" : Str) = some (.int S.pg : V) := by unfold flds; rw [lookup_put, if_pos rfl]
theorem lkf_width {A : GA} {S : GS} : (flds A S).lookup ("width" : Str) = some (.int S.wd : V) := by unfold flds; rw [lookup_put, if_neg (by decide), lookup_put, if_pos rfl]
theorem lkf_fill {A : GA} {S : GS} : (flds A S).lookup ("fill" : Str) = some (.int S.fl : V) := by unfold flds; rw [lookup_put, if_neg (by decide), lookup_put, if_neg (by decide), lookup_put, if_pos rfl]
theorem lkf_allowance {A : GA} {S : GS} : (flds A S).lookup ("allowance" : Str) = some (odV S.al : V) := by unfold flds; rw [lookup_put, if_neg (by decide), lookup_put, if_neg (by decide), lookup_put, if_neg (by decide), lookup_put, if_pos rfl]
theorem lkf_charged {A : GA} {S : GS} : (flds A S).lookup ("charged" : Str) = some (.int S.ch : V) := by unfold flds; rw [lookup_put, if_neg (by decide), lookup_put, if_neg (by decide), lookup_put, if_neg (by decide), lookup_put, if_neg (by decide), lookup_put, if_pos rfl]
theorem lkf_cell_words {A : GA} {S : GS} : (flds A S).lookup ("cell_words" : Str) = some (.ref A.w : V) := by unfold flds; rw [lookup_put, if_neg (by decide), lookup_put, if_neg (by decide), lookup_put, if_neg (by decide), lookup_put, if_neg (by decide), lookup_put, if_neg (by decide), lookup_put, if_pos rfl]
theorem lkf_cell_holders {A : GA} {S : GS} : (flds A S).lookup ("cell_holders" : Str) = some (.ref A.h : V) := by unfold flds; rw [lookup_put, if_neg (by decide), lookup_put, if_neg (by decide), lookup_put, if_neg (by decide), lookup_put, if_neg (by decide), lookup_put, if_neg (by decide), lookup_put, if_neg (by decide), lookup_put, if_pos rfl]
theorem lkf_open_deeds {A : GA} {S : GS} : (flds A S).lookup ("open_deeds" : Str) = some (.ref A.o : V) := by unfold flds; rw [lookup_put, if_neg (by decide), lookup_put, if_neg (by decide), lookup_put, if_neg (by decide), lookup_put, if_neg (by decide), lookup_put, if_neg (by decide), lookup_put, if_neg (by decide), lookup_put, if_neg (by decide), lookup_put, if_pos rfl]
theorem lkm_begin {A : GA} {S : GS} : (flds A S).lookup ("begin" : Str) = none := by unfold flds; rw [lookup_put, if_neg (by decide), lookup_put, if_neg (by decide), lookup_put, if_neg (by decide), lookup_put, if_neg (by decide), lookup_put, if_neg (by decide), lookup_put, if_neg (by decide), lookup_put, if_neg (by decide), lookup_put, if_neg (by decide)]; rfl
theorem lkm_check_place {A : GA} {S : GS} : (flds A S).lookup ("check_place" : Str) = none := by unfold flds; rw [lookup_put, if_neg (by decide), lookup_put, if_neg (by decide), lookup_put, if_neg (by decide), lookup_put, if_neg (by decide), lookup_put, if_neg (by decide), lookup_put, if_neg (by decide), lookup_put, if_neg (by decide), lookup_put, if_neg (by decide)]; rfl
theorem lkm_check_guard {A : GA} {S : GS} : (flds A S).lookup ("check_guard" : Str) = none := by unfold flds; rw [lookup_put, if_neg (by decide), lookup_put, if_neg (by decide), lookup_put, if_neg (by decide), lookup_put, if_neg (by decide), lookup_put, if_neg (by decide), lookup_put, if_neg (by decide), lookup_put, if_neg (by decide), lookup_put, if_neg (by decide)]; rfl
theorem lkm_change_cell {A : GA} {S : GS} : (flds A S).lookup ("change_cell" : Str) = none := by unfold flds; rw [lookup_put, if_neg (by decide), lookup_put, if_neg (by decide), lookup_put, if_neg (by decide), lookup_put, if_neg (by decide), lookup_put, if_neg (by decide), lookup_put, if_neg (by decide), lookup_put, if_neg (by decide), lookup_put, if_neg (by decide)]; rfl
theorem lkm_commit {A : GA} {S : GS} : (flds A S).lookup ("commit" : Str) = none := by unfold flds; rw [lookup_put, if_neg (by decide), lookup_put, if_neg (by decide), lookup_put, if_neg (by decide), lookup_put, if_neg (by decide), lookup_put, if_neg (by decide), lookup_put, if_neg (by decide), lookup_put, if_neg (by decide), lookup_put, if_neg (by decide)]; rfl
theorem lkm_cancel {A : GA} {S : GS} : (flds A S).lookup ("cancel" : Str) = none := by unfold flds; rw [lookup_put, if_neg (by decide), lookup_put, if_neg (by decide), lookup_put, if_neg (by decide), lookup_put, if_neg (by decide), lookup_put, if_neg (by decide), lookup_put, if_neg (by decide), lookup_put, if_neg (by decide), lookup_put, if_neg (by decide)]; rfl
theorem lkm_cost_since {A : GA} {S : GS} : (flds A S).lookup ("cost_since" : Str) = none := by unfold flds; rw [lookup_put, if_neg (by decide), lookup_put, if_neg (by decide), lookup_put, if_neg (by decide), lookup_put, if_neg (by decide), lookup_put, if_neg (by decide), lookup_put, if_neg (by decide), lookup_put, if_neg (by decide), lookup_put, if_neg (by decide)]; rfl
theorem lkm_check_fill {A : GA} {S : GS} : (flds A S).lookup ("check_fill" : Str) = none := by unfold flds; rw [lookup_put, if_neg (by decide), lookup_put, if_neg (by decide), lookup_put, if_neg (by decide), lookup_put, if_neg (by decide), lookup_put, if_neg (by decide), lookup_put, if_neg (by decide), lookup_put, if_neg (by decide), lookup_put, if_neg (by decide)]; rfl
theorem lkm_write {A : GA} {S : GS} : (flds A S).lookup ("write" : Str) = none := by unfold flds; rw [lookup_put, if_neg (by decide), lookup_put, if_neg (by decide), lookup_put, if_neg (by decide), lookup_put, if_neg (by decide), lookup_put, if_neg (by decide), lookup_put, if_neg (by decide), lookup_put, if_neg (by decide), lookup_put, if_neg (by decide)]; rfl
theorem lkm_poke {A : GA} {S : GS} : (flds A S).lookup ("poke" : Str) = none := by unfold flds; rw [lookup_put, if_neg (by decide), lookup_put, if_neg (by decide), lookup_put, if_neg (by decide), lookup_put, if_neg (by decide), lookup_put, if_neg (by decide), lookup_put, if_neg (by decide), lookup_put, if_neg (by decide), lookup_put, if_neg (by decide)]; rfl
theorem lkm_pass_on {A : GA} {S : GS} : (flds A S).lookup ("pass_on" : Str) = none := by unfold flds; rw [lookup_put, if_neg (by decide), lookup_put, if_neg (by decide), lookup_put, if_neg (by decide), lookup_put, if_neg (by decide), lookup_put, if_neg (by decide), lookup_put, if_neg (by decide), lookup_put, if_neg (by decide), lookup_put, if_neg (by decide)]; rfl
theorem lkm_image {A : GA} {S : GS} : (flds A S).lookup ("image" : Str) = none := by unfold flds; rw [lookup_put, if_neg (by decide), lookup_put, if_neg (by decide), lookup_put, if_neg (by decide), lookup_put, if_neg (by decide), lookup_put, if_neg (by decide), lookup_put, if_neg (by decide), lookup_put, if_neg (by decide), lookup_put, if_neg (by decide)]; rfl
theorem Gd.gw {c : Cl} {H : Hp} {A : GA} {S : GS} (h : Gd c H A S) : A.g ≠ A.w ∧ A.g ≠ A.h ∧ A.g ≠ A.o := by
  refine ⟨fun z => ?_, fun z => ?_, fun z => ?_⟩
  · have := h.ob
    rw [z, h.wl] at this
    cases this
  · have := h.ob
    rw [z, h.hl] at this
    cases this
  · have := h.ob
    rw [z, h.ol] at this
    cases this
theorem Gd.dw {c : Cl} {H : Hp} {A : GA} {S : GS} (h : Gd c H A S) : A.w ∉ A.dd ∧ A.h ∉ A.dd ∧ A.o ∉ A.dd ∧ A.g ∉ A.dd := by
  refine ⟨fun z => ?_, fun z => ?_, fun z => ?_, fun z => ?_⟩
  · obtain ⟨kvs, e⟩ := h.dl.at_ _ z
    rw [h.wl] at e
    cases e
  · obtain ⟨kvs, e⟩ := h.dl.at_ _ z
    rw [h.hl] at e
    cases e
  · obtain ⟨kvs, e⟩ := h.dl.at_ _ z
    rw [h.ol] at e
    cases e
  · obtain ⟨kvs, e⟩ := h.dl.at_ _ z
    rw [h.ob] at e
    cases e
theorem not_tup {H : Hp} {a : Addr} {o : HO} (h : H a = some o) (ho : ∀ xs, o ≠ .tup xs) : ∀ xs, H a ≠ some (.tup xs) := fun xs e => by
  rw [h] at e
  exact ho xs (Option.some.inj e)
/-- a word, a holder written -/
theorem Gd.setW {c : Cl} {H : Hp} {A : GA} {S : GS} {ws : List Int} (h : Gd c H A S) (hl : ws.length = S.ws.length) : Gd c (upd H A.w (.lst (ws.map V.int))) A { S with ws := ws } := by
  obtain ⟨g1, g2, g3⟩ := h.gw
  obtain ⟨d1, d2, d3, d4⟩ := h.dw
  exact ⟨upd_off g1 h.ob, upd_same, upd_off (Ne.symm h.n1) h.hl, upd_off (Ne.symm h.n2) h.ol, h.dl.upd (not_tup h.wl (fun xs z => by cases z)) d1, h.n1, h.n2, h.n3, h.nd, hl.trans h.le, by show ws.length ≤ _; rw [hl]; exact h.sz, h.dn, fun es m => ⟨(h.ok es m).1, fun e he => by show 0 ≤ e.1 ∧ e.1 < (ws.length : Int); rw [hl]; exact (h.ok es m).2 e he⟩⟩
theorem Gd.setH {c : Cl} {H : Hp} {A : GA} {S : GS} {hs : List Int} (h : Gd c H A S) (hl : hs.length = S.hs.length) : Gd c (upd H A.h (.lst (hs.map V.int))) A { S with hs := hs } := by
  obtain ⟨g1, g2, g3⟩ := h.gw
  obtain ⟨d1, d2, d3, d4⟩ := h.dw
  exact ⟨upd_off g2 h.ob, upd_off h.n1 h.wl, upd_same, upd_off (Ne.symm h.n3) h.ol, h.dl.upd (not_tup h.hl (fun xs z => by cases z)) d2, h.n1, h.n2, h.n3, h.nd, h.le.trans hl.symm, h.sz, h.dn, h.ok⟩
def sp_begin (K : PySem.W.Frag) (c : Cl) : Sp := fun vs H Q _ => ∃ (A : GA) (S : GS), vs = [.ref A.g] ∧ Gd c H A S ∧ GdK K c ∧ S.ds.length < 1000 ∧
  ∀ d H', Gd c H' { A with dd := A.dd ++ [d] } { S with ds := S.ds ++ [[]] } → H d = none → Out [A.o] H H' → Q (.int (S.ds.length + 1 : Nat)) H'
def N_c_Ground_begin : List Str := ["self"]
def t_c_Ground_begin (K : PySem.W.Frag) : TS := (tSeq (tDrop (tBM K "list" rAppend (tFld K (tVar 0) "open_deeds") (tCons tDNewK tNil)))
  (tRet (tCB (rLen K) (tCons (tFld K (tVar 0) "open_deeds") tNil))))
theorem pure_begin {K : PySem.W.Frag} {c : Cl} {vs : List V} {H : Hp} {Q : VK} {E : XK} (h : sp_begin K c vs H Q E) : t_c_Ground_begin K { nx := fun _ H' => Q .non H', rt := Q } (start N_c_Ground_begin vs) H := by
  obtain ⟨A, S, rfl, G, R, dl, k⟩ := h
  obtain ⟨g1, g2, g3⟩ := G.gw
  obtain ⟨d1, d2, d3, d4⟩ := G.dw
  have ln := G.dl.length
  unfold t_c_Ground_begin
  fold_lay
  refine i_gfld R G.ob (by simp) lkf_open_deeds ?_
  refine i_app G.ol ?_
  fold_lay
  intro d hd
  have hol : upd H d (.dK []) A.o = some (.lst (A.dd.map V.ref)) := upd_keep hd G.ol
  fold_lay
  refine i_put hol (by rw [List.length_map]; omega) ?_
  have s1 := same_new (o := .dK []) hd
  have ndo : d ≠ A.o := Ne.symm (ne_of_none G.ol hd)
  have hd0 : d ∉ A.dd := fun z => by
    obtain ⟨kvs, e⟩ := G.dl.at_ _ z
    rw [hd] at e
    cases e
  have G2 : Gd c (upd (upd H d (.dK [])) A.o (.lst (A.dd.map V.ref ++ [.ref d]))) { A with dd := A.dd ++ [d] } { S with ds := S.ds ++ [[]] } := by
    have dls := ((G.dl.mono s1).upd (o := .lst (A.dd.map V.ref ++ [.ref d])) (a := A.o) (not_tup hol (fun xs z => by cases z)) d3).snoc (d := d) (kvs := []) (es := []) (upd_off ndo upd_same) .nil
    refine ⟨upd_off g3 (s1 _ _ G.ob), upd_off G.n2 (s1 _ _ G.wl), upd_off G.n3 (s1 _ _ G.hl), ?_, dls, G.n1, G.n2, G.n3, ?_, G.le, G.sz, ?_, fun es m => ?_⟩
    · show upd _ A.o _ A.o = some (.lst ((A.dd ++ [d]).map V.ref))
      rw [upd_same, List.map_append]
      rfl
    · exact List.nodup_append.mpr ⟨G.nd, by simp, fun a ha b hb => by
        rw [List.mem_singleton.mp hb]
        exact fun z => hd0 (z ▸ ha)⟩
    · show (S.ds ++ [[]]).length ≤ 1000
      rw [List.length_append]
      show S.ds.length + 1 ≤ 1000
      omega
    · rcases List.mem_append.mp m with m | m
      · exact G.ok es m
      · rw [List.mem_singleton.mp m]
        exact ⟨List.nodup_nil, fun e he => by cases he⟩
  have O2 : Out [A.o] H (upd (upd H d (.dK [])) A.o (.lst (A.dd.map V.ref ++ [.ref d]))) := (Same.out s1).trans (out_upd (by simp))
  have kk := k d _ G2 hd O2
  have ob2 := G2.ob
  have ol2 := G2.ol
  generalize upd (upd H d (.dK [])) A.o (.lst (A.dd.map V.ref ++ [.ref d])) = H2 at *
  fold_lay
  refine i_gfld R ob2 (by simp) lkf_open_deeds ?_
  fold_lay
  show Q (.int ((List.map V.ref (A.dd ++ [d])).length : Nat)) H2
  have e : (List.map V.ref (A.dd ++ [d])).length = S.ds.length + 1 := by
    rw [List.length_map, List.length_append, ln]
    rfl
  rw [e]
  exact kk
/-! ## Ground3 -/
/-! ### the ground: cost_since, change_cell, cancel -/
def differs (ws hs : List Int) (e : En) : Bool := decide (ws.getD e.1.toNat 0 ≠ e.2.1 ∨ hs.getD e.1.toNat 0 ≠ e.2.2)
def costOf (ws hs : List Int) (es : List En) : Nat := (es.filter (differs ws hs)).length
theorem getD_at {l : List Int} {p : Int} (h0 : 0 ≤ p) (h1 : p < l.length) : l[p.toNat]? = some (l.getD p.toNat 0) := by
  rw [List.getD_eq_getElem?_getD, List.getElem?_eq_getElem (by omega)]
  rfl
theorem at_ints {l : List Int} {p : Int} (h0 : 0 ≤ p) (h1 : p < l.length) : atI (l.map V.int) p = some (.int (l.getD p.toNat 0)) :=
  at_of (j := p.toNat) (by omega) (by rw [List.getElem?_map, getD_at h0 h1]; rfl)
/-- a top deed's dict -/
def sp_cost_since (K : PySem.W.Frag) (c : Cl) : Sp := fun vs H Q _ => ∃ (A : GA) (S : GS) (d : Addr) (kvs : List (Key × V)) (es : List En), vs = [.ref A.g, .ref d] ∧ Gd c H A S ∧ GdK K c ∧ H d = some (.dK kvs) ∧ Ent H kvs es ∧ (∀ e ∈ es, 0 ≤ e.1 ∧ e.1 < S.ws.length) ∧ es.length ≤ 20000 ∧
  ∀ H', Same H H' → Q (.int (costOf S.ws S.hs es : Nat)) H'
theorem filter_step {p : En → Bool} {l : List En} {i : Nat} {x : En} (h : l[i]? = some x) : ((l.take (i + 1)).filter p).length = ((l.take i).filter p).length + (if p x = true then 1 else 0) := by
  rw [take_more h, List.filter_append, List.length_append]
  by_cases q : p x = true
  · simp [q]
  · simp [q]
def N_c_Ground_cost_since : List Str := ["self", "deed", "cost", "place", "word", "holder"]
def t_c_Ground_cost_since (K : PySem.W.Frag) : TS := (tSeq (tAsg (tC (.int 0)) (gName 2))
  (tSeq (tLock (tFor (iItems (tVar 1)) (gTup K 2 (gCons (gName 3) (gCons (gTup K 2 (gCons (gName 4) (gCons (gName 5) gNil))) gNil))) (tIfS (tOr (tTest (tOp rNe (tOp (rIxL K) (tFld K (tVar 0) "cell_words") (tVar 3)) (tVar 4))) (tTest (tOp rNe (tOp (rIxL K) (tFld K (tVar 0) "cell_holders") (tVar 3)) (tVar 5)))) (tAug 2 (tC (.int 1)) (ipI fun i j => i + j)) tNext)))
  (tRet (tVar 2))))
theorem pure_cost_since {K : PySem.W.Frag} {c : Cl} {vs : List V} {H : Hp} {Q : VK} {E : XK} (h : sp_cost_since K c vs H Q E) : t_c_Ground_cost_since K { nx := fun _ H' => Q .non H', rt := Q } (start N_c_Ground_cost_since vs) H := by
  obtain ⟨A, S, d, kvs, es, rfl, G, R, hd, he, hp, hz, k⟩ := h
  have el := he.length
  unfold t_c_Ground_cost_since
  fold_lay
  refine i_seq ?_
  refine ⟨d, .dK kvs, hd, trivial, fun od => ?_⟩
  have ngd : A.g ≠ d := fun z => by
    have := G.ob
    rw [z, hd] at this
    cases this
  have nwd : A.w ≠ d := fun z => by
    have := G.wl
    rw [z, hd] at this
    cases this
  have nhd : A.h ≠ d := fun z => by
    have := G.hl
    rw [z, hd] at this
    cases this
  have hd1 : upd H d (.frz od (.dK kvs)) d = some (.frz od (.dK kvs)) := upd_same
  have og : upd H d (.frz od (.dK kvs)) A.g = some (.ins c.k_Ground A.dx (flds A S)) := upd_off ngd G.ob
  have ow : upd H d (.frz od (.dK kvs)) A.w = some (.lst (S.ws.map V.int)) := upd_off nwd G.wl
  have oh : upd H d (.frz od (.dK kvs)) A.h = some (.lst (S.hs.map V.int)) := upd_off nhd G.hl
  have he1 : Ent (upd H d (.frz od (.dK kvs))) kvs es := he.upd (not_tup hd (fun xs z => by cases z))
  have back : ∀ H', Same (upd H d (.frz od (.dK kvs))) H' → Same H (upd H' d (.dK kvs)) := fun H' s b u e => by
    by_cases hb : b = d
    · subst hb
      rw [hd] at e
      rw [upd_same]
      exact e
    · exact upd_off hb (s _ _ (upd_off hb e))
  generalize upd H d (.frz od (.dK kvs)) = H1 at *
  fold_lay
  refine ⟨d, od, kvs, rfl, hd1, ?_⟩
  refine l_items (fun i σ' H' => Same H1 H' ∧ ∃ y1 y2 y3, σ' = [some (.ref A.g), some (.ref d), some (.int (((es.take i).filter (differs S.ws S.hs)).length : Nat)), y1, y2, y3]) ⟨Same.refl _, none, none, none, rfl⟩ (fun i σ' H' _ h => h.1 _ _ hd1) ?_ ?_
  · rintro i kk v σ' H2 T hx ⟨s2, y1, y2, y3, rfl⟩ hT
    obtain ⟨p, w, g, t, e1, rfl, rfl, ht⟩ := he1.get hx
    obtain ⟨p0, p1⟩ := hp _ (List.mem_of_getElem? e1)
    have p0 : 0 ≤ p := p0
    have p1 : p < S.ws.length := p1
    have p2 : p < S.hs.length := by rw [← G.le]; exact p1
    have s3 := s2.trans (same_new (o := .tup [.int p, .ref t]) hT)
    have fs := filter_step (p := differs S.ws S.hs) e1
    show gTup K 2 _ (.ref T) _ (upd H2 T (.tup [.int p, .ref t])) _
    have ht3 : upd H2 T (.tup [.int p, .ref t]) t = some (.tup [.int w, .int g]) := s3 _ _ ht
    have hT3 : upd H2 T (.tup [.int p, .ref t]) T = some (.tup [.int p, .ref t]) := upd_same
    generalize upd H2 T (.tup [.int p, .ref t]) = H3 at *
    have next : ∀ b : Bool, b = differs S.ws S.hs (p, w, g) → ∀ y, y = (((es.take i).filter (differs S.ws S.hs)).length : Int) + (if b = true then 1 else 0) → Same H1 H3 ∧ ∃ y1 y2 y3, ([some (.ref A.g), some (.ref d), some (.int y), some (.int p), some (.int w), some (.int g)] : St) = [some (.ref A.g), some (.ref d), some (.int (((es.take (i + 1)).filter (differs S.ws S.hs)).length : Nat)), y1, y2, y3] := fun b hb y hy => by
      refine ⟨s3, some (.int p), some (.int w), some (.int g), ?_⟩
      rw [fs, hy, hb]
      have : ((if differs S.ws S.hs (p, w, g) = true then 1 else 0 : Nat) : Int) = (if differs S.ws S.hs (p, w, g) = true then 1 else 0 : Int) := by split <;> rfl
      rw [Int.natCast_add, this]
    fold_lay
    refine i_gfld R (s3 _ _ og) (by simp) lkf_cell_words ?_
    fold_lay
    refine i_ixL (sqL (s3 _ _ ow)) (at_ints p0 p1) ?_
    fold_lay
    refine i_ifn (fun q => ?_) (fun q => ?_)
    · fold_lay
      exact next true (decide_eq_true (.inl q)).symm _ rfl
    · fold_lay
      refine i_gfld R (s3 _ _ og) (by simp) lkf_cell_holders ?_
      fold_lay
      refine i_ixL (sqL (s3 _ _ oh)) (at_ints p0 p2) ?_
      fold_lay
      refine i_ifn (fun q2 => ?_) (fun q2 => ?_)
      · fold_lay
        exact next true (decide_eq_true (.inr q2)).symm _ rfl
      · fold_lay
        exact next false (decide_eq_false (fun z => z.elim (fun a => a q) (fun b => b q2))).symm _ (by simp)
  · rintro σ' H2 ⟨s2, y1, y2, y3, rfl⟩
    rw [el, List.take_length]
    refine ⟨s2 _ _ hd1, ?_⟩
    fold_lay
    exact k _ (back H2 s2)
/-- a word and a holder put, noted in the top deed -/
def note (ws hs : List Int) (p : Int) (es : List En) : List En := if p ∈ es.map (·.1) then es else es ++ [(p, ws.getD p.toNat 0, hs.getD p.toNat 0)]
theorem Gd.setD {c : Cl} {H : Hp} {A : GA} {S : GS} {dd0 : List Addr} {d : Addr} {ds0 : List (List En)} {es es' : List En} {kvs kvs' : List (Key × V)} (G : Gd c H A S) (ea : A.dd = dd0 ++ [d]) (eS : S.ds = ds0 ++ [es]) (hd : H d = some (.dK kvs)) (hdl0 : Dds H dd0 ds0) (he : Ent H kvs' es') (hok : (es'.map (·.1)).Nodup ∧ ∀ e ∈ es', 0 ≤ e.1 ∧ e.1 < S.ws.length) :
    Gd c (upd H d (.dK kvs')) A { S with ds := ds0 ++ [es'] } := by
  obtain ⟨d1, d2, d3, d4⟩ := G.dw
  have din : d ∈ A.dd := by rw [ea]; simp
  have nt := not_tup hd (fun xs z => by cases z)
  have nd := G.nd
  rw [ea] at nd
  have nd0 : d ∉ dd0 := fun z => (List.nodup_append.mp nd).2.2 d z d (by simp) rfl
  refine ⟨upd_off (fun z => d4 (z ▸ din)) G.ob, upd_off (fun z => d1 (z ▸ din)) G.wl, upd_off (fun z => d2 (z ▸ din)) G.hl, upd_off (fun z => d3 (z ▸ din)) G.ol, ?_, G.n1, G.n2, G.n3, G.nd, G.le, G.sz, ?_, fun x m => ?_⟩
  · rw [ea]
    exact (hdl0.upd nt nd0).snoc upd_same (he.upd nt)
  · have := G.dn
    rw [eS, List.length_append] at this
    show (ds0 ++ [es']).length ≤ 1000
    rw [List.length_append]
    exact this
  · rcases List.mem_append.mp m with m | m
    · exact G.ok x (by rw [eS]; exact List.mem_append_left _ m)
    · rw [List.mem_singleton.mp m]
      exact hok
def sp_change_cell (K : PySem.W.Frag) (c : Cl) : Sp := fun vs H Q _ => ∃ (A : GA) (S : GS) (dd0 : List Addr) (d : Addr) (ds0 : List (List En)) (es : List En) (p w h : Int), vs = [.ref A.g, .int p, .int w, .int h] ∧ Gd c H A S ∧ GdK K c ∧ A.dd = dd0 ++ [d] ∧ S.ds = ds0 ++ [es] ∧ 0 ≤ p ∧ p < S.ws.length ∧ es.length ≤ 20000 ∧
  ∀ H', Gd c H' A { S with ws := S.ws.set p.toNat w, hs := S.hs.set p.toNat h, ds := ds0 ++ [note S.ws S.hs p es] } → Out [A.w, A.h, d] H H' → Q .non H'
theorem nodup_snoc {l : List Int} {p : Int} (h : l.Nodup) (n : p ∉ l) : (l ++ [p]).Nodup := List.nodup_append.mpr ⟨h, by simp, fun a ha b hb => by
  rw [List.mem_singleton.mp hb]
  exact fun z => n (z ▸ ha)⟩
theorem set_ints {l : List Int} {i : Nat} {w : Int} : (l.map V.int).set i (.int w) = (l.set i w).map V.int := by
  rw [List.map_set]
theorem ix_ints {l : List Int} {p : Int} (h0 : 0 ≤ p) (h1 : p < l.length) : ixN (l.map V.int).length p = some p.toNat := by
  rw [List.length_map]
  unfold ixN
  rw [if_pos h0, if_pos (by omega)]
def N_c_Ground_change_cell : List Str := ["self", "place", "word", "holder", "deed"]
def t_c_Ground_change_cell (K : PySem.W.Frag) : TS := (tSeq (tAsg (tOp (rIxL K) (tFld K (tVar 0) "open_deeds") (tUn oNeg (tC (.int 1)))) (gName 4))
  (tSeq (tIfS (tB (tDNotIn (tVar 1) (tVar 4))) (sDPut (tVar 4) (tVar 1) (tTup (tCons (tOp (rIxL K) (tFld K (tVar 0) "cell_words") (tVar 1)) (tCons (tOp (rIxL K) (tFld K (tVar 0) "cell_holders") (tVar 1)) tNil)))) tNext)
  (tSeq (tAsg (tVar 2) (gSub (tFld K (tVar 0) "cell_words") (tVar 1) rSetL))
  (tAsg (tVar 3) (gSub (tFld K (tVar 0) "cell_holders") (tVar 1) rSetL)))))
theorem pure_change_cell {K : PySem.W.Frag} {c : Cl} {vs : List V} {H : Hp} {Q : VK} {E : XK} (h : sp_change_cell K c vs H Q E) : t_c_Ground_change_cell K { nx := fun _ H' => Q .non H', rt := Q } (start N_c_Ground_change_cell vs) H := by
  obtain ⟨A, S, dd0, d, ds0, es, p, w, hh, rfl, G, R, ea, eS, p0, p1, ez, k⟩ := h
  have p2 : p < S.hs.length := by rw [← G.le]; exact p1
  have hdl := G.dl
  rw [ea, eS] at hdl
  obtain ⟨dd1, d1, kvs, e1, hdl0, hd, he⟩ := hdl.last
  obtain ⟨rfl, e2⟩ := List.append_inj' e1 rfl
  obtain rfl : d = d1 := by simpa using e2
  have hok := G.ok es (by rw [eS]; simp)
  unfold t_c_Ground_change_cell
  fold_lay
  refine i_gfld R G.ob (by simp) lkf_open_deeds ?_
  fold_lay
  have hol := G.ol
  rw [ea, List.map_append] at hol
  refine i_ixL (sqL hol) (v := .ref d) ?_ ?_
  · unfold atI ixN
    have : (List.map V.ref dd0 ++ List.map V.ref [d]).length = dd0.length + 1 := by simp
    rw [this, if_neg (by omega), if_pos (by omega)]
    show (List.map V.ref dd0 ++ [.ref d])[(-1 + ((dd0.length + 1 : Nat) : Int)).toNat]? = _
    rw [show (-1 + ((dd0.length + 1 : Nat) : Int)).toNat = (List.map V.ref dd0).length by rw [List.length_map]; omega]
    simp
  fold_lay
  have hw0 := at_ints (l := S.ws) p0 p1
  have hh0 := at_ints (l := S.hs) p0 p2
  refine i_cut (fun σ' H' => Gd c H' A { S with ds := ds0 ++ [note S.ws S.hs p es] } ∧ Out [d] H H' ∧ σ' = [some (.ref A.g), some (.int p), some (.int w), some (.int hh), some (.ref d)]) ?_ (fun nx key => ?_)
  rotate_left
  · fold_lay
    refine ⟨d, _, rfl, DGet.k (k := Sum.inl p) hd, ?_⟩
    fold_lay
    rw [he.val]
    refine i_ifn (fun g => ?_) (fun g => ?_)
    · fold_lay
      refine i_gfld R G.ob (by simp) lkf_cell_words ?_
      fold_lay
      refine i_ixL (sqL G.wl) hw0 ?_
      fold_lay
      refine i_gfld R G.ob (by simp) lkf_cell_holders ?_
      fold_lay
      refine i_ixL (sqL G.hl) hh0 ?_
      fold_lay
      rename_i t ht
      have s1 := same_new (o := .tup [.int (S.ws.getD p.toNat 0), .int (S.hs.getD p.toNat 0)]) ht
      refine ⟨d, _, rfl, DPut.k (k := Sum.inl p) (s1 _ _ hd) (szl (by rw [he.length]; omega)), ?_⟩
      rw [putK_fresh (he.fresh g)]
      refine key _ _ ⟨?_, (Same.out s1).trans (out_upd (by simp)), rfl⟩
      have e : note S.ws S.hs p es = es ++ [(p, S.ws.getD p.toNat 0, S.hs.getD p.toNat 0)] := by
        unfold note
        rw [if_neg g]
      rw [e]
      refine (G.mono s1).setD ea eS (s1 _ _ hd) (hdl0.mono s1) ((he.mono s1).snoc upd_same) ⟨?_, fun x m => ?_⟩
      · rw [List.map_append]
        exact nodup_snoc hok.1 g
      · rcases List.mem_append.mp m with m | m
        · exact hok.2 x m
        · rw [List.mem_singleton.mp m]
          exact ⟨p0, p1⟩
    · fold_lay
      have e : note S.ws S.hs p es = es := by
        unfold note
        rw [if_pos g]
      refine key _ _ ⟨?_, Out.refl _ _, rfl⟩
      rw [e, ← eS]
      exact G
  rintro σ' H2 ⟨G2, O2, rfl⟩
  have kk := k
  fold_lay
  refine i_gfld R G2.ob (by simp) lkf_cell_words ?_
  fold_lay
  refine i_setL G2.wl (ix_ints (l := S.ws) p0 p1) ?_
  rw [set_ints]
  have G3 := G2.setW (ws := S.ws.set p.toNat w) (by rw [List.length_set])
  have O3 : Out [A.w, A.h, d] H (upd H2 A.w (.lst ((S.ws.set p.toNat w).map V.int))) := (O2.wide (by simp)).trans (out_upd (by simp))
  generalize upd H2 A.w (.lst ((S.ws.set p.toNat w).map V.int)) = H3 at *
  fold_lay
  refine i_gfld R G3.ob (by simp) lkf_cell_holders ?_
  fold_lay
  refine i_setL G3.hl (ix_ints (l := S.hs) p0 p2) ?_
  rw [set_ints]
  exact k _ (G3.setH (hs := S.hs.set p.toNat hh) (by rw [List.length_set])) (O3.trans (out_upd (by simp)))
/-! ## Ground4 -/
/-! ### the ground: cancel -/
theorem Gd.off {c : Cl} {H : Hp} {A : GA} {S : GS} {a : Addr} {o : HO} (G : Gd c H A S) (n1 : a ≠ A.g) (n2 : a ≠ A.w) (n3 : a ≠ A.h) (n4 : a ≠ A.o) (n5 : a ∉ A.dd) (nt : ∀ xs, H a ≠ some (.tup xs)) : Gd c (upd H a o) A S :=
  ⟨upd_off (Ne.symm n1) G.ob, upd_off (Ne.symm n2) G.wl, upd_off (Ne.symm n3) G.hl, upd_off (Ne.symm n4) G.ol, G.dl.upd nt n5, G.n1, G.n2, G.n3, G.nd, G.le, G.sz, G.dn, G.ok⟩
/-- the top deed, and what stands below it -/
theorem Gd.top {c : Cl} {H : Hp} {A : GA} {S : GS} {ds0 : List (List En)} {es : List En} (G : Gd c H A S) (eS : S.ds = ds0 ++ [es]) :
    ∃ dd0 d kvs, A.dd = dd0 ++ [d] ∧ Dds H dd0 ds0 ∧ H d = some (.dK kvs) ∧ Ent H kvs es ∧ d ∉ dd0 ∧ dd0.Nodup := by
  have hdl := G.dl
  rw [eS] at hdl
  obtain ⟨dd0, d, kvs, e1, h1, h2, h3⟩ := hdl.last
  have nd := G.nd
  rw [e1] at nd
  obtain ⟨q1, _, q3⟩ := List.nodup_append.mp nd
  exact ⟨dd0, d, kvs, e1, h1, h2, h3, fun z => q3 d z d (by simp) rfl, q1⟩
theorem Gd.pop {c : Cl} {H : Hp} {A : GA} {S : GS} {ds0 : List (List En)} {es : List En} {dd0 : List Addr} {d : Addr} (G : Gd c H A S) (eS : S.ds = ds0 ++ [es]) (ea : A.dd = dd0 ++ [d]) (h1 : Dds H dd0 ds0) (q1 : dd0.Nodup) :
    Gd c (upd H A.o (.lst (dd0.map V.ref))) { A with dd := dd0 } { S with ds := ds0 } := by
  obtain ⟨g1, g2, g3⟩ := G.gw
  obtain ⟨d1, d2, d3, d4⟩ := G.dw
  refine ⟨upd_off g3 G.ob, upd_off G.n2 G.wl, upd_off G.n3 G.hl, upd_same, h1.upd (not_tup G.ol (fun xs z => by cases z)) (fun z => d3 (by rw [ea]; exact List.mem_append_left _ z)), G.n1, G.n2, G.n3, q1, G.le, G.sz, ?_, fun x m => G.ok x (by rw [eS]; exact List.mem_append_left _ m)⟩
  have := G.dn
  rw [eS, List.length_append] at this
  show ds0.length ≤ 1000
  omega
def restW (es : List En) (ws : List Int) : List Int := es.foldl (fun l e => l.set e.1.toNat e.2.1) ws
def restH (es : List En) (hs : List Int) : List Int := es.foldl (fun l e => l.set e.1.toNat e.2.2) hs
theorem restW_len {es : List En} : ∀ {ws : List Int}, (restW es ws).length = ws.length := by
  induction es with
  | nil => intro ws; rfl
  | cons e r ih =>
    intro ws
    show (restW r (ws.set e.1.toNat e.2.1)).length = _
    rw [ih, List.length_set]
theorem restH_len {es : List En} : ∀ {ws : List Int}, (restH es ws).length = ws.length := by
  induction es with
  | nil => intro ws; rfl
  | cons e r ih =>
    intro ws
    show (restH r (ws.set e.1.toNat e.2.2)).length = _
    rw [ih, List.length_set]
theorem restW_more {es : List En} {i : Nat} {x : En} {ws : List Int} (h : es[i]? = some x) : restW (es.take (i + 1)) ws = (restW (es.take i) ws).set x.1.toNat x.2.1 := by
  unfold restW
  rw [take_more h, List.foldl_append]
  rfl
theorem restH_more {es : List En} {i : Nat} {x : En} {ws : List Int} (h : es[i]? = some x) : restH (es.take (i + 1)) ws = (restH (es.take i) ws).set x.1.toNat x.2.2 := by
  unfold restH
  rw [take_more h, List.foldl_append]
  rfl
abbrev unkA (H : Hp) (d : Addr) : Prop := ErAt H d "Unknown" [("parameter", .str "deed")] [.str "deed"]
def sp_cancel (K : PySem.W.Frag) (c : Cl) : Sp := fun vs H Q E => ∃ (A : GA) (S : GS), vs = [.ref A.g] ∧ Gd c H A S ∧ GdK K c ∧ ErC K c.k_Unknown ["told", "parameter"] ∧
  (S.ds = [] → ∀ d H', unkA H' d → Same H H' → E (.ref c.k_Unknown) (some d) H') ∧
  (∀ ds0 es, S.ds = ds0 ++ [es] → es.length ≤ 20000 ∧ ∀ dd0 d H', A.dd = dd0 ++ [d] → Gd c H' { A with dd := dd0 } { S with ws := restW es S.ws, hs := restH es S.hs, ds := ds0 } → Out [A.w, A.h, A.o] H H' → Q .non H')
theorem snoc_of {α : Type} (l : List α) : l = [] ∨ ∃ r x, l = r ++ [x] := by
  rcases List.eq_nil_or_concat l with h | ⟨r, x, h⟩
  · exact .inl h
  · exact .inr ⟨r, x, by simpa using h⟩
theorem i_popL {K : PySem.W.Frag} {H : Hp} {Q : VK} {l : Addr} {xs : List V} {y : V} (h : H l = some (.lst (xs ++ [y]))) (q : Q y (upd H l (.lst xs))) : tyV K "list" (.ref l) H ∧ rPop (.ref l) [] H Q := by
  refine ⟨.inl ⟨rfl, _, sqL h⟩, l, _, y, rfl, rfl, h, ?_, ?_⟩
  · rw [List.length_append]
    show (xs ++ [y])[xs.length + 1 - 1]? = some y
    simp
  · rw [List.dropLast_concat]
    exact q
def N_c_Ground_cancel : List Str := ["self", "deed", "place", "word", "holder"]
def t_c_Ground_cancel (K : PySem.W.Frag) (c : Cl) (E : XK) : TS := (tSeq (tIfS (tTest (tOp rEq (tCB (rLen K) (tCons (tFld K (tVar 0) "open_deeds") tNil)) (tC (.int 0)))) (tRz (tMkO c.k_Unknown (sp_init_Unknown K c.k_Unknown) [] (tCons (tC (.str "deed")) tNil)) (fun cls d _ H => E cls d H)) tNext)
  (tSeq (tAsg (tBM0 K "list" rPop (tFld K (tVar 0) "open_deeds")) (gName 1))
  (tLock (tFor (iItems (tVar 1)) (gTup K 2 (gCons (gName 2) (gCons (gTup K 2 (gCons (gName 3) (gCons (gName 4) gNil))) gNil))) (tSeq (tAsg (tVar 3) (gSub (tFld K (tVar 0) "cell_words") (tVar 2) rSetL))
  (tAsg (tVar 4) (gSub (tFld K (tVar 0) "cell_holders") (tVar 2) rSetL)))))))
theorem pure_cancel {K : PySem.W.Frag} {c : Cl} {vs : List V} {H : Hp} {Q : VK} {E : XK} (h : sp_cancel K c vs H Q E) : t_c_Ground_cancel K c E { nx := fun _ H' => Q .non H', rt := Q } (start N_c_Ground_cancel vs) H := by
  obtain ⟨A, S, rfl, G, R, EU, k0, k1⟩ := h
  have ln := G.dl.length
  unfold t_c_Ground_cancel
  fold_depth
  refine i_gfld R G.ob (by simp) lkf_open_deeds ?_
  fold_lay
  rcases snoc_of S.ds with e0 | ⟨ds0, es, eS⟩
  · have : (List.map V.ref A.dd).length = 0 := by rw [List.length_map, ln, e0]; rfl
    refine i_lenL (sqL G.ol) ?_
    rw [this]
    fold_lay
    refine i_yes rfl ?_
    refine i_rzE ?_
    fold_lay
    exact c_mkE (nm := "Unknown") (fs := [("parameter", .str "deed")]) (vs := [.str "deed"]) (by simp) (fun a H Q he hq => ⟨a, _, rfl, he, EU, hq⟩) fun d H' hE hS _ => k0 e0 d H' hE hS
  obtain ⟨ez, k1⟩ := k1 ds0 es eS
  obtain ⟨dd0, d, kvs, ea, h1, hd, he, nd0, q1⟩ := G.top eS
  have : (List.map V.ref A.dd).length = dd0.length + 1 := by rw [List.length_map, ea]; simp
  have hok := (G.ok es (by rw [eS]; simp)).2
  have hol := G.ol
  rw [ea, List.map_append] at hol
  refine i_lenL (sqL G.ol) ?_
  rw [this]
  fold_lay
  refine i_no (by omega) ?_
  fold_lay
  refine i_gfld R G.ob (by simp) lkf_open_deeds ?_
  refine i_popL (y := .ref d) hol ?_
  have G1 := G.pop eS ea h1 q1
  obtain ⟨d1, d2, d3, d4⟩ := G.dw
  have din : d ∈ A.dd := by rw [ea]; simp
  have m1 : d ≠ A.g := fun z => d4 (z ▸ din)
  have m2 : d ≠ A.w := fun z => d1 (z ▸ din)
  have m3 : d ≠ A.h := fun z => d2 (z ▸ din)
  have m4 : d ≠ A.o := fun z => d3 (z ▸ din)
  have hd1 : upd H A.o (.lst (dd0.map V.ref)) d = some (.dK kvs) := upd_off m4 hd
  have he1 : Ent (upd H A.o (.lst (dd0.map V.ref))) kvs es := he.upd (not_tup G.ol (fun xs z => by cases z))
  have O1 : Out [A.w, A.h, A.o] H (upd H A.o (.lst (dd0.map V.ref))) := out_upd (by simp)
  generalize upd H A.o (.lst (dd0.map V.ref)) = H1 at *
  fold_lay
  refine ⟨d, .dK kvs, hd1, trivial, fun od => ?_⟩
  have nt := not_tup hd1 (fun xs z => by cases z)
  have G2 : Gd c (upd H1 d (.frz od (.dK kvs))) { A with dd := dd0 } { S with ds := ds0 } := G1.off m1 m2 m3 m4 nd0 nt
  have he2 : Ent (upd H1 d (.frz od (.dK kvs))) kvs es := he1.upd nt
  have hd2 : upd H1 d (.frz od (.dK kvs)) d = some (.frz od (.dK kvs)) := upd_same
  have back : ∀ H', Out [A.w, A.h, A.o] (upd H1 d (.frz od (.dK kvs))) H' → Out [A.w, A.h, A.o] H1 (upd H' d (.dK kvs)) := fun H' s b u n e => by
    by_cases hb : b = d
    · subst hb
      rw [hd1] at e
      rw [upd_same]
      exact e
    · exact upd_off hb (s _ _ n (upd_off hb e))
  generalize upd H1 d (.frz od (.dK kvs)) = H2 at *
  fold_lay
  refine ⟨d, od, kvs, rfl, hd2, ?_⟩
  refine l_items (fun i σ' H' => H' d = some (.frz od (.dK kvs)) ∧ Gd c H' { A with dd := dd0 } { S with ws := restW (es.take i) S.ws, hs := restH (es.take i) S.hs, ds := ds0 } ∧ Out [A.w, A.h, A.o] H2 H' ∧ Ent H' kvs es ∧ ∃ y1 y2 y3, σ' = [some (.ref A.g), some (.ref d), y1, y2, y3]) ⟨hd2, G2, Out.refl _ _, he2, none, none, none, rfl⟩ (fun i σ' H' _ h => h.1) ?_ ?_
  · rintro i kk v σ' H3 T hx ⟨hd3, G3, O3, he3, y1, y2, y3, rfl⟩ hT
    obtain ⟨p, w, g, t, e1, rfl, rfl, ht⟩ := he3.get hx
    obtain ⟨p0, p1⟩ := hok _ (List.mem_of_getElem? e1)
    have p0 : 0 ≤ p := p0
    have p1 : p < S.ws.length := p1
    have s4 := same_new (o := .tup [.int p, .ref t]) hT
    show gTup K 2 _ (.ref T) _ (upd H3 T (.tup [.int p, .ref t])) _
    have hT4 : upd H3 T (.tup [.int p, .ref t]) T = some (.tup [.int p, .ref t]) := upd_same
    have ht4 := s4 _ _ ht
    have hd4 := s4 _ _ hd3
    have G4 := G3.mono s4
    have O4 : Out [A.w, A.h, A.o] H2 (upd H3 T (.tup [.int p, .ref t])) := O3.trans (Same.out s4)
    have he4 := he3.mono s4
    generalize upd H3 T (.tup [.int p, .ref t]) = H4 at *
    fold_lay
    refine i_gfld R G4.ob (by simp) lkf_cell_words ?_
    fold_lay
    refine i_setL G4.wl (ix_ints p0 (by show p < ((restW (es.take i) S.ws).length : Int); rw [restW_len]; exact p1)) ?_
    rw [set_ints]
    have G5 := G4.setW (ws := (restW (es.take i) S.ws).set p.toNat w) (by rw [List.length_set])
    have nw : ∀ xs, H4 A.w ≠ some (.tup xs) := not_tup G4.wl (fun xs z => by cases z)
    have he5 := he4.upd (o := .lst (((restW (es.take i) S.ws).set p.toNat w).map V.int)) nw
    have hd5 : upd H4 A.w (.lst (((restW (es.take i) S.ws).set p.toNat w).map V.int)) d = some (.frz od (.dK kvs)) := upd_off m2 hd4
    have O5 : Out [A.w, A.h, A.o] H2 (upd H4 A.w (.lst (((restW (es.take i) S.ws).set p.toNat w).map V.int))) := O4.trans (out_upd (by simp))
    generalize upd H4 A.w (.lst (((restW (es.take i) S.ws).set p.toNat w).map V.int)) = H5 at *
    fold_lay
    refine i_gfld R G5.ob (by simp) lkf_cell_holders ?_
    fold_lay
    refine i_setL G5.hl (ix_ints p0 (by show p < ((restH (es.take i) S.hs).length : Int); rw [restH_len, ← G.le]; exact p1)) ?_
    rw [set_ints]
    have G6 := G5.setH (hs := (restH (es.take i) S.hs).set p.toNat g) (by rw [List.length_set])
    have nh : ∀ xs, H5 A.h ≠ some (.tup xs) := not_tup G5.hl (fun xs z => by cases z)
    refine ⟨upd_off m3 hd5, ?_, O5.trans (out_upd (by simp)), he5.upd nh, _, _, _, rfl⟩
    rw [restW_more e1, restH_more e1]
    exact G6
  · rintro σ' H3 ⟨hd3, G3, O3, he3, y1, y2, y3, rfl⟩
    rw [he.length, List.take_length] at G3
    exact ⟨hd3, k1 dd0 d _ ea (G3.off m1 m2 m3 m4 nd0 (not_tup hd3 (fun xs z => by cases z))) (O1.trans (back H3 O3))⟩
/-! ## Ground5 -/
/-! ### the ground: commit -/
def merge (o es : List En) : List En := es.foldl (fun o e => if e.1 ∈ o.map (·.1) then o else o ++ [e]) o
theorem merge_more {es : List En} {i : Nat} {x : En} {o : List En} (h : es[i]? = some x) : merge o (es.take (i + 1)) = if x.1 ∈ (merge o (es.take i)).map (·.1) then merge o (es.take i) else merge o (es.take i) ++ [x] := by
  unfold merge
  rw [take_more h, List.foldl_append]
  rfl
theorem merge_len {es : List En} : ∀ {o : List En}, (merge o es).length ≤ o.length + es.length := by
  induction es with
  | nil => intro o; exact Nat.le_refl _
  | cons e r ih =>
    intro o
    show (merge (if e.1 ∈ o.map (·.1) then o else o ++ [e]) r).length ≤ _
    refine Nat.le_trans ih ?_
    split
    · simp only [List.length_cons]
      omega
    · simp only [List.length_cons, List.length_append, List.length_nil]
      omega
theorem merge_ok {es : List En} {n : Int} : ∀ {o : List En}, (o.map (·.1)).Nodup → (∀ e ∈ o, 0 ≤ e.1 ∧ e.1 < n) → (∀ e ∈ es, 0 ≤ e.1 ∧ e.1 < n) → ((merge o es).map (·.1)).Nodup ∧ ∀ e ∈ merge o es, 0 ≤ e.1 ∧ e.1 < n := by
  induction es with
  | nil => intro o h1 h2 _; exact ⟨h1, h2⟩
  | cons e r ih =>
    intro o h1 h2 h3
    show ((merge (if e.1 ∈ o.map (·.1) then o else o ++ [e]) r).map (·.1)).Nodup ∧ ∀ x ∈ merge (if e.1 ∈ o.map (·.1) then o else o ++ [e]) r, 0 ≤ x.1 ∧ x.1 < n
    have hr : ∀ x ∈ r, 0 ≤ x.1 ∧ x.1 < n := fun x m => h3 x (List.mem_cons_of_mem _ m)
    by_cases g : e.1 ∈ o.map (·.1)
    · rw [if_pos g]
      exact ih h1 h2 hr
    · rw [if_neg g]
      refine ih ?_ (fun x m => ?_) hr
      · rw [List.map_append]
        exact nodup_snoc h1 g
      · rcases List.mem_append.mp m with m | m
        · exact h2 x m
        · rw [List.mem_singleton.mp m]
          exact h3 e List.mem_cons_self
/-- a field of the ground written -/
theorem Gd.setF {c : Cl} {H : Hp} {A : GA} {S : GS} {al : Option Int} {ch : Int} (h : Gd c H A S) : Gd c (upd H A.g (.ins c.k_Ground A.dx (flds A { S with al := al, ch := ch }))) A { S with al := al, ch := ch } := by
  obtain ⟨g1, g2, g3⟩ := h.gw
  obtain ⟨d1, d2, d3, d4⟩ := h.dw
  exact ⟨upd_same, upd_off (Ne.symm g1) h.wl, upd_off (Ne.symm g2) h.hl, upd_off (Ne.symm g3) h.ol, h.dl.upd (not_tup h.ob (fun xs z => by cases z)) d4, h.n1, h.n2, h.n3, h.nd, h.le, h.sz, h.dn, h.ok⟩
theorem put_al {A : GA} {S : GS} {x : Int} : putF "allowance" (.int x) (flds A S) = flds A { S with al := some x } := by
  unfold flds
  simp only [putF]
  rw [if_neg (by decide), if_neg (by decide), if_neg (by decide), if_pos trivial]
  rfl
theorem put_ch {A : GA} {S : GS} {x : Int} : putF "charged" (.int x) (flds A S) = flds A { S with ch := x } := by
  unfold flds
  simp only [putF]
  rw [if_neg (by decide), if_neg (by decide), if_neg (by decide), if_neg (by decide), if_pos trivial]
theorem i_sfld {K : PySem.W.Frag} {c : Cl} {H : Hp} {A : GA} {S : GS} {f : Str} {y : V} {P : Hp → Prop} (R : GdK K c) (G : Gd c H A S) (hf : f ∈ (["pages", "width", "fill", "allowance", "charged", "cell_words", "cell_holders", "open_deeds"] : List Str)) (q : P (upd H A.g (.ins c.k_Ground A.dx (putF f y (flds A S))))) :
    ∃ a C dx fs, V.ref A.g = .ref a ∧ H a = some (.ins C dx fs) ∧ Cls K C ∧ NoAttr K C f ∧ fs.length < 1000 ∧ P (upd H a (.ins C dx (putF f y fs))) := ⟨A.g, c.k_Ground, A.dx, flds A S, rfl, G.ob, R.cl, R.na f hf, by show 8 < 1000; decide, q⟩
instance s_sfld {K : PySem.W.Frag} {ta tv : TE} {f : Str} {nx bk ct : St → Hp → Prop} {rt : VK} {σ : St} {H : Hp} : Stp (sFld K ta tv f ⟨nx, rt, bk, ct⟩ σ H) (tv σ H fun y H1 => ta σ H1 fun x H2 => ∃ a C dx fs, x = .ref a ∧ H2 a = some (.ins C dx fs) ∧ Cls K C ∧ NoAttr K C f ∧ fs.length < 1000 ∧ nx σ (upd H2 a (.ins C dx (putF f y fs)))) := ⟨fun h => h⟩
theorem i_meth {c : Cl} {H : Hp} {A : GA} {S : GS} {m : Str} {P : Prop} (G : Gd c H A S) (l : (flds A S).lookup m = none) (q : P) : ∃ a dx fs, V.ref A.g = .ref a ∧ H a = some (.ins c.k_Ground dx fs) ∧ fs.lookup m = none ∧ P := ⟨A.g, A.dx, flds A S, rfl, G.ob, l, q⟩
abbrev cutA (H : Hp) (d : Addr) (n l : Int) : Prop := ErAt H d "Cut" [("left", .int l), ("needed", .int n)] [.int n, .int l]
def sp_commit (K : PySem.W.Frag) (c : Cl) : Sp := fun vs H Q E => ∃ (A : GA) (S : GS), vs = [.ref A.g] ∧ Gd c H A S ∧ GdK K c ∧ ErC K c.k_Unknown ["told", "parameter"] ∧ ErC K c.k_Cut ["told", "needed", "left"] ∧ (∀ es ∈ S.ds, es.length ≤ 20000) ∧
  (S.ds = [] → ∀ d H', unkA H' d → Same H H' → E (.ref c.k_Unknown) (some d) H') ∧
  (∀ es, S.ds = [es] → ∀ d, A.dd = [d] →
    (S.al = none → ∀ H', Gd c H' { A with dd := [] } { S with ch := S.ch + (costOf S.ws S.hs es : Nat), ds := [] } → Out [A.g, A.o] H H' → Q (.int (costOf S.ws S.hs es : Nat)) H') ∧
    (∀ a, S.al = some a → ((costOf S.ws S.hs es : Nat) : Int) ≤ a → ∀ H', Gd c H' { A with dd := [] } { S with al := some (a - (costOf S.ws S.hs es : Nat)), ch := S.ch + (costOf S.ws S.hs es : Nat), ds := [] } → Out [A.g, A.o] H H' → Q (.int (costOf S.ws S.hs es : Nat)) H') ∧
    (∀ a, S.al = some a → a < ((costOf S.ws S.hs es : Nat) : Int) → ∀ e H', cutA H' e (costOf S.ws S.hs es : Nat) a → Gd c H' { A with dd := [] } { S with ws := restW es S.ws, hs := restH es S.hs, ds := [] } → Out [A.w, A.h, A.o] H H' → E (.ref c.k_Cut) (some e) H')) ∧
  (∀ ds0 es1 es, S.ds = ds0 ++ [es1] ++ [es] → ∀ dd0 d1 d, A.dd = dd0 ++ [d1] ++ [d] → ∀ H', Gd c H' { A with dd := dd0 ++ [d1] } { S with ds := ds0 ++ [merge es1 es] } → Out [A.o, d1] H H' → Q (.int (costOf S.ws S.hs es : Nat)) H')
theorem ix_last {xs : List V} {y : V} : atI (xs ++ [y]) (-1) = some y := by
  unfold atI ixN
  have : (xs ++ [y]).length = xs.length + 1 := by simp
  rw [this, if_neg (by omega), if_pos (by omega)]
  show (xs ++ [y])[(-1 + ((xs.length + 1 : Nat) : Int)).toNat]? = _
  rw [show (-1 + ((xs.length + 1 : Nat) : Int)).toNat = xs.length by omega]
  simp
def N_c_Ground_commit : List Str := ["self", "deed", "cost", "outer", "place", "old"]
def t_c_Ground_commit (K : PySem.W.Frag) (c : Cl) (E : XK) : TS := (tSeq (tIfS (tTest (tOp rEq (tCB (rLen K) (tCons (tFld K (tVar 0) "open_deeds") tNil)) (tC (.int 0)))) (tRz (tMkO c.k_Unknown (sp_init_Unknown K c.k_Unknown) [] (tCons (tC (.str "deed")) tNil)) (fun cls d _ H => E cls d H)) tNext)
  (tSeq (tAsg (tOp (rIxL K) (tFld K (tVar 0) "open_deeds") (tUn oNeg (tC (.int 1)))) (gName 1))
  (tSeq (tAsg (tMeth c.k_Ground "cost_since" (sp_cost_since K c) [] E0 (tVar 0) (tCons (tVar 1) tNil)) (gName 2))
  (tSeq (tIfS (tTest (tOp rEq (tCB (rLen K) (tCons (tFld K (tVar 0) "open_deeds") tNil)) (tC (.int 1)))) (tSeq (tIfS (tTest (tOp oNotN (tFld K (tVar 0) "allowance") (tC .non))) (tSeq (tIfS (tTest (tOp oLt (tFld K (tVar 0) "allowance") (tVar 2))) (tSeq (tDrop (tMeth c.k_Ground "cancel" (sp_cancel K c) [] E (tVar 0) tNil))
  (tRz (tMkO c.k_Cut (sp_init_Cut K c.k_Cut) [] (tCons (tVar 2) (tCons (tFld K (tVar 0) "allowance") tNil))) (fun cls d _ H => E cls d H))) tNext)
  (sFld K (tVar 0) (tOp oSub (tFld K (tVar 0) "allowance") (tVar 2)) "allowance")) tNext)
  (tSeq (sFld K (tVar 0) (tOp oAdd (tFld K (tVar 0) "charged") (tVar 2)) "charged")
  (tSeq (tDrop (tBM0 K "list" rPop (tFld K (tVar 0) "open_deeds")))
  (tRet (tVar 2))))) tNext)
  (tSeq (tDrop (tBM0 K "list" rPop (tFld K (tVar 0) "open_deeds")))
  (tSeq (tAsg (tOp (rIxL K) (tFld K (tVar 0) "open_deeds") (tUn oNeg (tC (.int 1)))) (gName 3))
  (tSeq (tLock (tFor (iItems (tVar 1)) (gTup K 2 (gCons (gName 4) (gCons (gName 5) gNil))) (tIfS (tB (tDNotIn (tVar 4) (tVar 3))) (sDPut (tVar 3) (tVar 4) (tVar 5)) tNext)))
  (tRet (tVar 2)))))))))
theorem pure_commit {K : PySem.W.Frag} {c : Cl} {vs : List V} {H : Hp} {Q : VK} {E : XK} (h : sp_commit K c vs H Q E) : t_c_Ground_commit K c E { nx := fun _ H' => Q .non H', rt := Q } (start N_c_Ground_commit vs) H := by
  obtain ⟨A, S, rfl, G, R, EU, EC, ez, k0, k1, k2⟩ := h
  have ln := G.dl.length
  unfold t_c_Ground_commit
  fold_depth
  refine i_gfld R G.ob (by simp) lkf_open_deeds ?_
  fold_lay
  rcases snoc_of S.ds with e0 | ⟨ds0, es, eS⟩
  · have : (List.map V.ref A.dd).length = 0 := by rw [List.length_map, ln, e0]; rfl
    refine i_lenL (sqL G.ol) ?_
    rw [this]
    fold_lay
    refine i_yes rfl ?_
    refine i_rzE ?_
    fold_lay
    exact c_mkE (nm := "Unknown") (fs := [("parameter", .str "deed")]) (vs := [.str "deed"]) (by simp) (fun a H Q he hq => ⟨a, _, rfl, he, EU, hq⟩) fun d H' hE hS _ => k0 e0 d H' hE hS
  obtain ⟨dd0, d, kvs, ea, h1, hd, he, nd0, q1⟩ := G.top eS
  have l1 : (List.map V.ref A.dd).length = dd0.length + 1 := by rw [List.length_map, ea]; simp
  have hok := (G.ok es (by rw [eS]; simp)).2
  have ezs := ez es (by rw [eS]; simp)
  have hol := G.ol
  rw [ea, List.map_append] at hol
  refine i_lenL (sqL G.ol) ?_
  rw [l1]
  fold_lay
  refine i_no (by omega) ?_
  fold_lay
  refine i_gfld R G.ob (by simp) lkf_open_deeds ?_
  fold_lay
  refine i_ixL (sqL hol) (v := .ref d) ix_last ?_
  fold_lay
  refine i_meth G lkm_cost_since ?_
  fold_lay
  refine ⟨A, S, d, kvs, es, rfl, G, R, hd, he, hok, ezs, fun H1 s1 => ?_⟩
  have G1 := G.mono s1
  have hd1 := s1 _ _ hd
  have he1 := he.mono s1
  have h11 := h1.mono s1
  have hol1 := s1 _ _ hol
  have O1 : ∀ F, Out F H H1 := fun F => Same.out s1
  generalize hcost : (costOf S.ws S.hs es) = cost at *
  clear hd he h1 s1
  fold_lay; fold_depth
  refine i_gfld R G1.ob (by simp) lkf_open_deeds ?_
  fold_lay
  rw [show (List.map V.ref dd0 ++ List.map V.ref [d]).length = dd0.length + 1 by simp]
  refine i_ifd (fun g => ?_) (fun g => ?_)
  · -- the outermost deed
    have e2 : dd0 = [] := List.length_eq_zero_iff.mp (by omega)
    subst e2
    have e3 : ds0 = [] := by cases h11; rfl
    subst e3
    obtain ⟨j1, j2, j3⟩ := k1 es eS d ea
    rw [hcost] at j1 j2 j3
    have fin : ∀ (al : Option Int) (H2 : Hp), Gd c H2 A { S with al := al } → Out [A.g, A.o] H H2 → (∀ H', Gd c H' { A with dd := [] } { S with al := al, ch := S.ch + (cost : Nat), ds := [] } → Out [A.g, A.o] H H' → Q (.int (cost : Nat)) H') →
        tSeq (sFld K (tVar 0) (tOp oAdd (tFld K (tVar 0) "charged") (tVar 2)) "charged") (tSeq (tDrop (tBM0 K "list" rPop (tFld K (tVar 0) "open_deeds"))) (tRet (tVar 2))) { nx := fun _ H' => Q .non H', rt := Q } [some (.ref A.g), some (.ref d), some (.int (cost : Nat)), none, none, none] H2 := fun al H2 G2 O2 kf => by
      fold_depth
      refine i_gfld R G2.ob (by simp) lkf_charged ?_
      fold_lay
      refine i_sfld R G2 (by simp) ?_
      rw [put_ch]
      have G3 := G2.setF (al := al) (ch := S.ch + (cost : Nat))
      have O3 : Out [A.g, A.o] H (upd H2 A.g (.ins c.k_Ground A.dx (flds A { S with al := al, ch := S.ch + (cost : Nat) }))) := O2.trans (out_upd (by simp))
      generalize upd H2 A.g (.ins c.k_Ground A.dx (flds A { S with al := al, ch := S.ch + (cost : Nat) })) = H3 at *
      fold_lay
      refine i_gfld R G3.ob (by simp) lkf_open_deeds ?_
      have ho3 := G3.ol
      rw [ea, List.map_append] at ho3
      refine i_popL (y := .ref d) ho3 ?_
      fold_lay
      obtain ⟨dd9, d9, kv9, ea9, h9, _, _, _, q9⟩ := G3.top (ds0 := []) (es := es) eS
      obtain ⟨rfl, _⟩ := List.append_inj' (ea9.symm.trans ea) rfl
      exact kf _ (G3.pop (ds0 := []) (es := es) eS ea h9 q9) (O3.trans (out_upd (by simp)))
    have hna : ∀ z, odV S.al = z → z = odV S.al := fun z e => e.symm
    fold_depth
    refine i_gfld R G1.ob (by simp) lkf_allowance ?_
    fold_lay
    cases hal : S.al with
    | none =>
      refine i_ifn (fun z => absurd rfl z) (fun _ => ?_)
      fold_lay
      exact fin S.al H1 G1 (O1 _) (j1 hal)
    | some a =>
      refine i_ifn (fun _ => ?_) (fun z => by cases z)
      fold_lay; fold_depth
      refine i_gfld R G1.ob (by simp) lkf_allowance ?_
      rw [hal]
      show tVar 2 _ _ _
      fold_lay
      refine ⟨a, (cost : Nat), rfl, rfl, ?_⟩
      fold_lay
      refine i_ifd (fun hlt => ?_) (fun hlt => ?_)
      · fold_lay
        refine i_meth G1 lkm_cancel ?_
        fold_lay
        refine ⟨A, S, rfl, G1, R, EU, fun z => absurd (eS.symm.trans z) (by simp), fun ds' es' e' => ?_⟩
        obtain ⟨rfl, e4⟩ := List.append_inj' (eS.symm.trans e') rfl
        obtain rfl : es = es' := by simpa using e4
        refine ⟨ezs, fun dd' d' H2 ea' G2 O2 => ?_⟩
        obtain ⟨rfl, _⟩ := List.append_inj' (ea.symm.trans ea') rfl
        refine i_rzE ?_
        fold_lay
        refine i_gfld R G2.ob (by simp) lkf_allowance ?_
        show tNil _ _ _
        rw [show odV S.al = .int a by rw [hal]; rfl]
        fold_lay
        exact c_mkE (nm := "Cut") (fs := [("left", .int a), ("needed", .int (cost : Nat))]) (vs := [.int (cost : Nat), .int a]) (by simp) (fun a' H Q he hq => ⟨a', _, _, rfl, he, EC, hq⟩) fun e H' hE hS _ => j3 a hal hlt e H' hE (G2.mono hS) (((O1 _).trans O2).trans (Same.out hS))
      · fold_lay
        refine i_gfld R G1.ob (by simp) lkf_allowance ?_
        rw [hal]
        show tVar 2 _ _ _
        fold_lay
        refine ⟨a, (cost : Nat), rfl, rfl, ?_⟩
        fold_lay
        refine i_sfld R G1 (by simp) ?_
        rw [put_al]
        exact fin (some (a - (cost : Nat))) _ (G1.setF (al := some (a - (cost : Nat))) (ch := S.ch)) ((O1 _).trans (out_upd (by simp))) (j2 a hal (by omega))
  · -- a deed inside another one
    rcases snoc_of ds0 with e0 | ⟨ds1, es1, e5⟩
    · subst e0
      cases h11
      exact absurd rfl g
    subst e5
    fold_lay
    refine i_gfld R G1.ob (by simp) lkf_open_deeds ?_
    refine i_popL (y := .ref d) hol1 ?_
    have G2 := G1.pop eS ea h11 q1
    obtain ⟨x1, x2, x3, x4⟩ := G1.dw
    have din : d ∈ A.dd := by rw [ea]; simp
    have m1 : d ≠ A.g := fun z => x4 (z ▸ din)
    have m2 : d ≠ A.w := fun z => x1 (z ▸ din)
    have m3 : d ≠ A.h := fun z => x2 (z ▸ din)
    have m4 : d ≠ A.o := fun z => x3 (z ▸ din)
    have hd2 : upd H1 A.o (.lst (dd0.map V.ref)) d = some (.dK kvs) := upd_off m4 hd1
    have he2 : Ent (upd H1 A.o (.lst (dd0.map V.ref))) kvs es := he1.upd (not_tup G1.ol (fun xs z => by cases z))
    have O2 : ∀ d1, Out [A.o, d1] H (upd H1 A.o (.lst (dd0.map V.ref))) := fun d1 => (O1 _).trans (out_upd (by simp))
    generalize upd H1 A.o (.lst (dd0.map V.ref)) = H2 at *
    obtain ⟨dd1, d1, kv1, ea1, h12, hd12, he12, nd1, q11⟩ := G2.top (ds0 := ds1) (es := es1) rfl
    have ea1 : dd0 = dd1 ++ [d1] := ea1
    subst ea1
    have nd12 : d ≠ d1 := fun z => nd0 (by rw [z]; simp)
    have ol2 := G2.ol
    have ol2 : H2 A.o = some (.lst (dd1.map V.ref ++ [.ref d1])) := by
      have e : (({ A with dd := dd1 ++ [d1] } : GA).dd.map V.ref) = dd1.map V.ref ++ [.ref d1] := by simp
      rw [← e]
      exact ol2
    fold_lay
    refine i_gfld R G2.ob (by simp) lkf_open_deeds ?_
    fold_lay
    refine i_ixL (sqL ol2) (v := .ref d1) ix_last ?_
    fold_lay
    refine i_seq ?_
    refine ⟨d, .dK kvs, hd2, trivial, fun od => ?_⟩
    have nt := not_tup hd2 (fun xs z => by cases z)
    have G3 : Gd c (upd H2 d (.frz od (.dK kvs))) { A with dd := dd1 ++ [d1] } { S with ds := ds1 ++ [es1] } := G2.off m1 m2 m3 m4 nd0 nt
    have he3 : Ent (upd H2 d (.frz od (.dK kvs))) kvs es := he2.upd nt
    have hd3 : upd H2 d (.frz od (.dK kvs)) d = some (.frz od (.dK kvs)) := upd_same
    have back : ∀ H', Out [A.o, d1] (upd H2 d (.frz od (.dK kvs))) H' → Out [A.o, d1] H2 (upd H' d (.dK kvs)) := fun H' s b u n e => by
      by_cases hb : b = d
      · subst hb
        rw [hd2] at e
        rw [upd_same]
        exact e
      · exact upd_off hb (s _ _ n (upd_off hb e))
    generalize upd H2 d (.frz od (.dK kvs)) = H3 at *
    have es1z := ez es1 (by rw [eS]; simp)
    have ok1 := G.ok es1 (by rw [eS]; simp)
    fold_lay
    refine ⟨d, od, kvs, rfl, hd3, ?_⟩
    refine l_items (fun i σ' H' => H' d = some (.frz od (.dK kvs)) ∧ Gd c H' { A with dd := dd1 ++ [d1] } { S with ds := ds1 ++ [merge es1 (es.take i)] } ∧ Out [A.o, d1] H3 H' ∧ Ent H' kvs es ∧ ∃ y1 y2, σ' = [some (.ref A.g), some (.ref d), some (.int (cost : Nat)), some (.ref d1), y1, y2]) ⟨hd3, G3, Out.refl _ _, he3, none, none, rfl⟩ (fun i σ' H' _ h => h.1) ?_ ?_
    · rintro i kk v σ' H4 T hx ⟨hd4, G4, O4, he4, y1, y2, rfl⟩ hT
      obtain ⟨p, w, gg, t, e1, rfl, rfl, ht⟩ := he4.get hx
      have s5 := same_new (o := .tup [.int p, .ref t]) hT
      show gTup K 2 _ (.ref T) _ (upd H4 T (.tup [.int p, .ref t])) _
      have hT5 : upd H4 T (.tup [.int p, .ref t]) T = some (.tup [.int p, .ref t]) := upd_same
      have ht5 := s5 _ _ ht
      have hd5 := s5 _ _ hd4
      have G5 := G4.mono s5
      have O5 : Out [A.o, d1] H3 (upd H4 T (.tup [.int p, .ref t])) := O4.trans (Same.out s5)
      have he5 := he4.mono s5
      generalize upd H4 T (.tup [.int p, .ref t]) = H5 at *
      obtain ⟨dd5, d5, kv5, ea5, h15, hd15, he15, _, _⟩ := G5.top (ds0 := ds1) (es := merge es1 (es.take i)) rfl
      have ea5 : dd1 ++ [d1] = dd5 ++ [d5] := ea5
      obtain ⟨rfl, e9⟩ := List.append_inj' ea5 rfl
      obtain rfl : d1 = d5 := by simpa using e9
      have mm := merge_more (o := es1) e1
      have ml := merge_len (o := es1) (es := es.take i)
      have mo := merge_ok (n := (S.ws.length : Int)) (o := es1) (es := es.take i) ok1.1 ok1.2 (fun x m => hok x (List.mem_of_mem_take m))
      fold_lay
      refine ⟨d1, _, rfl, DGet.k (k := Sum.inl p) hd15, ?_⟩
      fold_lay
      rw [he15.val]
      refine i_ifn (fun q => ?_) (fun q => ?_)
      · fold_lay
        refine ⟨d1, _, rfl, DPut.k (k := Sum.inl p) hd15 (szl (by rw [he15.length]; rw [List.length_take] at ml; omega)), ?_⟩
        rw [putK_fresh (he15.fresh q)]
        refine ⟨upd_off nd12 hd5, ?_, O5.trans (out_upd (by simp)), he5.upd (not_tup hd15 (fun xs z => by cases z)), _, _, rfl⟩
        rw [mm, if_neg q]
        obtain ⟨p0, p1⟩ := hok _ (List.mem_of_getElem? e1)
        refine G5.setD (dd0 := dd1) rfl rfl hd15 h15 (he15.snoc ht5) ⟨?_, fun x m => ?_⟩
        · rw [List.map_append]
          exact nodup_snoc mo.1 q
        · rcases List.mem_append.mp m with m | m
          · exact mo.2 x m
          · rw [List.mem_singleton.mp m]
            exact ⟨p0, p1⟩
      · fold_lay
        refine ⟨hd5, ?_, O5, he5, _, _, rfl⟩
        rw [mm, if_pos q]
        exact G5
    · rintro σ' H4 ⟨hd4, G4, O4, he4, y1, y2, rfl⟩
      rw [he1.length, List.take_length] at G4
      refine ⟨hd4, ?_⟩
      fold_lay
      have := k2 ds1 es1 es eS dd1 d1 d ea
      rw [hcost] at this
      exact this _ (G4.off m1 m2 m3 m4 nd0 (not_tup hd4 (fun xs z => by cases z))) ((O2 d1).trans (back H4 O4))
/-! ## Ground6 -/
/-! ### the ground: its checks, what it tells, how it is made -/
def sp_check_place (K : PySem.W.Frag) (c : Cl) : Sp := fun vs H Q E => ∃ (A : GA) (S : GS) (v : V) (n : String), vs = [.ref A.g, v] ∧ Gd c H A S ∧ GdK K c ∧ Ty0 H v n ∧ BvC K c.k_BadValue ∧
  (vR 0 ((S.ws.length : Int) - 1) v = true → Q .non H) ∧ (vR 0 ((S.ws.length : Int) - 1) v = false → ∀ d H', BadAt H' d (.str "place") → Same H H' → E (.ref c.k_BadValue) (some d) H')
theorem c_check_place {K : PySem.W.Frag} {c : Cl} {A : GA} {S : GS} {v : V} {n : String} {H : Hp} {Q : VK} {E : XK} (G : Gd c H A S) (R : GdK K c) (h : Ty0 H v n) (hC : BvC K c.k_BadValue) (h1 : vR 0 ((S.ws.length : Int) - 1) v = true → Q .non H) (h2 : vR 0 ((S.ws.length : Int) - 1) v = false → ∀ d H', BadAt H' d (.str "place") → Same H H' → E (.ref c.k_BadValue) (some d) H') : sp_check_place K c [.ref A.g, v] H Q E := ⟨A, S, v, n, rfl, G, R, h, hC, h1, h2⟩
def N_c_Ground_check_place : List Str := ["self", "place"]
def t_c_Ground_check_place (K : PySem.W.Frag) (c : Cl) (E : XK) : TS := (tIfS (tNot (tB (tCall (sp_whole_between K) [] E0 (tCons (tVar 1) (tCons (tC (.int 0)) (tCons (tOp oSub (tCB (rLen K) (tCons (tFld K (tVar 0) "cell_words") tNil)) (tC (.int 1))) tNil)))))) (tRz (tMkO c.k_BadValue (sp_init_BadValue K c.k_BadValue) [] (tCons (tC (.str "place")) tNil)) (fun cls d _ H => E cls d H)) tNext)
theorem pure_check_place {K : PySem.W.Frag} {c : Cl} {vs : List V} {H : Hp} {Q : VK} {E : XK} (h : sp_check_place K c vs H Q E) : t_c_Ground_check_place K c E { nx := fun _ H' => Q .non H', rt := Q } (start N_c_Ground_check_place vs) H := by
  obtain ⟨A, S, v, n, rfl, G, R, ht, hC, k1, k2⟩ := h
  have wl := G.wl
  unfold t_c_Ground_check_place
  fold_lay
  refine i_gfld R G.ob (by simp) lkf_cell_words ?_
  fold_lay
  rw [List.length_map]
  refine c_whole_between ht ?_
  fold_lay
  refine i_ifb (fun g => ?_) (fun g => ?_)
  · have g : vR 0 ((S.ws.length : Int) - 1) v = false := by simpa using g
    fold_lay
    exact c_bad hC (k2 g)
  · have g : vR 0 ((S.ws.length : Int) - 1) v = true := by simpa using g
    fold_lay
    exact k1 g
abbrev nhA (H : Hp) (d : Addr) (p f : Int) : Prop := ErAt H d "NotHeld" [("found", .int f), ("place", .int p)] [.int p, .int f]
def sp_check_guard (K : PySem.W.Frag) (c : Cl) : Sp := fun vs H Q E => ∃ (A : GA) (S : GS) (p h : Int), vs = [.ref A.g, .int p, .int h] ∧ Gd c H A S ∧ GdK K c ∧ ErC K c.k_NotHeld ["told", "place", "found"] ∧ 0 ≤ p ∧ p < S.ws.length ∧
  (S.hs.getD p.toNat 0 = h → Q .non H) ∧ (S.hs.getD p.toNat 0 ≠ h → ∀ d H', nhA H' d p (S.hs.getD p.toNat 0) → Same H H' → E (.ref c.k_NotHeld) (some d) H')
theorem c_check_guard {K : PySem.W.Frag} {c : Cl} {A : GA} {S : GS} {p h : Int} {H : Hp} {Q : VK} {E : XK} (G : Gd c H A S) (R : GdK K c) (EN : ErC K c.k_NotHeld ["told", "place", "found"]) (p0 : 0 ≤ p) (p1 : p < S.ws.length) (h1 : S.hs.getD p.toNat 0 = h → Q .non H) (h2 : S.hs.getD p.toNat 0 ≠ h → ∀ d H', nhA H' d p (S.hs.getD p.toNat 0) → Same H H' → E (.ref c.k_NotHeld) (some d) H') : sp_check_guard K c [.ref A.g, .int p, .int h] H Q E := ⟨A, S, p, h, rfl, G, R, EN, p0, p1, h1, h2⟩
def N_c_Ground_check_guard : List Str := ["self", "place", "holder", "found"]
def t_c_Ground_check_guard (K : PySem.W.Frag) (c : Cl) (E : XK) : TS := (tSeq (tAsg (tOp (rIxL K) (tFld K (tVar 0) "cell_holders") (tVar 1)) (gName 3))
  (tIfS (tTest (tOp rNe (tVar 3) (tVar 2))) (tRz (tMkO c.k_NotHeld (sp_init_NotHeld K c.k_NotHeld) [] (tCons (tVar 1) (tCons (tVar 3) tNil))) (fun cls d _ H => E cls d H)) tNext))
theorem pure_check_guard {K : PySem.W.Frag} {c : Cl} {vs : List V} {H : Hp} {Q : VK} {E : XK} (h : sp_check_guard K c vs H Q E) : t_c_Ground_check_guard K c E { nx := fun _ H' => Q .non H', rt := Q } (start N_c_Ground_check_guard vs) H := by
  obtain ⟨A, S, p, hh, rfl, G, R, EN, p0, p1, k1, k2⟩ := h
  have p2 : p < S.hs.length := by rw [← G.le]; exact p1
  unfold t_c_Ground_check_guard
  fold_lay
  refine i_gfld R G.ob (by simp) lkf_cell_holders ?_
  fold_lay
  refine i_ixL (sqL G.hl) (at_ints p0 p2) ?_
  fold_lay
  refine i_ifn (fun g => ?_) (fun g => ?_)
  · refine i_rzE ?_
    fold_lay
    exact c_mkE (nm := "NotHeld") (fs := [("found", .int (S.hs.getD p.toNat 0)), ("place", .int p)]) (vs := [.int p, .int (S.hs.getD p.toNat 0)]) (by simp) (fun a' H Q he hq => ⟨a', _, _, rfl, he, EN, hq⟩) fun d H' hE hS _ => k2 g d H' hE hS
  · fold_lay
    exact k1 g
/-- the first place from s on, of n, that f tells -/
def firstP (f : Int → Bool) (s : Int) (n : Nat) : Option Int := ((List.range n).find? fun i : Nat => f (s + (i : Int))).map fun i : Nat => s + (i : Int)
theorem firstP_some {f : Int → Bool} {s : Int} {n i : Nat} (hi : i < n) (h1 : f (s + (i : Int)) = true) (h0 : ∀ j : Nat, j < i → f (s + (j : Int)) = false) : firstP f s n = some (s + (i : Int)) := by
  unfold firstP
  have e : (List.range n).find? (fun i : Nat => f (s + (i : Int))) = some i := by
    rw [List.find?_range_eq_some]
    exact ⟨h1, List.mem_range.mpr hi, fun j hj => by simp [h0 j hj]⟩
  rw [e]
  rfl
theorem firstP_none {f : Int → Bool} {s : Int} {n : Nat} (h0 : ∀ j : Nat, j < n → f (s + (j : Int)) = false) : firstP f s n = none := by
  unfold firstP
  have e : (List.range n).find? (fun i : Nat => f (s + (i : Int))) = none := by
    rw [List.find?_eq_none]
    intro j hj
    simp [h0 j (List.mem_range.mp hj)]
  rw [e]
  rfl
def brk (S : GS) (p : Int) : Bool := decide (S.hs.getD p.toNat 0 = 0 ∧ S.ws.getD p.toNat 0 ≠ S.fl)
abbrev brA (H : Hp) (d : Addr) (p f u : Int) : Prop := ErAt H d "Broken" [("due", .int u), ("found", .int f), ("place", .int p)] [.int p, .int f, .int u]
def sp_check_fill (K : PySem.W.Frag) (c : Cl) : Sp := fun vs H Q E => ∃ (A : GA) (S : GS) (s : Int) (n : Nat), vs = [.ref A.g, .int s, .int n] ∧ Gd c H A S ∧ GdK K c ∧ ErC K c.k_Broken ["told", "place", "found", "due"] ∧ 0 ≤ s ∧ s + (n : Int) ≤ S.ws.length ∧
  (firstP (brk S) s n = none → Q .non H) ∧ (∀ p, firstP (brk S) s n = some p → ∀ d H', brA H' d p (S.ws.getD p.toNat 0) S.fl → Same H H' → E (.ref c.k_Broken) (some d) H')
def N_c_Ground_check_fill : List Str := ["self", "start", "size", "place", "found"]
def t_c_Ground_check_fill (K : PySem.W.Frag) (c : Cl) (E : XK) : TS := (tFor (iRng2 (tCons (tVar 1) (tCons (tOp oAdd (tVar 1) (tVar 2)) tNil))) (gName 3) (tSeq (tAsg (tOp (rIxL K) (tFld K (tVar 0) "cell_words") (tVar 3)) (gName 4))
  (tIfS (tAnd (tTest (tOp rEq (tOp (rIxL K) (tFld K (tVar 0) "cell_holders") (tVar 3)) (tC (.int 0)))) (tTest (tOp rNe (tVar 4) (tFld K (tVar 0) "fill")))) (tRz (tMkO c.k_Broken (sp_init_Broken K c.k_Broken) [] (tCons (tVar 3) (tCons (tVar 4) (tCons (tFld K (tVar 0) "fill") tNil)))) (fun cls d _ H => E cls d H)) tNext)))
theorem pure_check_fill {K : PySem.W.Frag} {c : Cl} {vs : List V} {H : Hp} {Q : VK} {E : XK} (h : sp_check_fill K c vs H Q E) : t_c_Ground_check_fill K c E { nx := fun _ H' => Q .non H', rt := Q } (start N_c_Ground_check_fill vs) H := by
  obtain ⟨A, S, s, n, rfl, G, R, EB, s0, s1, k1, k2⟩ := h
  have sz := G.sz
  have wl := G.wl
  have hl := G.hl
  unfold t_c_Ground_check_fill
  fold_lay
  refine f_rng2 (by omega) (by omega) (by omega) (by omega) ?_
  rw [show (s + (n : Int) - s).toNat = n by omega]
  refine l_rng (fun i σ' H' => H' = H ∧ (∀ j : Nat, j < i → brk S (s + (j : Int)) = false) ∧ ∃ y1 y2, σ' = [some (.ref A.g), some (.int s), some (.int n), y1, y2]) ⟨rfl, fun j hj => by omega, _, _, rfl⟩ ?_ ?_
  · rintro i σ' H' hi ⟨rfl, hlow, y1, y2, rfl⟩
    have p0 : 0 ≤ s + (i : Int) := by omega
    have p1 : s + (i : Int) < S.ws.length := by omega
    have p2 : s + (i : Int) < S.hs.length := by rw [← G.le]; exact p1
    have next : brk S (s + (i : Int)) = false → ∀ j : Nat, j < i + 1 → brk S (s + (j : Int)) = false := fun hb j hj => by
      rcases Nat.lt_or_ge j i with q | q
      · exact hlow j q
      · have : j = i := by omega
        subst this
        exact hb
    fold_lay
    refine i_gfld R G.ob (by simp) lkf_cell_words ?_
    fold_lay
    refine i_ixL (sqL wl) (at_ints p0 p1) ?_
    fold_lay
    refine i_gfld R G.ob (by simp) lkf_cell_holders ?_
    fold_lay
    refine i_ixL (sqL hl) (at_ints p0 p2) ?_
    fold_lay
    refine i_ifd (fun g => ?_) (fun g => ?_)
    · fold_lay
      refine i_gfld R G.ob (by simp) lkf_fill ?_
      fold_lay
      refine i_ifn (fun g2 => ?_) (fun g2 => ?_)
      · refine i_rzE ?_
        fold_lay
        refine i_gfld R G.ob (by simp) lkf_fill ?_
        fold_lay
        exact c_mkE (nm := "Broken") (fs := [("due", .int S.fl), ("found", .int (S.ws.getD (s + (i : Int)).toNat 0)), ("place", .int (s + (i : Int)))]) (vs := [.int (s + (i : Int)), .int (S.ws.getD (s + (i : Int)).toNat 0), .int S.fl]) (by simp) (fun a' H Q he hq => ⟨a', _, _, _, rfl, he, EB, hq⟩) fun d H' hE hS _ => k2 _ (firstP_some hi (decide_eq_true ⟨g, g2⟩) hlow) d H' hE hS
      · fold_lay
        exact ⟨rfl, next (decide_eq_false fun z => z.2 g2), _, _, rfl⟩
    · fold_lay
      exact ⟨rfl, next (decide_eq_false fun z => g z.1), _, _, rfl⟩
  · rintro σ' H' ⟨rfl, hlow, y1, y2, rfl⟩
    exact k1 (firstP_none hlow)
/-! what it tells -/
def sp_depth (K : PySem.W.Frag) (c : Cl) : Sp := fun vs H Q _ => ∃ (A : GA) (S : GS), vs = [.ref A.g] ∧ Gd c H A S ∧ GdK K c ∧ Q (.int (S.ds.length : Nat)) H
def N_c_Ground_depth : List Str := ["self"]
def t_c_Ground_depth (K : PySem.W.Frag) : TS := (tRet (tCB (rLen K) (tCons (tFld K (tVar 0) "open_deeds") tNil)))
theorem pure_depth {K : PySem.W.Frag} {c : Cl} {vs : List V} {H : Hp} {Q : VK} {E : XK} (h : sp_depth K c vs H Q E) : t_c_Ground_depth K { nx := fun _ H' => Q .non H', rt := Q } (start N_c_Ground_depth vs) H := by
  obtain ⟨A, S, rfl, G, R, k⟩ := h
  have ol := G.ol
  unfold t_c_Ground_depth
  fold_lay
  refine i_gfld R G.ob (by simp) lkf_open_deeds ?_
  fold_lay
  rw [List.length_map, G.dl.length]
  exact k
def sp_spent (K : PySem.W.Frag) (c : Cl) : Sp := fun vs H Q _ => ∃ (A : GA) (S : GS), vs = [.ref A.g] ∧ Gd c H A S ∧ GdK K c ∧ Q (.int S.ch) H
def N_c_Ground_spent : List Str := ["self"]
def t_c_Ground_spent (K : PySem.W.Frag) : TS := (tRet (tFld K (tVar 0) "charged"))
theorem pure_spent {K : PySem.W.Frag} {c : Cl} {vs : List V} {H : Hp} {Q : VK} {E : XK} (h : sp_spent K c vs H Q E) : t_c_Ground_spent K { nx := fun _ H' => Q .non H', rt := Q } (start N_c_Ground_spent vs) H := by
  obtain ⟨A, S, rfl, G, R, k⟩ := h
  unfold t_c_Ground_spent
  fold_lay
  exact i_gfld R G.ob (by simp) lkf_charged k
def sp_budget (K : PySem.W.Frag) (c : Cl) : Sp := fun vs H Q _ => ∃ (A : GA) (S : GS), vs = [.ref A.g] ∧ Gd c H A S ∧ GdK K c ∧ Q (odV S.al) H
def N_c_Ground_budget : List Str := ["self"]
def t_c_Ground_budget (K : PySem.W.Frag) : TS := (tRet (tFld K (tVar 0) "allowance"))
theorem pure_budget {K : PySem.W.Frag} {c : Cl} {vs : List V} {H : Hp} {Q : VK} {E : XK} (h : sp_budget K c vs H Q E) : t_c_Ground_budget K { nx := fun _ H' => Q .non H', rt := Q } (start N_c_Ground_budget vs) H := by
  obtain ⟨A, S, rfl, G, R, k⟩ := h
  unfold t_c_Ground_budget
  fold_lay
  exact i_gfld R G.ob (by simp) lkf_allowance k
def imgD (S : GS) : Dt := .tup [.int S.wd, .int S.fl, .tup (S.ws.map Dt.int), .tup (S.hs.map Dt.int)]
theorem Ats_is {H : Hp} : ∀ l : List Int, Ats H (l.map V.int) (l.map Dt.int)
  | [] => .nil
  | b :: r => .cons (.int b) (Ats_is r)
def sp_image (K : PySem.W.Frag) (c : Cl) : Sp := fun vs H Q _ => ∃ (A : GA) (S : GS), vs = [.ref A.g] ∧ Gd c H A S ∧ GdK K c ∧ ∀ v H', At (nw H H') v (imgD S) → Same H H' → Q v H'
def N_c_Ground_image : List Str := ["self"]
def t_c_Ground_image (K : PySem.W.Frag) : TS := (tRet (tTup (tCons (tFld K (tVar 0) "width") (tCons (tFld K (tVar 0) "fill") (tCons (tCB (rTupleOf K) (tCons (tFld K (tVar 0) "cell_words") tNil)) (tCons (tCB (rTupleOf K) (tCons (tFld K (tVar 0) "cell_holders") tNil)) tNil))))))
theorem pure_image {K : PySem.W.Frag} {c : Cl} {vs : List V} {H : Hp} {Q : VK} {E : XK} (h : sp_image K c vs H Q E) : t_c_Ground_image K { nx := fun _ H' => Q .non H', rt := Q } (start N_c_Ground_image vs) H := by
  obtain ⟨A, S, rfl, G, R, k⟩ := h
  unfold t_c_Ground_image
  fold_lay
  refine i_gfld R G.ob (by simp) lkf_width ?_
  fold_lay
  refine i_gfld R G.ob (by simp) lkf_fill ?_
  fold_lay
  refine i_gfld R G.ob (by simp) lkf_cell_words ?_
  fold_lay
  refine ⟨A.w, _, rfl, .inl ⟨sqL G.wl, fun p hp => ?_⟩⟩
  have G1 := G.mono (same_new (o := .tup (S.ws.map V.int)) hp)
  fold_lay
  refine i_gfld R G1.ob (by simp) lkf_cell_holders ?_
  fold_lay
  refine ⟨A.h, _, rfl, .inl ⟨sqL G1.hl, fun q hq => ?_⟩⟩
  fold_lay
  rename_i r hr
  exact k _ _ (.tup (nw_to (by nest_room) upd_same) (.cons (.int _) (.cons (.int _) (.cons (.tup (nw_to hp (by kct_strs)) (Ats_is _)) (.cons (.tup (nw_to (by nest_room) (by kct_strs)) (Ats_is _)) .nil))))) (by mem_news)
/-! ## Ground7 -/
/-! ### the ground: how it is made -/
def badG (v1 v2 v3 v4 : V) : Option Str := if vR 1 256 v1 = false then some "pages" else if vWd v2 = false then some "width" else if vR 0 65535 v3 = false then some "fill" else if vB v4 = false then some "budget" else none
def oI : V → Option Int
  | .int i => some i
  | _ => none
def vi : V → Int
  | .int i => i
  | _ => 0
def newG (v1 v2 v3 v4 : V) : GS := { pg := vi v1, wd := vi v2, fl := vi v3, al := oI v4, ch := 0, ws := List.replicate (vi v1 * vi v2).toNat (vi v3), hs := List.replicate (vi v1 * vi v2).toNat 0, ds := [] }
def sp_ground_init (K : PySem.W.Frag) (c : Cl) : Sp := fun vs H Q E => ∃ (x dx : Addr) (v1 v2 v3 v4 : V) (n1 n2 n3 n4 : String), vs = [.ref x, v1, v2, v3, v4] ∧ H x = some (.ins c.k_Ground dx []) ∧ Ty0 H v1 n1 ∧ Ty0 H v2 n2 ∧ Ty0 H v3 n3 ∧ Ty0 H v4 n4 ∧ GdK K c ∧ BvC K c.k_BadValue ∧ KTup K c.x_WIDTHS [16, 32, 64] ∧
  (∀ t, badG v1 v2 v3 v4 = some t → ∀ d H', BadAt H' d (.str t) → Same H H' → E (.ref c.k_BadValue) (some d) H') ∧
  (badG v1 v2 v3 v4 = none → ∀ w h o H', Gd c H' ⟨x, dx, w, h, o, []⟩ (newG v1 v2 v3 v4) → H w = none → H h = none → H o = none → Out [x] H H' → Q .non H')
theorem vR_i {v : V} {lo hi : Int} (h : vR lo hi v = true) : ∃ i, v = .int i ∧ lo ≤ i ∧ i ≤ hi := by
  cases v <;> first | exact ⟨_, rfl, by simpa [vR] using h⟩ | cases h
theorem vWd_i {v : V} (h : vWd v = true) : ∃ i, v = .int i ∧ (i = 16 ∨ i = 32 ∨ i = 64) := by
  cases v <;> first | exact ⟨_, rfl, by simpa [vWd] using h⟩ | cases h
theorem vB_o {v : V} (h : vB v = true) : v = odV (oI v) := by
  unfold vB at h
  cases v <;> first | rfl | (simp [vR] at h)
theorem i_put1 {K : PySem.W.Frag} {c : Cl} {H : Hp} {x dx : Addr} {fs : List (Str × V)} {f : Str} {y : V} {P : Hp → Prop} (R : GdK K c) (h : H x = some (.ins c.k_Ground dx fs)) (hf : f ∈ (["pages", "width", "fill", "allowance", "charged", "cell_words", "cell_holders", "open_deeds"] : List Str)) (hl : fs.length < 1000) (hn : putF f y fs = fs ++ [(f, y)]) (q : P (upd H x (.ins c.k_Ground dx (fs ++ [(f, y)])))) :
    ∃ a C dx' fs', V.ref x = .ref a ∧ H a = some (.ins C dx' fs') ∧ Cls K C ∧ NoAttr K C f ∧ fs'.length < 1000 ∧ P (upd H a (.ins C dx' (putF f y fs'))) := ⟨x, c.k_Ground, dx, fs, rfl, h, R.cl, R.na f hf, hl, by rw [hn]; exact q⟩
theorem putF_new {f : Str} {y : V} : ∀ {fs : List (Str × V)}, (∀ g ∈ fs, g.1 ≠ f) → putF f y fs = fs ++ [(f, y)]
  | [], _ => rfl
  | (g, v) :: r, h => by
    have : g ≠ f := h (g, v) List.mem_cons_self
    simp only [putF]
    rw [if_neg this, putF_new fun q m => h q (List.mem_cons_of_mem _ m)]
    rfl
theorem i_rep {H : Hp} {Q : VK} {l : Addr} {v : V} {n : Int} (h : H l = some (.lst [v])) (h0 : 0 ≤ n) (hn : n ≤ 100000) (q : ∀ p, H p = none → Q (.ref p) (upd H p (.lst (List.replicate n.toNat v)))) : rRep (.ref l) (.int n) H Q := by
  have e : (List.replicate n.toNat [v]).flatten = List.replicate n.toNat v := by
    generalize n.toNat = m
    induction m with
    | zero => rfl
    | succ m ih => rw [List.replicate_succ, List.flatten_cons, ih]; rfl
  refine ⟨l, n, [v], rfl, rfl, h, by omega, by omega, sz (by simp; omega), fun p hp => ?_⟩
  rw [e]
  exact q p hp
def N_c_Ground_init : List Str := ["self", "pages", "width", "fill", "budget"]
def t_c_Ground_init (K : PySem.W.Frag) (c : Cl) (E : XK) : TS := (tSeq (tIfS (tNot (tB (tCall (sp_whole_between K) [] E0 (tCons (tVar 1) (tCons (tC (.int 1)) (tCons (tC (.int 256)) tNil)))))) (tRz (tMkO c.k_BadValue (sp_init_BadValue K c.k_BadValue) [] (tCons (tC (.str "pages")) tNil)) (fun cls d _ H => E cls d H)) tNext)
  (tSeq (tIfS (tNot (tB (tCall (sp_is_width K c) [] E0 (tCons (tVar 2) tNil)))) (tRz (tMkO c.k_BadValue (sp_init_BadValue K c.k_BadValue) [] (tCons (tC (.str "width")) tNil)) (fun cls d _ H => E cls d H)) tNext)
  (tSeq (tIfS (tNot (tB (tCall (sp_whole_between K) [] E0 (tCons (tVar 3) (tCons (tC (.int 0)) (tCons (tC (.int 65535)) tNil)))))) (tRz (tMkO c.k_BadValue (sp_init_BadValue K c.k_BadValue) [] (tCons (tC (.str "fill")) tNil)) (fun cls d _ H => E cls d H)) tNext)
  (tSeq (tIfS (tNot (tB (tCall (sp_is_budget K) [] E0 (tCons (tVar 4) tNil)))) (tRz (tMkO c.k_BadValue (sp_init_BadValue K c.k_BadValue) [] (tCons (tC (.str "budget")) tNil)) (fun cls d _ H => E cls d H)) tNext)
  (tSeq (sFld K (tVar 0) (tVar 1) "pages")
  (tSeq (sFld K (tVar 0) (tVar 2) "width")
  (tSeq (sFld K (tVar 0) (tVar 3) "fill")
  (tSeq (sFld K (tVar 0) (tVar 4) "allowance")
  (tSeq (sFld K (tVar 0) (tC (.int 0)) "charged")
  (tSeq (sFld K (tVar 0) (tOp rRep (tLst (tCons (tVar 3) tNil)) (tOp oMul (tVar 1) (tVar 2))) "cell_words")
  (tSeq (sFld K (tVar 0) (tOp rRep (tLst (tCons (tC (.int 0)) tNil)) (tOp oMul (tVar 1) (tVar 2))) "cell_holders")
  (sFld K (tVar 0) (tLst tNil) "open_deeds"))))))))))))
theorem rep_map {n : Nat} {i : Int} : List.replicate n (V.int i) = (List.replicate n i).map V.int := by
  rw [List.map_replicate]
theorem pure_ground_init {K : PySem.W.Frag} {c : Cl} {vs : List V} {H : Hp} {Q : VK} {E : XK} (h : sp_ground_init K c vs H Q E) : t_c_Ground_init K c E { nx := fun _ H' => Q .non H', rt := Q } (start N_c_Ground_init vs) H := by
  obtain ⟨x, dx, v1, v2, v3, v4, n1, n2, n3, n4, rfl, hx, t1, t2, t3, t4, R, hC, hT, kE, kQ⟩ := h
  unfold t_c_Ground_init
  fold_depth
  refine c_whole_between t1 ?_
  fold_lay
  refine i_ifb (fun g => ?_) (fun g => ?_)
  · have g : vR 1 256 v1 = false := by simpa using g
    fold_lay
    exact c_bad hC (kE _ (by simp [badG, g]))
  have g1 : vR 1 256 v1 = true := by simpa using g
  fold_lay; fold_depth
  refine ⟨v2, n2, rfl, t2, hT, ?_⟩
  fold_lay
  refine i_ifb (fun g => ?_) (fun g => ?_)
  · have g : vWd v2 = false := by simpa using g
    fold_lay
    exact c_bad hC (kE _ (by simp [badG, g, g1]))
  have g2 : vWd v2 = true := by simpa using g
  fold_lay; fold_depth
  refine c_whole_between t3 ?_
  fold_lay
  refine i_ifb (fun g => ?_) (fun g => ?_)
  · have g : vR 0 65535 v3 = false := by simpa using g
    fold_lay
    exact c_bad hC (kE _ (by simp [badG, g, g1, g2]))
  have g3 : vR 0 65535 v3 = true := by simpa using g
  fold_lay; fold_depth
  refine ⟨v4, n4, rfl, t4, ?_⟩
  fold_lay
  refine i_ifb (fun g => ?_) (fun g => ?_)
  · have g : vB v4 = false := by simpa using g
    fold_lay
    exact c_bad hC (kE _ (by simp [badG, g, g1, g2, g3]))
  have g4 : vB v4 = true := by simpa using g
  have kk := kQ (by simp [badG, g1, g2, g3, g4])
  obtain ⟨p, rfl, p1, p2⟩ := vR_i g1
  obtain ⟨w, rfl, w1⟩ := vWd_i g2
  obtain ⟨f, rfl, f1, f2⟩ := vR_i g3
  have ov := vB_o g4
  have pw0 : 0 ≤ p * w := Int.mul_nonneg (by omega) (by omega)
  have pw1 : p * w ≤ 16384 := by rcases w1 with rfl | rfl | rfl <;> omega
  fold_lay
  let σ0 : St := [some (.ref x), some (.int p), some (.int w), some (.int f), some v4]
  refine i_cut (fun σ' H' => Out [x] H H' ∧ H' x = some (.ins c.k_Ground dx ([("pages", .int p)] : List (Str × V))) ∧ σ' = σ0) ?_ (fun nx key => ?_)
  rotate_left
  · fold_lay
    refine i_put1 R hx (by simp) (by simp) (putF_new (by simp <;> decide)) ?_
    exact key _ _ ⟨out_upd (by simp), upd_same, rfl⟩
  rintro σ' H1 ⟨o1, h1, rfl⟩
  refine i_cut (fun σ' H' => Out [x] H H' ∧ H' x = some (.ins c.k_Ground dx ([("pages", .int p), ("width", .int w)] : List (Str × V))) ∧ σ' = σ0) ?_ (fun nx key => ?_)
  rotate_left
  · fold_lay
    refine i_put1 R h1 (by simp) (by simp) (putF_new (by simp <;> decide)) ?_
    exact key _ _ ⟨o1.trans (out_upd (by simp)), upd_same, rfl⟩
  rintro σ' H2 ⟨o2, h2, rfl⟩
  refine i_cut (fun σ' H' => Out [x] H H' ∧ H' x = some (.ins c.k_Ground dx ([("pages", .int p), ("width", .int w), ("fill", .int f)] : List (Str × V))) ∧ σ' = σ0) ?_ (fun nx key => ?_)
  rotate_left
  · fold_lay
    refine i_put1 R h2 (by simp) (by simp) (putF_new (by simp <;> decide)) ?_
    exact key _ _ ⟨o2.trans (out_upd (by simp)), upd_same, rfl⟩
  rintro σ' H3 ⟨o3, h3, rfl⟩
  refine i_cut (fun σ' H' => Out [x] H H' ∧ H' x = some (.ins c.k_Ground dx ([("pages", .int p), ("width", .int w), ("fill", .int f), ("allowance", v4)] : List (Str × V))) ∧ σ' = σ0) ?_ (fun nx key => ?_)
  rotate_left
  · fold_lay
    refine i_put1 R h3 (by simp) (by simp) (putF_new (by simp <;> decide)) ?_
    exact key _ _ ⟨o3.trans (out_upd (by simp)), upd_same, rfl⟩
  rintro σ' H4 ⟨o4, h4, rfl⟩
  refine i_cut (fun σ' H' => Out [x] H H' ∧ H' x = some (.ins c.k_Ground dx ([("pages", .int p), ("width", .int w), ("fill", .int f), ("allowance", v4), ("charged", .int 0)] : List (Str × V))) ∧ σ' = σ0) ?_ (fun nx key => ?_)
  rotate_left
  · fold_lay
    refine i_put1 R h4 (by simp) (by simp) (putF_new (by simp <;> decide)) ?_
    exact key _ _ ⟨o4.trans (out_upd (by simp)), upd_same, rfl⟩
  rintro σ' H5 ⟨o5, h5, rfl⟩
  refine i_cut (fun σ' H' => ∃ a, Out [x] H H' ∧ H' x = some (.ins c.k_Ground dx ([("pages", .int p), ("width", .int w), ("fill", .int f), ("allowance", v4), ("charged", .int 0), ("cell_words", .ref a)] : List (Str × V))) ∧ H' a = some (.lst ((List.replicate (p * w).toNat f).map V.int)) ∧ H a = none ∧ a ≠ x ∧ σ' = σ0) ?_ (fun nx key => ?_)
  rotate_left
  · fold_lay
    rename_i l0 j0
    refine i_rep upd_same pw0 (by omega) fun a ja => ?_
    have ja0 : H5 a = none := free2 ja (same_new j0)
    have nax : a ≠ x := Ne.symm (ne_of_none h5 ja0)
    have haH : H a = none := by
      cases q : H a with
      | none => rfl
      | some u => rw [o5 a u (by simpa using nax) q] at ja0; cases ja0
    fold_lay
    refine i_put1 R (upd_keep ja (upd_keep j0 h5)) (by simp) (by simp) (putF_new (by simp <;> decide)) ?_
    exact key _ _ ⟨a, ((o5.trans (Same.out (same_new j0))).trans (Same.out (same_new ja))).trans (out_upd (by simp)), upd_same, by rw [← rep_map]; exact upd_off nax upd_same, haH, nax, rfl⟩
  rintro σ' H6 ⟨wa, o6, h6, hw6, w6, nwx, rfl⟩
  refine i_cut (fun σ' H' => ∃ a, Out [x] H H' ∧ H' x = some (.ins c.k_Ground dx ([("pages", .int p), ("width", .int w), ("fill", .int f), ("allowance", v4), ("charged", .int 0), ("cell_words", .ref wa), ("cell_holders", .ref a)] : List (Str × V))) ∧ H' wa = some (.lst ((List.replicate (p * w).toNat f).map V.int)) ∧ H' a = some (.lst ((List.replicate (p * w).toNat (0 : Int)).map V.int)) ∧ H a = none ∧ a ≠ x ∧ wa ≠ a ∧ σ' = σ0) ?_ (fun nx key => ?_)
  rotate_left
  · fold_lay
    rename_i l0 j0
    refine i_rep upd_same pw0 (by omega) fun a ja => ?_
    have ja0 : H6 a = none := free2 ja (same_new j0)
    have nax : a ≠ x := Ne.symm (ne_of_none h6 ja0)
    have haH : H a = none := by
      cases q : H a with
      | none => rfl
      | some u => rw [o6 a u (by simpa using nax) q] at ja0; cases ja0
    have nwa : wa ≠ a := ne_of_none hw6 ja0
    fold_lay
    refine i_put1 R (upd_keep ja (upd_keep j0 h6)) (by simp) (by simp) (putF_new (by simp <;> decide)) ?_
    exact key _ _ ⟨a, ((o6.trans (Same.out (same_new j0))).trans (Same.out (same_new ja))).trans (out_upd (by simp)), upd_same, upd_off nwx (upd_keep ja (upd_keep j0 hw6)), by rw [← rep_map]; exact upd_off nax upd_same, haH, nax, nwa, rfl⟩
  rintro σ' H7 ⟨ha, o7, h7, hw7, hh7, hh0, nhx, nwh, rfl⟩
  fold_lay
  rename_i oa joa
  have nox : oa ≠ x := Ne.symm (ne_of_none h7 joa)
  have hoH : H oa = none := by
    cases q : H oa with
    | none => rfl
    | some u => rw [o7 oa u (by simpa using nox) q] at joa; cases joa
  have nwo : wa ≠ oa := ne_of_none hw7 joa
  have nho : ha ≠ oa := ne_of_none hh7 joa
  refine i_put1 R (upd_keep joa h7) (by simp) (by simp) (putF_new (by simp <;> decide)) ?_
  refine kk wa ha oa _ ⟨?_, upd_off nwx (upd_keep joa hw7), upd_off nhx (upd_keep joa hh7), upd_off nox upd_same, .nil, nwh, nwo, nho, List.nodup_nil, ?_, ?_, Nat.zero_le _, fun es m => by cases m⟩ w6 hh0 hoH ((o7.trans (Same.out (same_new joa))).trans (out_upd (by simp)))
  · rw [upd_same]
    show some (HO.ins c.k_Ground dx _) = some (HO.ins c.k_Ground dx (flds _ _))
    unfold flds newG
    rw [← ov]
    rfl
  · show (List.replicate (p * w).toNat f).length = (List.replicate (p * w).toNat (0 : Int)).length
    rw [List.length_replicate, List.length_replicate]
  · show (List.replicate (p * w).toNat f).length ≤ 20000
    rw [List.length_replicate]
    omega
/-! ## Ground8 -/
/-! ### a deed of some changes -/
theorem short {n : Nat} : ∀ {l : List Nat}, l.Nodup → (∀ x ∈ l, x < n) → l.length ≤ n := by
  induction n with
  | zero =>
    intro l _ h
    cases l with
    | nil => exact Nat.le_refl _
    | cons x r => exact absurd (h x List.mem_cons_self) (by omega)
  | succ n ih =>
    intro l hn h
    have h1 : (l.erase n).length ≤ n := ih (hn.erase n) fun x m => by
      have m1 := List.mem_of_mem_erase m
      have m2 := h x m1
      have m3 : x ≠ n := fun z => by
        rw [z] at m
        exact (List.Nodup.not_mem_erase hn) m
      omega
    by_cases g : n ∈ l
    · rw [List.length_erase_of_mem g] at h1
      omega
    · rw [List.erase_of_not_mem g] at h1
      omega
theorem keys_nat {es : List En} {n : Nat} (h : (es.map (·.1)).Nodup) (r : ∀ e ∈ es, 0 ≤ e.1 ∧ e.1 < n) : (es.map fun e => e.1.toNat).Nodup := by
  induction es with
  | nil => exact List.nodup_nil
  | cons e l ih =>
    rw [List.map_cons, List.nodup_cons] at h ⊢
    refine ⟨fun m => ?_, ih h.2 fun x m => r x (List.mem_cons_of_mem _ m)⟩
    obtain ⟨x, hx, he⟩ := List.mem_map.mp m
    have r1 := r e List.mem_cons_self
    have r2 := r x (List.mem_cons_of_mem _ hx)
    have : x.1 = e.1 := by omega
    exact h.1 (List.mem_map.mpr ⟨x, hx, this⟩)
theorem ents_short {es : List En} {n : Nat} (h : (es.map (·.1)).Nodup) (r : ∀ e ∈ es, 0 ≤ e.1 ∧ e.1 < n) : es.length ≤ n := by
  have := short (n := n) (keys_nat h r) fun x m => by
    obtain ⟨e, he, rfl⟩ := List.mem_map.mp m
    have := r e he
    omega
  rwa [List.length_map] at this
theorem Gd.shorts {c : Cl} {H : Hp} {A : GA} {S : GS} (G : Gd c H A S) : ∀ es ∈ S.ds, es.length ≤ 20000 := fun es m => Nat.le_trans (ents_short (G.ok es m).1 (G.ok es m).2) G.sz
def logOf (l : List En) (ws hs : List Int) : List En := l.map fun e => (e.1, ws.getD e.1.toNat 0, hs.getD e.1.toNat 0)
theorem log_keys {l : List En} {ws hs : List Int} : (logOf l ws hs).map (·.1) = l.map (·.1) := by
  unfold logOf
  rw [List.map_map]
  rfl
theorem restW_off {l : List En} {i : Nat} : ∀ {ws : List Int}, (∀ e ∈ l, e.1.toNat ≠ i) → (restW l ws)[i]? = ws[i]? := by
  induction l with
  | nil => intro ws _; rfl
  | cons e r ih =>
    intro ws h
    show (restW r (ws.set e.1.toNat e.2.1))[i]? = _
    rw [ih fun x m => h x (List.mem_cons_of_mem _ m), List.getElem?_set_ne (h e List.mem_cons_self)]
theorem restH_off {l : List En} {i : Nat} : ∀ {ws : List Int}, (∀ e ∈ l, e.1.toNat ≠ i) → (restH l ws)[i]? = ws[i]? := by
  induction l with
  | nil => intro ws _; rfl
  | cons e r ih =>
    intro ws h
    show (restH r (ws.set e.1.toNat e.2.2))[i]? = _
    rw [ih fun x m => h x (List.mem_cons_of_mem _ m), List.getElem?_set_ne (h e List.mem_cons_self)]
theorem restW_on {l : List En} {e : En} : ∀ {ws : List Int}, (l.map fun e => e.1.toNat).Nodup → e ∈ l → e.1.toNat < ws.length → (restW l ws)[e.1.toNat]? = some e.2.1 := by
  induction l with
  | nil => intro ws _ h; cases h
  | cons x r ih =>
    intro ws hn h hl
    rw [List.map_cons, List.nodup_cons] at hn
    show (restW r (ws.set x.1.toNat x.2.1))[e.1.toNat]? = _
    rcases List.mem_cons.mp h with h | h
    · subst h
      rw [restW_off fun y m z => hn.1 (List.mem_map.mpr ⟨y, m, z⟩), List.getElem?_set_self hl]
    · exact ih hn.2 h (by rw [List.length_set]; exact hl)
theorem restH_on {l : List En} {e : En} : ∀ {ws : List Int}, (l.map fun e => e.1.toNat).Nodup → e ∈ l → e.1.toNat < ws.length → (restH l ws)[e.1.toNat]? = some e.2.2 := by
  induction l with
  | nil => intro ws _ h; cases h
  | cons x r ih =>
    intro ws hn h hl
    rw [List.map_cons, List.nodup_cons] at hn
    show (restH r (ws.set x.1.toNat x.2.2))[e.1.toNat]? = _
    rcases List.mem_cons.mp h with h | h
    · subst h
      rw [restH_off fun y m z => hn.1 (List.mem_map.mpr ⟨y, m, z⟩), List.getElem?_set_self hl]
    · exact ih hn.2 h (by rw [List.length_set]; exact hl)
/-- changes at places of their own -/
structure Chg (n : Nat) (l : List En) : Prop where
  nd : (l.map (·.1)).Nodup
  rg : ∀ e ∈ l, 0 ≤ e.1 ∧ e.1 < n
theorem log_nat {l : List En} {ws hs : List Int} {n : Nat} (h : Chg n l) : ((logOf l ws hs).map fun e => e.1.toNat).Nodup := by
  have := keys_nat h.nd h.rg
  unfold logOf
  rw [List.map_map]
  exact this
theorem restW_back {l : List En} {ws hs : List Int} (h : Chg ws.length l) : restW (logOf l ws hs) (restW l ws) = ws := by
  apply List.ext_getElem?
  intro i
  by_cases g : ∃ e ∈ l, e.1.toNat = i
  · obtain ⟨e, he, rfl⟩ := g
    have r := h.rg e he
    have := restW_on (e := (e.1, ws.getD e.1.toNat 0, hs.getD e.1.toNat 0)) (ws := restW l ws) (log_nat (hs := hs) h) (List.mem_map.mpr ⟨e, he, rfl⟩) (by rw [restW_len]; show e.1.toNat < _; omega)
    rw [this, getD_at r.1 r.2]
  · have g2 : ∀ e ∈ l, e.1.toNat ≠ i := fun e he z => g ⟨e, he, z⟩
    rw [restW_off (l := logOf l ws hs) fun e he => by
      obtain ⟨x, hx, rfl⟩ := List.mem_map.mp he
      exact g2 x hx, restW_off g2]
theorem restH_back {l : List En} {ws hs : List Int} (h : Chg hs.length l) : restH (logOf l ws hs) (restH l hs) = hs := by
  apply List.ext_getElem?
  intro i
  by_cases g : ∃ e ∈ l, e.1.toNat = i
  · obtain ⟨e, he, rfl⟩ := g
    have r := h.rg e he
    have := restH_on (e := (e.1, ws.getD e.1.toNat 0, hs.getD e.1.toNat 0)) (ws := restH l hs) (log_nat (ws := ws) (hs := hs) h) (List.mem_map.mpr ⟨e, he, rfl⟩) (by rw [restH_len]; show e.1.toNat < _; omega)
    rw [this, getD_at r.1 r.2]
  · have g2 : ∀ e ∈ l, e.1.toNat ≠ i := fun e he z => g ⟨e, he, z⟩
    rw [restH_off (l := logOf l ws hs) fun e he => by
      obtain ⟨x, hx, rfl⟩ := List.mem_map.mp he
      exact g2 x hx, restH_off g2]
abbrev fpA (A : GA) : List Addr := A.g :: A.w :: A.h :: A.o :: A.dd
def costL (S : GS) (l : List En) : Nat := costOf (restW l S.ws) (restH l S.hs) (logOf l S.ws S.hs)
/-- how a deed of the changes l ends -/
structure DeedOk (c : Cl) (A : GA) (S : GS) (l : List En) (H : Hp) (Q : Hp → Prop) (E : XK) : Prop where
  free : S.ds = [] → S.al = none → ∀ H', Gd c H' A { S with ws := restW l S.ws, hs := restH l S.hs, ch := S.ch + (costL S l : Nat) } → Out (fpA A) H H' → Q H'
  paid : S.ds = [] → ∀ a, S.al = some a → ((costL S l : Nat) : Int) ≤ a → ∀ H', Gd c H' A { S with ws := restW l S.ws, hs := restH l S.hs, al := some (a - (costL S l : Nat)), ch := S.ch + (costL S l : Nat) } → Out (fpA A) H H' → Q H'
  cut : S.ds = [] → ∀ a, S.al = some a → a < ((costL S l : Nat) : Int) → ∀ e H', cutA H' e (costL S l : Nat) a → Gd c H' A S → Out (fpA A) H H' → E (.ref c.k_Cut) (some e) H'
  inner : ∀ ds0 es, S.ds = ds0 ++ [es] → ∀ H', Gd c H' A { S with ws := restW l S.ws, hs := restH l S.hs, ds := ds0 ++ [merge es (logOf l S.ws S.hs)] } → Out (fpA A) H H' → Q H'
/-- a ground inside its deed -/
abbrev inA (A : GA) (d : Addr) : GA := { A with dd := A.dd ++ [d] }
abbrev inS (S : GS) (l : List En) : GS := { S with ws := restW l S.ws, hs := restH l S.hs, ds := S.ds ++ [logOf l S.ws S.hs] }
theorem commit_deed {K : PySem.W.Frag} {c : Cl} {A : GA} {S : GS} {l : List En} {H H1 : Hp} {d : Addr} {Q : Hp → Prop} {E : XK} (G0 : Gd c H A S) (h : Chg S.ws.length l) (G : Gd c H1 (inA A d) (inS S l)) (O : Out (fpA A) H H1) (hd : H d = none) (R : GdK K c) (EU : ErC K c.k_Unknown ["told", "parameter"]) (EC : ErC K c.k_Cut ["told", "needed", "left"]) (D : DeedOk c A S l H Q E) : sp_commit K c [.ref A.g] H1 (fun _ H' => Q H') E := by
  have wid : ∀ {F : List Addr} {H2 : Hp}, Out F H1 H2 → (∀ a ∈ F, a ∈ fpA A ∨ a = d) → Out (fpA A) H H2 := fun o s b u n e => o b u (fun z => by
    rcases s b z with q | q
    · exact n q
    · rw [q, hd] at e
      cases e) (O b u n e)
  refine ⟨inA A d, inS S l, rfl, G, R, EU, EC, G.shorts, fun z => absurd z (by simp), fun es e1 d' e2 => ?_, fun ds0 es1 es e1 dd0 d1 d' e2 H' G' O' => ?_⟩
  · have e1 : S.ds ++ [logOf l S.ws S.hs] = [] ++ [es] := e1
    obtain ⟨e3, e4⟩ := List.append_inj' e1 rfl
    obtain rfl : logOf l S.ws S.hs = es := by simpa using e4
    have e5 : A.dd = [] := List.length_eq_zero_iff.mp (by rw [G0.dl.length, e3]; rfl)
    have eA : ({ inA A d with dd := [] } : GA) = A := by
      cases A
      simp_all
    have sub : ∀ a ∈ [A.g, A.o], a ∈ fpA A ∨ a = d := by simp
    refine ⟨fun ha H' G' O' => ?_, fun a ha hle H' G' O' => ?_, fun a ha hlt e H' hE G' O' => ?_⟩
    · rw [eA] at G'
      refine D.free e3 ha H' ?_ (wid O' sub)
      have e : ({ inS S l with ch := S.ch + (costL S l : Nat), ds := [] } : GS) = { S with ws := restW l S.ws, hs := restH l S.hs, ch := S.ch + (costL S l : Nat) } := by
        cases S
        simp_all
      rw [← e]
      exact G'
    · rw [eA] at G'
      refine D.paid e3 a ha hle H' ?_ (wid O' sub)
      have e : ({ inS S l with al := some (a - (costL S l : Nat)), ch := S.ch + (costL S l : Nat), ds := [] } : GS) = { S with ws := restW l S.ws, hs := restH l S.hs, al := some (a - (costL S l : Nat)), ch := S.ch + (costL S l : Nat) } := by
        cases S
        simp_all
      rw [← e]
      exact G'
    · rw [eA] at G'
      refine D.cut e3 a ha hlt e H' hE ?_ (wid O' (by simp))
      have e : ({ inS S l with ws := restW (logOf l S.ws S.hs) (restW l S.ws), hs := restH (logOf l S.ws S.hs) (restH l S.hs), ds := [] } : GS) = S := by
        rw [restW_back h, restH_back (by rw [← G0.le]; exact h)]
        cases S
        simp_all
      rw [← e]
      exact G'
  · have e1 : S.ds ++ [logOf l S.ws S.hs] = (ds0 ++ [es1]) ++ [es] := e1
    have e2 : A.dd ++ [d] = (dd0 ++ [d1]) ++ [d'] := e2
    obtain ⟨e3, e4⟩ := List.append_inj' e1 rfl
    obtain ⟨e5, e6⟩ := List.append_inj' e2 rfl
    obtain rfl : logOf l S.ws S.hs = es := by simpa using e4
    have eA : ({ inA A d with dd := dd0 ++ [d1] } : GA) = A := by
      cases A
      simp_all
    rw [eA] at G'
    refine D.inner ds0 es1 e3 H' G' (wid O' fun a m => ?_)
    simp only [List.mem_cons, List.not_mem_nil, or_false] at m
    rcases m with rfl | rfl
    · simp
    · left
      simp [e5]
/-! ## Ground9 -/
/-! ### the ground: write, poke, pass_on -/
structure GdE (K : PySem.W.Frag) (c : Cl) : Prop where
  gk : GdK K c
  bv : BvC K c.k_BadValue
  eu : ErC K c.k_Unknown ["told", "parameter"]
  ec : ErC K c.k_Cut ["told", "needed", "left"]
  en : ErC K c.k_NotHeld ["told", "place", "found"]
  eb : ErC K c.k_Broken ["told", "place", "found", "due"]
def vU (v : V) : Bool := vH v && !decide (v = .int 0)
def badWr (n : Nat) (v1 v2 v3 : V) : Option Str := if vR 0 ((n : Int) - 1) v1 = false then some "place" else if vR 0 65535 v2 = false then some "word" else if vU v3 = false then some "holder" else none
theorem vH_i {v : V} (h : vH v = true) : ∃ i, v = .int i ∧ 0 ≤ i ∧ i ≤ 28 := by
  unfold vH at h
  cases v <;> first | (simp [vR] at h; exact ⟨_, rfl, by omega, by omega⟩) | (simp [vR] at h)
def sp_write (K : PySem.W.Frag) (c : Cl) : Sp := fun vs H Q E => ∃ (A : GA) (S : GS) (v1 v2 v3 : V) (n1 n2 n3 : String), vs = [.ref A.g, v1, v2, v3] ∧ Gd c H A S ∧ GdE K c ∧ Ty0 H v1 n1 ∧ Ty0 H v2 n2 ∧ Ty0 H v3 n3 ∧ S.ds.length < 1000 ∧
  (∀ t, badWr S.ws.length v1 v2 v3 = some t → ∀ d H', BadAt H' d (.str t) → Same H H' → E (.ref c.k_BadValue) (some d) H') ∧
  (badWr S.ws.length v1 v2 v3 = none → ∀ p w h, v1 = .int p → v2 = .int w → v3 = .int h → (S.hs.getD p.toNat 0 ≠ h → ∀ d H', nhA H' d p (S.hs.getD p.toNat 0) → Same H H' → E (.ref c.k_NotHeld) (some d) H') ∧ (S.hs.getD p.toNat 0 = h → DeedOk c A S [(p, w, h)] H (fun H' => Q .non H') E))
theorem note_one {ws hs : List Int} {p w h : Int} : note ws hs p [] = logOf [(p, w, h)] ws hs := by simp [note, logOf]
theorem chg_one {n : Nat} {p w h : Int} (p0 : 0 ≤ p) (p1 : p < n) : Chg n [(p, w, h)] := ⟨by simp, fun e m => by rw [List.mem_singleton.mp m]; exact ⟨p0, p1⟩⟩
/-- begin, one change, commit -/
theorem one_deed {K : PySem.W.Frag} {c : Cl} {A : GA} {S : GS} {p w h : Int} {H : Hp} {Q : Hp → Prop} {E : XK} (G : Gd c H A S) (R : GdE K c) (dl : S.ds.length < 1000) (p0 : 0 ≤ p) (p1 : p < S.ws.length) (D : DeedOk c A S [(p, w, h)] H Q E) :
    sp_begin K c [.ref A.g] H (fun _ H1 => ∀ F : Prop, ((∀ A' S', Gd c H1 A' S' → A'.g = A.g → A'.w = A.w → A'.h = A.h → S'.ws = S.ws → S'.hs = S.hs → sp_change_cell K c [.ref A.g, .int p, .int w, .int h] H1 (fun _ H2 => sp_commit K c [.ref A.g] H2 (fun _ H' => Q H') E ∧ ∃ A'' S'', Gd c H2 A'' S'' ∧ A''.g = A.g) E0 → F) → F)) E0 := by
  refine ⟨A, S, rfl, G, R.gk, dl, fun d H1 G1 hd O1 F hF => hF _ _ G1 rfl rfl rfl rfl rfl ?_⟩
  refine ⟨inA A d, inS S [], A.dd, d, S.ds, [], p, w, h, rfl, G1, R.gk, rfl, rfl, p0, p1, by simp, fun H2 G2 O2 => ⟨?_, _, _, G2, rfl⟩⟩
  have G2 : Gd c H2 (inA A d) (inS S [(p, w, h)]) := by
    have e : ({ inS S [] with ws := (inS S []).ws.set p.toNat w, hs := (inS S []).hs.set p.toNat h, ds := S.ds ++ [note (inS S []).ws (inS S []).hs p []] } : GS) = inS S [(p, w, h)] := by
      show ({ S with ws := S.ws.set p.toNat w, hs := S.hs.set p.toNat h, ds := S.ds ++ [note S.ws S.hs p []] } : GS) = _
      rw [note_one (w := w) (h := h)]
      rfl
    rw [← e]
    exact G2
  refine commit_deed G (chg_one p0 p1) G2 (fun b u n e => ?_) hd R.gk R.eu R.ec D
  have n1 : b ∉ [A.o] := fun z => n (by simp at z; simp [z])
  have e1 := O1 b u n1 e
  refine O2 b u (fun z => ?_) e1
  have z : b ∈ [A.w, A.h, d] := z
  simp only [List.mem_cons, List.not_mem_nil, or_false] at z
  rcases z with z | z | z
  · exact n (by simp [z])
  · exact n (by simp [z])
  · rw [z, hd] at e
    cases e
def N_c_Ground_write : List Str := ["self", "place", "word", "holder"]
def t_c_Ground_write (K : PySem.W.Frag) (c : Cl) (E : XK) : TS := (tSeq (tDrop (tMeth c.k_Ground "check_place" (sp_check_place K c) [] E (tVar 0) (tCons (tVar 1) tNil)))
  (tSeq (tIfS (tNot (tB (tCall (sp_whole_between K) [] E0 (tCons (tVar 2) (tCons (tC (.int 0)) (tCons (tC (.int 65535)) tNil)))))) (tRz (tMkO c.k_BadValue (sp_init_BadValue K c.k_BadValue) [] (tCons (tC (.str "word")) tNil)) (fun cls d _ H => E cls d H)) tNext)
  (tSeq (tIfS (tOr (tNot (tB (tCall (sp_is_holder K) [] E0 (tCons (tVar 3) tNil)))) (tTest (tOp rEq (tVar 3) (tC (.int 0))))) (tRz (tMkO c.k_BadValue (sp_init_BadValue K c.k_BadValue) [] (tCons (tC (.str "holder")) tNil)) (fun cls d _ H => E cls d H)) tNext)
  (tSeq (tDrop (tMeth c.k_Ground "check_guard" (sp_check_guard K c) [] E (tVar 0) (tCons (tVar 1) (tCons (tVar 3) tNil))))
  (tSeq (tDrop (tMeth c.k_Ground "begin" (sp_begin K c) [] E0 (tVar 0) tNil))
  (tSeq (tDrop (tMeth c.k_Ground "change_cell" (sp_change_cell K c) [] E0 (tVar 0) (tCons (tVar 1) (tCons (tVar 2) (tCons (tVar 3) tNil)))))
  (tDrop (tMeth c.k_Ground "commit" (sp_commit K c) [] E (tVar 0) tNil))))))))
theorem pure_write {K : PySem.W.Frag} {c : Cl} {vs : List V} {H : Hp} {Q : VK} {E : XK} (h : sp_write K c vs H Q E) : t_c_Ground_write K c E { nx := fun _ H' => Q .non H', rt := Q } (start N_c_Ground_write vs) H := by
  obtain ⟨A, S, v1, v2, v3, n1, n2, n3, rfl, G, R, t1, t2, t3, dl, kE, kQ⟩ := h
  unfold t_c_Ground_write
  fold_lay
  refine i_meth G lkm_check_place ?_
  fold_lay
  refine c_check_place G R.gk t1 R.bv (fun g1 => ?_) (fun g1 => kE _ (by simp [badWr, g1]))
  fold_depth
  refine c_whole_between t2 ?_
  fold_lay
  refine i_ifb (fun g => ?_) (fun g => ?_)
  · have g : vR 0 65535 v2 = false := by simpa using g
    fold_lay
    exact c_bad R.bv (kE _ (by simp [badWr, g1, g]))
  have g2 : vR 0 65535 v2 = true := by simpa using g
  fold_lay
  refine i_cut (fun σ' H' => H' = H ∧ vU v3 = true ∧ σ' = [some (.ref A.g), some v1, some v2, some v3]) ?_ (fun nx key => ?_)
  rotate_left
  · fold_lay
    refine c_is_holder t3 ?_
    fold_lay
    refine i_ifb (fun g => ?_) (fun g => ?_)
    · have g : vH v3 = false := by simpa using g
      fold_lay
      exact c_bad R.bv (kE _ (by simp [badWr, g1, g2, vU, g]))
    · have g : vH v3 = true := by simpa using g
      obtain ⟨i, rfl, i0, i1⟩ := vH_i g
      fold_lay
      refine i_ifd (fun z => ?_) (fun z => ?_)
      · subst z
        fold_lay
        exact c_bad R.bv (kE _ (by simp [badWr, g1, g2, vU]))
      · fold_lay
        exact key _ _ ⟨rfl, by simp [vU, g, z], rfl⟩
  rintro σ' H' ⟨rfl, g3, rfl⟩
  obtain ⟨p, rfl, p0, p1⟩ := vR_i g1
  obtain ⟨w, rfl, _, _⟩ := vR_i g2
  obtain ⟨hh, rfl, _, _⟩ := vH_i (by unfold vU at g3; exact (Bool.and_eq_true_iff.mp g3).1)
  obtain ⟨kN, kD⟩ := kQ (by simp [badWr, g1, g2, g3]) p w hh rfl rfl rfl
  fold_lay
  refine i_meth G lkm_check_guard ?_
  fold_lay
  refine c_check_guard G R.gk R.en p0 (by omega) (fun q => ?_) kN
  fold_lay
  refine i_meth G lkm_begin ?_
  fold_lay
  obtain ⟨A0, S0, e0, G0, R0, dl0, k0⟩ := one_deed (p := p) (w := w) (h := hh) G R dl p0 (by omega) (kD q)
  refine ⟨A0, S0, e0, G0, R0, dl0, fun d H1 G1 hd O1 => ?_⟩
  refine k0 d H1 G1 hd O1 _ fun A' S' G' ea ew eh es es2 hc => ?_
  fold_lay
  rw [← ea] at hc ⊢
  refine i_meth G' lkm_change_cell ?_
  fold_lay
  obtain ⟨A2, S2, dd2, d2, ds2, es2', p2, w2, h2, e2, G2, R2, a1, a2, a3, a4, a5, k2⟩ := hc
  refine ⟨A2, S2, dd2, d2, ds2, es2', p2, w2, h2, e2, G2, R2, a1, a2, a3, a4, a5, fun H2 G3 O3 => ?_⟩
  obtain ⟨hcm, A3, S3, G4, e4⟩ := k2 H2 G3 O3
  fold_lay
  rw [← e4] at hcm ⊢
  exact i_meth G4 lkm_commit hcm
/-! ## Ground10 -/
/-! ### the ground: poke -/
def badPk (n : Nat) (v1 v2 : V) : Option Str := if vR 0 ((n : Int) - 1) v1 = false then some "place" else if vR 0 65535 v2 = false then some "word" else none
def sp_poke (K : PySem.W.Frag) (c : Cl) : Sp := fun vs H Q E => ∃ (A : GA) (S : GS) (v1 v2 : V) (n1 n2 : String), vs = [.ref A.g, v1, v2] ∧ Gd c H A S ∧ GdE K c ∧ Ty0 H v1 n1 ∧ Ty0 H v2 n2 ∧ S.ds.length < 1000 ∧
  (∀ t, badPk S.ws.length v1 v2 = some t → ∀ d H', BadAt H' d (.str t) → Same H H' → E (.ref c.k_BadValue) (some d) H') ∧
  (badPk S.ws.length v1 v2 = none → ∀ p w, v1 = .int p → v2 = .int w → DeedOk c A S [(p, w, S.hs.getD p.toNat 0)] H (fun H' => Q .non H') E)
def N_c_Ground_poke : List Str := ["self", "place", "word"]
def t_c_Ground_poke (K : PySem.W.Frag) (c : Cl) (E : XK) : TS := (tSeq (tDrop (tMeth c.k_Ground "check_place" (sp_check_place K c) [] E (tVar 0) (tCons (tVar 1) tNil)))
  (tSeq (tIfS (tNot (tB (tCall (sp_whole_between K) [] E0 (tCons (tVar 2) (tCons (tC (.int 0)) (tCons (tC (.int 65535)) tNil)))))) (tRz (tMkO c.k_BadValue (sp_init_BadValue K c.k_BadValue) [] (tCons (tC (.str "word")) tNil)) (fun cls d _ H => E cls d H)) tNext)
  (tSeq (tDrop (tMeth c.k_Ground "begin" (sp_begin K c) [] E0 (tVar 0) tNil))
  (tSeq (tDrop (tMeth c.k_Ground "change_cell" (sp_change_cell K c) [] E0 (tVar 0) (tCons (tVar 1) (tCons (tVar 2) (tCons (tOp (rIxL K) (tFld K (tVar 0) "cell_holders") (tVar 1)) tNil)))))
  (tDrop (tMeth c.k_Ground "commit" (sp_commit K c) [] E (tVar 0) tNil))))))
theorem pure_poke {K : PySem.W.Frag} {c : Cl} {vs : List V} {H : Hp} {Q : VK} {E : XK} (h : sp_poke K c vs H Q E) : t_c_Ground_poke K c E { nx := fun _ H' => Q .non H', rt := Q } (start N_c_Ground_poke vs) H := by
  obtain ⟨A, S, v1, v2, n1, n2, rfl, G, R, t1, t2, dl, kE, kQ⟩ := h
  unfold t_c_Ground_poke
  fold_lay
  refine i_meth G lkm_check_place ?_
  fold_lay
  refine c_check_place G R.gk t1 R.bv (fun g1 => ?_) (fun g1 => kE _ (by simp [badPk, g1]))
  fold_depth
  refine c_whole_between t2 ?_
  fold_lay
  refine i_ifb (fun g => ?_) (fun g => ?_)
  · have g : vR 0 65535 v2 = false := by simpa using g
    fold_lay
    exact c_bad R.bv (kE _ (by simp [badPk, g1, g]))
  have g2 : vR 0 65535 v2 = true := by simpa using g
  fold_lay
  obtain ⟨p, rfl, p0, p1⟩ := vR_i g1
  obtain ⟨w, rfl, _, _⟩ := vR_i g2
  have kD := kQ (by simp [badPk, g1, g2]) p w rfl rfl
  refine i_meth G lkm_begin ?_
  fold_lay
  obtain ⟨A0, S0, e0, G0, R0, dl0, k0⟩ := one_deed (p := p) (w := w) (h := S.hs.getD p.toNat 0) G R dl p0 (by omega) kD
  refine ⟨A0, S0, e0, G0, R0, dl0, fun d H1 G1 hd O1 => ?_⟩
  refine k0 d H1 G1 hd O1 _ fun A' S' G' ea ew eh es es2 hc => ?_
  fold_lay
  rw [← ea] at hc ⊢
  refine i_meth G' lkm_change_cell ?_
  fold_lay
  refine i_gfld R.gk G'.ob (by simp) lkf_cell_holders ?_
  fold_lay
  have hl := G'.hl
  rw [es2] at hl
  refine i_ixL (sqL hl) (at_ints p0 (by rw [← G.le]; omega)) ?_
  fold_lay
  obtain ⟨A2, S2, dd2, d2, ds2, es2', p2, w2, h2, e2, G2, R2, a1, a2, a3, a4, a5, k2⟩ := hc
  refine ⟨A2, S2, dd2, d2, ds2, es2', p2, w2, h2, e2, G2, R2, a1, a2, a3, a4, a5, fun H2 G3 O3 => ?_⟩
  obtain ⟨hcm, A3, S3, G4, e4⟩ := k2 H2 G3 O3
  fold_lay
  rw [← e4] at hcm ⊢
  exact i_meth G4 lkm_commit hcm
/-! ## Ground11 -/
/-! ### the ground: pass_on -/
def vZ (v : V) : Int := match v with | .int i => i | _ => 0
def badPs (n : Nat) (v1 v2 v3 v4 : V) : Option Str := if vR 0 ((n : Int) - 1) v1 = false then some "start" else if vR 1 ((n : Int) - vZ v1) v2 = false then some "size" else if vH v3 = false then some "giver" else if vH v4 = false then some "taker" else none
def nog (S : GS) (g : Int) (p : Int) : Bool := decide (S.hs.getD p.toNat 0 ≠ g)
/-- the changes of a pass -/
def pas (S : GS) (s : Int) (n : Nat) (t : Int) : List En := (List.range n).map fun i : Nat => (s + (i : Int), (if t = 0 then S.fl else S.ws.getD (s + (i : Int)).toNat 0), t)
theorem pas_more {S : GS} {s t : Int} {i : Nat} : pas S s (i + 1) t = pas S s i t ++ [(s + (i : Int), (if t = 0 then S.fl else S.ws.getD (s + (i : Int)).toNat 0), t)] := by
  unfold pas
  rw [List.range_succ, List.map_append]
  rfl
theorem pas_mem {S : GS} {s t : Int} {n : Nat} {e : En} (h : e ∈ pas S s n t) : s ≤ e.1 ∧ e.1 < s + (n : Int) := by
  obtain ⟨i, hi, rfl⟩ := List.mem_map.mp h
  have := List.mem_range.mp hi
  exact ⟨by show s ≤ s + (i : Int); omega, by show s + (i : Int) < s + (n : Int); omega⟩
theorem pas_chg {S : GS} {s t : Int} {n m : Nat} (s0 : 0 ≤ s) (s1 : s + (n : Int) ≤ m) : Chg m (pas S s n t) := by
  refine ⟨?_, fun e he => ?_⟩
  · unfold pas
    rw [List.map_map]
    refine List.pairwise_map.mpr (List.nodup_range.imp fun {a b} h z => ?_)
    have z : s + (a : Int) = s + (b : Int) := z
    exact h (by omega)
  · have := pas_mem he
    omega
theorem restW_app {l : List En} {e : En} {ws : List Int} : restW (l ++ [e]) ws = (restW l ws).set e.1.toNat e.2.1 := by
  unfold restW
  rw [List.foldl_append]
  rfl
theorem restH_app {l : List En} {e : En} {ws : List Int} : restH (l ++ [e]) ws = (restH l ws).set e.1.toNat e.2.2 := by
  unfold restH
  rw [List.foldl_append]
  rfl
theorem restW_getD {l : List En} {i : Nat} {ws : List Int} (h : ∀ e ∈ l, e.1.toNat ≠ i) : (restW l ws).getD i 0 = ws.getD i 0 := by
  rw [List.getD_eq_getElem?_getD, List.getD_eq_getElem?_getD, restW_off h]
theorem restH_getD {l : List En} {i : Nat} {ws : List Int} (h : ∀ e ∈ l, e.1.toNat ≠ i) : (restH l ws).getD i 0 = ws.getD i 0 := by
  rw [List.getD_eq_getElem?_getD, List.getD_eq_getElem?_getD, restH_off h]
theorem inS_more {S : GS} {l : List En} {p w h : Int} (p0 : 0 ≤ p) (l0 : ∀ e ∈ l, 0 ≤ e.1 ∧ e.1 ≠ p) :
    ({ inS S l with ws := (inS S l).ws.set p.toNat w, hs := (inS S l).hs.set p.toNat h, ds := S.ds ++ [note (inS S l).ws (inS S l).hs p (logOf l S.ws S.hs)] } : GS) = inS S (l ++ [(p, w, h)]) := by
  have l1 : ∀ e ∈ l, e.1.toNat ≠ p.toNat := fun e m => by
    have := l0 e m
    omega
  have e1 : note (restW l S.ws) (restH l S.hs) p (logOf l S.ws S.hs) = logOf (l ++ [(p, w, h)]) S.ws S.hs := by
    unfold note
    rw [log_keys, if_neg (fun z => by
      obtain ⟨e, m, q⟩ := List.mem_map.mp z
      exact (l0 e m).2 q), restW_getD l1, restH_getD l1]
    simp [logOf]
  show ({ S with ws := (restW l S.ws).set p.toNat w, hs := (restH l S.hs).set p.toNat h, ds := S.ds ++ [note (restW l S.ws) (restH l S.hs) p (logOf l S.ws S.hs)] } : GS) = _
  rw [e1]
  show _ = ({ S with ws := restW (l ++ [(p, w, h)]) S.ws, hs := restH (l ++ [(p, w, h)]) S.hs, ds := _ } : GS)
  rw [restW_app, restH_app]
def sp_pass_on (K : PySem.W.Frag) (c : Cl) : Sp := fun vs H Q E => ∃ (A : GA) (S : GS) (v1 v2 v3 v4 : V) (n1 n2 n3 n4 : String), vs = [.ref A.g, v1, v2, v3, v4] ∧ Gd c H A S ∧ GdE K c ∧ Ty0 H v1 n1 ∧ Ty0 H v2 n2 ∧ Ty0 H v3 n3 ∧ Ty0 H v4 n4 ∧ S.ds.length < 1000 ∧
  (∀ t, badPs S.ws.length v1 v2 v3 v4 = some t → ∀ d H', BadAt H' d (.str t) → Same H H' → E (.ref c.k_BadValue) (some d) H') ∧
  (badPs S.ws.length v1 v2 v3 v4 = none → ∀ (s : Int) (n : Nat) (g t : Int), v1 = .int s → v2 = .int n → v3 = .int g → v4 = .int t →
    (g = 0 → ∀ p, firstP (brk S) s n = some p → ∀ d H', brA H' d p (S.ws.getD p.toNat 0) S.fl → Same H H' → E (.ref c.k_Broken) (some d) H') ∧
    ((g = 0 → firstP (brk S) s n = none) → (∀ p, firstP (nog S g) s n = some p → ∀ d H', nhA H' d p (S.hs.getD p.toNat 0) → Same H H' → E (.ref c.k_NotHeld) (some d) H') ∧
      (firstP (nog S g) s n = none → DeedOk c A S (pas S s n t) H (fun H' => Q .non H') E)))
def N_c_Ground_pass_on : List Str := ["self", "start", "size", "giver", "taker", "top", "place", "word"]
def t_c_Ground_pass_on (K : PySem.W.Frag) (c : Cl) (E : XK) : TS := (tSeq (tAsg (tCB (rLen K) (tCons (tFld K (tVar 0) "cell_words") tNil)) (gName 5))
  (tSeq (tIfS (tNot (tB (tCall (sp_whole_between K) [] E0 (tCons (tVar 1) (tCons (tC (.int 0)) (tCons (tOp oSub (tVar 5) (tC (.int 1))) tNil)))))) (tRz (tMkO c.k_BadValue (sp_init_BadValue K c.k_BadValue) [] (tCons (tC (.str "start")) tNil)) (fun cls d _ H => E cls d H)) tNext)
  (tSeq (tIfS (tNot (tB (tCall (sp_whole_between K) [] E0 (tCons (tVar 2) (tCons (tC (.int 1)) (tCons (tOp oSub (tVar 5) (tVar 1)) tNil)))))) (tRz (tMkO c.k_BadValue (sp_init_BadValue K c.k_BadValue) [] (tCons (tC (.str "size")) tNil)) (fun cls d _ H => E cls d H)) tNext)
  (tSeq (tIfS (tNot (tB (tCall (sp_is_holder K) [] E0 (tCons (tVar 3) tNil)))) (tRz (tMkO c.k_BadValue (sp_init_BadValue K c.k_BadValue) [] (tCons (tC (.str "giver")) tNil)) (fun cls d _ H => E cls d H)) tNext)
  (tSeq (tIfS (tNot (tB (tCall (sp_is_holder K) [] E0 (tCons (tVar 4) tNil)))) (tRz (tMkO c.k_BadValue (sp_init_BadValue K c.k_BadValue) [] (tCons (tC (.str "taker")) tNil)) (fun cls d _ H => E cls d H)) tNext)
  (tSeq (tIfS (tTest (tOp rEq (tVar 3) (tC (.int 0)))) (tDrop (tMeth c.k_Ground "check_fill" (sp_check_fill K c) [] E (tVar 0) (tCons (tVar 1) (tCons (tVar 2) tNil)))) tNext)
  (tSeq (tFor (iRng2 (tCons (tVar 1) (tCons (tOp oAdd (tVar 1) (tVar 2)) tNil))) (gName 6) (tDrop (tMeth c.k_Ground "check_guard" (sp_check_guard K c) [] E (tVar 0) (tCons (tVar 6) (tCons (tVar 3) tNil)))))
  (tSeq (tDrop (tMeth c.k_Ground "begin" (sp_begin K c) [] E0 (tVar 0) tNil))
  (tSeq (tFor (iRng2 (tCons (tVar 1) (tCons (tOp oAdd (tVar 1) (tVar 2)) tNil))) (gName 6) (tSeq (tAsg (tIf (tTest (tOp rEq (tVar 4) (tC (.int 0)))) (tFld K (tVar 0) "fill") (tOp (rIxL K) (tFld K (tVar 0) "cell_words") (tVar 6))) (gName 7))
  (tDrop (tMeth c.k_Ground "change_cell" (sp_change_cell K c) [] E0 (tVar 0) (tCons (tVar 6) (tCons (tVar 7) (tCons (tVar 4) tNil)))))))
  (tDrop (tMeth c.k_Ground "commit" (sp_commit K c) [] E (tVar 0) tNil)))))))))))
theorem pure_pass_on {K : PySem.W.Frag} {c : Cl} {vs : List V} {H : Hp} {Q : VK} {E : XK} (h : sp_pass_on K c vs H Q E) : t_c_Ground_pass_on K c E { nx := fun _ H' => Q .non H', rt := Q } (start N_c_Ground_pass_on vs) H := by
  obtain ⟨A, S, v1, v2, v3, v4, n1, n2, n3, n4, rfl, G, R, t1, t2, t3, t4, dl, kE, kQ⟩ := h
  have wl := G.wl
  have hl := G.hl
  have sz := G.sz
  unfold t_c_Ground_pass_on
  fold_lay
  refine i_gfld R.gk G.ob (by simp) lkf_cell_words ?_
  fold_lay
  rw [List.length_map]
  fold_depth
  refine c_whole_between t1 ?_
  fold_lay
  refine i_ifb (fun g => ?_) (fun g => ?_)
  · have g : vR 0 ((S.ws.length : Int) - 1) v1 = false := by simpa using g
    fold_lay
    exact c_bad R.bv (kE _ (by simp [badPs, g]))
  have g1 : vR 0 ((S.ws.length : Int) - 1) v1 = true := by simpa using g
  clear g
  obtain ⟨s, rfl, s0, s1⟩ := vR_i g1
  fold_lay
  fold_depth
  refine c_whole_between t2 ?_
  fold_lay
  refine i_ifb (fun g => ?_) (fun g => ?_)
  · have g : vR 1 ((S.ws.length : Int) - s) v2 = false := by simpa using g
    fold_lay
    exact c_bad R.bv (kE _ (by simp [badPs, g1, vZ, g]))
  have g2 : vR 1 ((S.ws.length : Int) - s) v2 = true := by simpa using g
  clear g
  obtain ⟨n, rfl, m0, m1⟩ := vR_i g2
  obtain ⟨n, rfl⟩ := Int.eq_ofNat_of_zero_le (show 0 ≤ n by omega)
  fold_lay
  fold_depth
  refine c_is_holder t3 ?_
  fold_lay
  refine i_ifb (fun g => ?_) (fun g => ?_)
  · have g : vH v3 = false := by simpa using g
    fold_lay
    exact c_bad R.bv (kE _ (by simp [badPs, g1, vZ, g2, g]))
  have g3 : vH v3 = true := by simpa using g
  clear g
  obtain ⟨gv, rfl, _, _⟩ := vH_i g3
  fold_lay
  fold_depth
  refine c_is_holder t4 ?_
  fold_lay
  refine i_ifb (fun g => ?_) (fun g => ?_)
  · have g : vH v4 = false := by simpa using g
    fold_lay
    exact c_bad R.bv (kE _ (by simp [badPs, g1, vZ, g2, g3, g]))
  have g4 : vH v4 = true := by simpa using g
  clear g
  obtain ⟨tk, rfl, _, _⟩ := vH_i g4
  obtain ⟨kB, kR⟩ := kQ (by simp [badPs, g1, vZ, g2, g3, g4]) s n gv tk rfl rfl rfl rfl
  fold_lay
  refine i_cut (fun σ' H' => H' = H ∧ (gv = 0 → firstP (brk S) s n = none) ∧ σ' = [some (.ref A.g), some (.int s), some (.int n), some (.int gv), some (.int tk), some (.int S.ws.length), none, none]) ?_ (fun nx key => ?_)
  rotate_left
  · fold_lay
    refine i_ifd (fun z => ?_) (fun z => ?_)
    · fold_lay
      refine i_meth G lkm_check_fill ?_
      fold_lay
      refine ⟨A, S, s, n, rfl, G, R.gk, R.eb, s0, by omega, fun q => ?_, kB z⟩
      fold_lay
      exact key _ _ ⟨rfl, fun _ => q, rfl⟩
    · fold_lay
      exact key _ _ ⟨rfl, fun q => absurd q z, rfl⟩
  rintro σ' H' ⟨rfl, g5, rfl⟩
  obtain ⟨kN, kD⟩ := kR g5
  fold_lay
  fold_depth
  refine f_rng2 (by omega) (by omega) (by omega) (by omega) ?_
  rw [show (s + (n : Int) - s).toNat = n by omega]
  refine l_rng (fun i σ1 H1 => H1 = H' ∧ (∀ j : Nat, j < i → nog S gv (s + (j : Int)) = false) ∧ ∃ y1, σ1 = [some (.ref A.g), some (.int s), some (.int n), some (.int gv), some (.int tk), some (.int S.ws.length), y1, none]) ⟨rfl, fun j hj => by omega, _, rfl⟩ ?_ ?_
  · rintro i σ1 H1 hi ⟨rfl, hlow, y1, rfl⟩
    fold_lay
    refine i_meth G lkm_check_guard ?_
    fold_lay
    refine c_check_guard G R.gk R.en (by omega) (by omega) (fun q => ?_) (fun q => kN _ (firstP_some hi (by simp [nog, q]; exact q) hlow))
    fold_lay
    refine ⟨rfl, fun j hj => ?_, _, rfl⟩
    rcases Nat.lt_or_ge j i with z | z
    · exact hlow j z
    · obtain rfl : j = i := by omega
      simp [nog]
      exact q
  rintro σ1 H1 ⟨rfl, hall, y1, rfl⟩
  have D := kD (firstP_none hall)
  fold_lay
  refine i_meth G lkm_begin ?_
  fold_lay
  refine ⟨A, S, rfl, G, R.gk, dl, fun d H2 G2 hd O2 => ?_⟩
  fold_lay
  fold_depth
  refine f_rng2 (by omega) (by omega) (by omega) (by omega) ?_
  rw [show (s + (n : Int) - s).toNat = n by omega]
  refine l_rng (fun i σ3 H3 => Gd c H3 (inA A d) (inS S (pas S s i tk)) ∧ Out (fpA A) H1 H3 ∧ ∃ y1 y2, σ3 = [some (.ref A.g), some (.int s), some (.int n), some (.int gv), some (.int tk), some (.int S.ws.length), y1, y2]) ⟨G2, O2.wide (by simp), _, _, rfl⟩ ?_ ?_
  · rintro i σ3 H3 hi ⟨G3, O3, y1, y2, rfl⟩
    have p0 : 0 ≤ s + (i : Int) := by omega
    have p1 : s + (i : Int) < S.ws.length := by omega
    have l0 : ∀ e ∈ pas S s i tk, 0 ≤ e.1 ∧ e.1 ≠ s + (i : Int) := fun e m => by
      have := pas_mem m
      omega
    have l1 : ∀ e ∈ pas S s i tk, e.1.toNat ≠ (s + (i : Int)).toNat := fun e m => by
      have := l0 e m
      omega
    kbj_are
    refine i_cut (fun σ4 H4 => H4 = H3 ∧ σ4 = [some (.ref A.g), some (.int s), some (.int n), some (.int gv), some (.int tk), some (.int S.ws.length), some (.int (s + (i : Int))), some (.int (if tk = 0 then S.fl else S.ws.getD (s + (i : Int)).toNat 0))]) ?_ (fun nx key => ?_)
    rotate_left
    · fold_lay
      refine i_ifd (fun z => ?_) (fun z => ?_)
      · fold_lay
        refine i_gfld R.gk G3.ob (by simp) lkf_fill ?_
        fold_lay
        exact key _ _ ⟨rfl, by rw [if_pos z]; rfl⟩
      · fold_lay
        refine i_gfld R.gk G3.ob (by simp) lkf_cell_words ?_
        fold_lay
        refine i_ixL (sqL G3.wl) (at_ints p0 (by rw [restW_len]; exact p1)) ?_
        fold_lay
        exact key _ _ ⟨rfl, by rw [if_neg z, restW_getD l1]; rfl⟩
    rintro σ4 H4 ⟨rfl, rfl⟩
    fold_lay
    refine i_meth (A := inA A d) G3 lkm_change_cell ?_
    fold_lay
    refine ⟨inA A d, inS S (pas S s i tk), A.dd, d, S.ds, logOf (pas S s i tk) S.ws S.hs, _, _, _, rfl, G3, R.gk, rfl, rfl, p0, by rw [restW_len]; exact p1, G3.shorts _ (by simp), fun H5 G5 O5 => ?_⟩
    fold_lay
    rw [inS_more p0 l0, ← pas_more] at G5
    refine ⟨G5, fun b u nb e => O5 b u (fun z => ?_) (O3 b u nb e), _, _, rfl⟩
    simp only [List.mem_cons, List.not_mem_nil, or_false] at z
    rcases z with z | z | z
    · exact nb (by simp [z])
    · exact nb (by simp [z])
    · rw [z, hd] at e
      cases e
  rintro σ3 H3 ⟨G3, O3, y1, y2, rfl⟩
  fold_lay
  refine i_meth (A := inA A d) G3 lkm_commit ?_
  exact commit_deed G (pas_chg s0 (by omega)) G3 O3 hd R.gk R.eu R.ec D
/-! ## K09a -/
/-! ### rows of pairs in the heap -/
abbrev PR := Int × Int
inductive Prs (H : Hp) : List V → List PR → Prop where
  | nil : Prs H [] []
  | cons {a n : Int} {t : Addr} {xs : List V} {ps : List PR} (h : H t = some (.tup [.int a, .int n])) (r : Prs H xs ps) : Prs H (.ref t :: xs) ((a, n) :: ps)
theorem Prs.mono {H H' : Hp} {xs : List V} {ps : List PR} (h : Prs H xs ps) (s : Same H H') : Prs H' xs ps := by
  induction h with
  | nil => exact .nil
  | cons h _ ih => exact .cons (s _ _ h) ih
theorem Prs.len {H : Hp} {xs : List V} {ps : List PR} (h : Prs H xs ps) : xs.length = ps.length := by
  induction h with
  | nil => rfl
  | cons _ _ ih => rw [List.length_cons, List.length_cons, ih]
theorem Prs.app {H : Hp} {xs ys : List V} {ps qs : List PR} (h : Prs H xs ps) (g : Prs H ys qs) : Prs H (xs ++ ys) (ps ++ qs) := by
  induction h with
  | nil => exact g
  | cons h _ ih => exact .cons h ih
theorem Prs.at {H : Hp} {xs : List V} {ps : List PR} (h : Prs H xs ps) {i : Nat} {x : V} (e : xs[i]? = some x) : ∃ p t, ps[i]? = some p ∧ x = .ref t ∧ H t = some (.tup [.int p.1, .int p.2]) := by
  induction h generalizing i with
  | nil => cases e
  | cons h _ ih =>
    cases i with
    | zero => cases e; exact ⟨_, _, rfl, rfl, h⟩
    | succ i => exact ih e
theorem Prs.last {H : Hp} {p : PR} : ∀ {ps : List PR} {xs : List V}, Prs H xs (ps ++ [p]) → ∃ ys t, xs = ys ++ [.ref t] ∧ Prs H ys ps ∧ H t = some (.tup [.int p.1, .int p.2])
  | [], _, .cons h .nil => ⟨[], _, rfl, .nil, h⟩
  | _ :: _, _, .cons h r => by
    obtain ⟨ys, t, rfl, r, ht⟩ := Prs.last r
    exact ⟨_ :: ys, t, rfl, .cons h r, ht⟩
theorem Prs.ats {H : Hp} {xs : List V} {ps : List PR} (h : Prs H xs ps) : Ats H xs (ps.map fun p => spanD p.1 p.2) := by
  induction h with
  | nil => exact .nil
  | cons h _ ih => exact .cons (.tup h (.cons (.int _) (.cons (.int _) .nil))) ih
def kOf (H : Hp) : V → PR
  | .ref t => match H t with
    | some (.tup [.int a, .int n]) => (a, n)
    | _ => (0, 0)
  | _ => (0, 0)
theorem Prs.key {H : Hp} {xs : List V} {ps : List PR} (h : Prs H xs ps) : xs.map (kOf H) = ps := by
  induction h with
  | nil => rfl
  | cons h _ ih =>
    rw [List.map_cons, ih]
    simp only [kOf, h]
theorem Prs.mem {H : Hp} {xs : List V} {ps : List PR} (h : Prs H xs ps) : ∀ x ∈ xs, ∃ t, x = V.ref t ∧ H t = some (.tup [.int (kOf H x).1, .int (kOf H x).2]) := by
  induction h with
  | nil => intro x m; cases m
  | @cons a n t xs ps h _ ih =>
    intro x m
    rcases List.mem_cons.mp m with rfl | m
    · exact ⟨t, rfl, by simp only [kOf, h]⟩
    · exact ih x m
theorem Prs.of {H : Hp} : ∀ {ys : List V}, (∀ x ∈ ys, ∃ t, x = V.ref t ∧ H t = some (.tup [.int (kOf H x).1, .int (kOf H x).2])) → Prs H ys (ys.map (kOf H))
  | [], _ => .nil
  | y :: ys, h => by
    obtain ⟨t, rfl, e⟩ := h y List.mem_cons_self
    exact .cons e (Prs.of fun x m => h x (List.mem_cons_of_mem _ m))
theorem i_sorted {K : PySem.W.Frag} {H : Hp} {Q : VK} {a : Addr} {xs : List V} {ps : List PR} (hs : H a = some (.lst xs)) (hp : Prs H xs ps) (k : ∀ ys qs p, Prs H ys qs → qs.Perm ps → SrtO.Srtd SrtO.lexB qs → H p = none → Q (.ref p) (upd H p (.lst ys))) : rSortedPO K [.ref a] H Q := by
  refine ⟨a, xs, kOf H, rfl, sqL hs, hp.mem, fun ys p s1 s2 h => k ys (ys.map (kOf H)) p (Prs.of fun x m => hp.mem x (s2.perm.mem_iff.mp m)) ?_ (SrtO.srtd_map s1) h⟩
  have e := s2.perm.map (kOf H)
  rw [hp.key] at e
  exact e
/-- rows joined: what is found (the last one first), the rows -/
def joinR : List PR → List PR → List PR
  | acc, [] => acc.reverse
  | [], p :: r => joinR [p] r
  | q :: acc, p :: r => if p.1 ≤ q.1 + q.2 then joinR ((q.1, (if p.1 + p.2 > q.1 + q.2 then p.1 + p.2 else q.1 + q.2) - q.1) :: acc) r else joinR (p :: q :: acc) r
theorem i_setLast {H : Hp} {p : Addr} {xs : List V} {y v : V} {Q : Hp → Prop} (h : H p = some (.lst (xs ++ [y]))) (q : Q (upd H p (.lst (xs ++ [v])))) : rSetL (.ref p) (.int (-1)) v H Q := by
  refine ⟨p, xs ++ [y], -1, xs.length, rfl, rfl, h, ?_, ?_⟩
  · unfold ixN
    simp
    omega
  · rw [List.set_append_right _ _ (Nat.le_refl _), Nat.sub_self]
    exact q
theorem i_ixLast {K : PySem.W.Frag} {H : Hp} {p : Addr} {xs : List V} {y : V} {Q : VK} (h : H p = some (.lst (xs ++ [y]))) (q : Q y H) : rIxL K (.ref p) (.int (-1)) H Q := ⟨p, xs ++ [y], -1, y, rfl, rfl, sqL h, ix_last, q⟩
instance s_truth {K : PySem.W.Frag} {te : TE} {σ : St} {H : Hp} {QT : Bool → Hp → Prop} : Stp (tTruth K te σ H QT) (te σ H fun x H' => ∃ k, TruV K x H' k ∧ QT k H') := ⟨fun h => h⟩
theorem Prs.set {H : Hp} {xs zs : List V} {ps : List PR} {f : Addr} {o : HO} (h : Prs H xs ps) (hf : H f = some (.lst zs)) : Prs (upd H f o) xs ps := by
  induction h with
  | nil => exact .nil
  | @cons a n t xs ps h _ ih => exact .cons (upd_off (fun z => by rw [z, hf] at h; cases h) h) ih
theorem ne_of_none' {H : Hp} {a u : Addr} {o : HO} (h : H a = some o) (hu : H u = none) : u ≠ a := fun z => by rw [z, h] at hu; cases hu
def sp_joined_rows (K : PySem.W.Frag) : Sp := fun vs H Q _ => ∃ (r : Addr) (xs : List V) (ps : List PR), vs = [.ref r] ∧ H r = some (.lst xs) ∧ Prs H xs ps ∧ ps.length ≤ 40000 ∧
  ∀ qs f fs H', qs.Perm ps → SrtO.Srtd SrtO.lexB qs → H' f = some (.lst fs) → Prs H' fs (joinR [] qs) → H f = none → Same H H' → Q (.ref f) H'
def N_p_joined_rows : List Str := ["rows", "found", "start", "size", "low", "many"]
def t_p_joined_rows (K : PySem.W.Frag) : TS := (tSeq (tAsg (tLst tNil) (gName 1))
  (tSeq (tFor (iList K (tCB (rSortedPO K) (tCons (tVar 0) tNil))) (gTup K 2 (gCons (gName 2) (gCons (gName 3) gNil))) (tIfS (tAnd (tTruth K (tVar 1)) (tTest (tOp oLe (tVar 2) (tOp oAdd (tOp (rIxT K) (tOp (rIxL K) (tVar 1) (tUn oNeg (tC (.int 1)))) (tC (.int 0))) (tOp (rIxT K) (tOp (rIxL K) (tVar 1) (tUn oNeg (tC (.int 1)))) (tC (.int 1))))))) (tSeq (tAsg (tOp (rIxL K) (tVar 1) (tUn oNeg (tC (.int 1)))) (gTup K 2 (gCons (gName 4) (gCons (gName 5) gNil))))
  (tAsg (tTup (tCons (tVar 4) (tCons (tOp oSub (tCB rMax2 (tCons (tOp oAdd (tVar 4) (tVar 5)) (tCons (tOp oAdd (tVar 2) (tVar 3)) tNil))) (tVar 4)) tNil))) (gSub (tVar 1) (tUn oNeg (tC (.int 1))) rSetL))) (tDrop (tBM K "list" rAppend (tVar 1) (tCons (tTup (tCons (tVar 2) (tCons (tVar 3) tNil))) tNil)))))
  (tRet (tVar 1))))
theorem pure_joined_rows {K : PySem.W.Frag} {vs : List V} {H : Hp} {Q : VK} {E : XK} (h : sp_joined_rows K vs H Q E) : t_p_joined_rows K { nx := fun _ H' => Q .non H', rt := Q } (start N_p_joined_rows vs) H := by
  obtain ⟨r, xs, ps, rfl, hs, hp, hz, k⟩ := h
  unfold t_p_joined_rows
  fold_lay
  rename_i fa hfa
  fold_depth
  refine i_sorted (upd_keep hfa hs) (hp.mono (same_new hfa)) fun ys qs sa hq pq sq hsa => ?_
  refine f_lst (sqL upd_same) (l_lst (xs := ys) (fun i σ' H' => ∃ acc a b c d fs, σ' = [some (.ref r), some (.ref fa), a, b, c, d] ∧ H' fa = some (.lst fs) ∧ Prs H' fs acc.reverse ∧ joinR acc (qs.drop i) = joinR [] qs ∧ acc.length ≤ i ∧ H' sa = some (.lst ys) ∧ Prs H' ys qs ∧ Same H H') ?_ ?_ ?_ ?_)
  · exact ⟨[], _, _, _, _, [], rfl, upd_keep hsa upd_same, .nil, rfl, Nat.le_refl _, upd_same, hq.mono (same_new hsa), (same_new hfa).trans (same_new hsa)⟩
  · rintro i σ' H' _ ⟨acc, a, b, c, d, fs, rfl, h1, h2, h3, h4, h5, h6, h7⟩
    exact sqL h5
  · rintro i x σ' H' hx ⟨acc, a, b, c, d, fs, rfl, h1, h2, h3, h4, h5, h6, h7⟩
    obtain ⟨p, t, ep, rfl, ht⟩ := h6.at hx
    have hd : qs.drop i = p :: qs.drop (i + 1) := by
      obtain ⟨hi, e⟩ := List.getElem?_eq_some_iff.mp ep
      rw [← e]
      exact List.drop_eq_getElem_cons hi
    rw [hd] at h3
    have nsf : fa ≠ sa := fun z => by rw [← z, upd_same] at hsa; cases hsa
    have hrl : i < 40000 := by
      have := (List.getElem?_eq_some_iff.mp ep).1
      have := pq.length_eq
      omega
    have fl : fs.length = acc.length := by rw [h2.len, List.length_reverse]
    fold_lay
    cases acc with
    | nil =>
      cases h2
      fold_lay
      refine ⟨false, .inl ⟨[], sqL h1, rfl⟩, iteF ?_⟩
      fold_lay
      rename_i u hu
      refine i_put (upd_keep hu h1) (by simp) ?_
      refine ⟨[p], _, _, _, _, [.ref u], rfl, upd_same, ?_, h3, by simp, ?_, ?_, ?_⟩
      · exact .cons (upd_off (ne_of_none' h1 hu) upd_same) .nil
      · exact upd_off (Ne.symm nsf) (upd_keep hu h5)
      · exact (h6.mono (same_new hu)).set (upd_keep hu h1)
      · exact same_step hfa (h7.trans (same_new hu))
    | cons q acc =>
      rw [List.reverse_cons] at h2
      obtain ⟨gs, w, rfl, h8, hw⟩ := h2.last
      have gl : gs.length = acc.length := by rw [h8.len, List.length_reverse]
      have h4 : acc.length + 1 ≤ i := h4
      refine ⟨true, .inl ⟨_, sqL h1, by cases gs <;> rfl⟩, iteT ?_⟩
      fold_lay
      refine i_ixLast h1 ?_
      fold_lay
      refine i_ixLast h1 ?_
      fold_lay
      refine i_ifd (fun g => ?_) (fun g => ?_)
      · simp only [joinR, if_pos g] at h3
        fold_depth
        refine i_ixLast h1 ?_
        fold_lay
        rename_i u hu
        refine i_setLast (upd_keep hu h1) ?_
        refine ⟨_ :: acc, _, _, _, _, gs ++ [.ref u], rfl, upd_same, ?_, h3, by simpa using (by omega : acc.length + 1 ≤ i + 1), ?_, ?_, ?_⟩
        · rw [List.reverse_cons]
          exact ((h8.mono (same_new hu)).set (upd_keep hu h1)).app (.cons (upd_off (ne_of_none' h1 hu) upd_same) .nil)
        · exact upd_off (Ne.symm nsf) (upd_keep hu h5)
        · exact (h6.mono (same_new hu)).set (upd_keep hu h1)
        · exact same_step hfa (h7.trans (same_new hu))
      · simp only [joinR, if_neg g] at h3
        fold_lay
        rename_i u hu
        refine i_put (upd_keep hu h1) (by simp; omega) ?_
        refine ⟨p :: q :: acc, _, _, _, _, (gs ++ [.ref w]) ++ [.ref u], rfl, upd_same, ?_, h3, by simpa using (by omega : acc.length + 1 + 1 ≤ i + 1), ?_, ?_, ?_⟩
        · rw [List.reverse_cons, List.reverse_cons]
          exact (((h8.app (.cons hw .nil)).mono (same_new hu)).set (upd_keep hu h1)).app (.cons (upd_off (ne_of_none' h1 hu) upd_same) .nil)
        · exact upd_off (Ne.symm nsf) (upd_keep hu h5)
        · exact (h6.mono (same_new hu)).set (upd_keep hu h1)
        · exact same_step hfa (h7.trans (same_new hu))
  · rintro σ' H' ⟨acc, a, b, c, d, fs, rfl, h1, h2, h3, h4, h5, h6, h7⟩
    have e : qs.drop ys.length = [] := List.drop_eq_nil_of_le (by rw [hq.len]; exact Nat.le_refl _)
    rw [e] at h3
    fold_lay
    refine k qs fa fs H' pq sq h1 ?_ hfa h7
    rw [← h3]
    exact h2
/-! ## Cov -/
/-! ### rows of spans as sets of places -/
def inSp (ps : List PR) (x : Int) : Prop := ∃ p ∈ ps, p.1 ≤ x ∧ x < p.1 + p.2
def OkS (ps : List PR) : Prop := ∀ p ∈ ps, 0 ≤ p.1 ∧ 1 ≤ p.2 ∧ p.1 + p.2 ≤ 1000000000
structure RunsL (l : List PR) : Prop where
  ap : l.Pairwise fun p q => p.1 + p.2 < q.1
  ok : OkS l
theorem inS_cons {p : PR} {l : List PR} {x : Int} : inSp (p :: l) x ↔ (p.1 ≤ x ∧ x < p.1 + p.2) ∨ inSp l x := by
  constructor
  · rintro ⟨q, m, h⟩
    rcases List.mem_cons.mp m with rfl | m
    · exact .inl h
    · exact .inr ⟨q, m, h⟩
  · rintro (h | ⟨q, m, h⟩)
    · exact ⟨p, List.mem_cons_self, h⟩
    · exact ⟨q, List.mem_cons_of_mem _ m, h⟩
theorem inS_nil {x : Int} : ¬ inSp [] x := fun ⟨_, m, _⟩ => by cases m
theorem inS_rev {l : List PR} {x : Int} : inSp l.reverse x ↔ inSp l x := by
  unfold inSp
  simp only [List.mem_reverse]
theorem inS_perm {l m : List PR} (h : l.Perm m) {x : Int} : inSp l x ↔ inSp m x := by
  unfold inSp
  simp only [h.mem_iff]
theorem joinR_runs : ∀ (l acc : List PR), acc.Pairwise (fun x y => y.1 + y.2 < x.1) → OkS acc → OkS l → l.Pairwise (fun p q => p.1 ≤ q.1) → (∀ q r, acc = q :: r → ∀ p ∈ l, q.1 ≤ p.1) → RunsL (joinR acc l) ∧ (∀ x, inSp (joinR acc l) x ↔ inSp acc x ∨ inSp l x) ∧ (joinR acc l).length ≤ acc.length + l.length
  | [], acc, h1, h2, _, _, _ => by
    unfold joinR
    refine ⟨⟨List.pairwise_reverse.mpr h1, fun p m => h2 p (List.mem_reverse.mp m)⟩, fun x => ?_, by rw [List.length_reverse]; simp⟩
    rw [inS_rev]
    exact ⟨.inl, fun h => h.elim id fun h => absurd h inS_nil⟩
  | p :: l, [], h1, h2, h3, h4, h5 => by
    obtain ⟨q1, q2⟩ := List.pairwise_cons.mp h4
    obtain ⟨a, b, c⟩ := joinR_runs l [p] (List.pairwise_singleton _ _) (fun x m => by rw [List.mem_singleton.mp m]; exact h3 p List.mem_cons_self) (fun x m => h3 x (List.mem_cons_of_mem _ m)) q2 (fun q r e x m => by cases e; exact q1 x m)
    show RunsL (joinR [p] l) ∧ _
    refine ⟨a, fun x => ?_, by simp only [joinR]; simp only [List.length_cons, List.length_nil] at *; omega⟩
    show inSp (joinR [p] l) x ↔ _
    rw [b x, inS_cons, inS_cons]
    have := @inS_nil x
    constructor
    · rintro ((h | h) | h)
      · exact .inr (.inl h)
      · exact absurd h this
      · exact .inr (.inr h)
    · rintro (h | h | h)
      · exact absurd h this
      · exact .inl (.inl h)
      · exact .inr h
  | p :: l, q :: acc, h1, h2, h3, h4, h5 => by
    obtain ⟨q1, q2⟩ := List.pairwise_cons.mp h4
    obtain ⟨r1, r2⟩ := List.pairwise_cons.mp h1
    have hp := h3 p List.mem_cons_self
    have hq := h2 q List.mem_cons_self
    have hqp := h5 q acc rfl p List.mem_cons_self
    have h3' : OkS l := fun x m => h3 x (List.mem_cons_of_mem _ m)
    have h2' : OkS acc := fun x m => h2 x (List.mem_cons_of_mem _ m)
    by_cases g : p.1 ≤ q.1 + q.2
    · have e : joinR (q :: acc) (p :: l) = joinR ((q.1, (if p.1 + p.2 > q.1 + q.2 then p.1 + p.2 else q.1 + q.2) - q.1) :: acc) l := by
        simp only [joinR, if_pos g]
      have em : ∃ m, (if p.1 + p.2 > q.1 + q.2 then p.1 + p.2 else q.1 + q.2) = m ∧ q.1 + q.2 ≤ m ∧ p.1 + p.2 ≤ m ∧ m ≤ 1000000000 ∧ (m = q.1 + q.2 ∨ m = p.1 + p.2) := by
        refine ⟨_, rfl, ?_⟩
        split <;> omega
      obtain ⟨m, em, m1, m2, m3, m4⟩ := em
      rw [em] at e
      rw [e]
      obtain ⟨a, b, c⟩ := joinR_runs l ((q.1, m - q.1) :: acc) (List.pairwise_cons.mpr ⟨fun x mx => r1 x mx, r2⟩) (fun x mx => by
        rcases List.mem_cons.mp mx with rfl | mx
        · exact ⟨hq.1, by show 1 ≤ m - q.1; omega, by show q.1 + (m - q.1) ≤ _; omega⟩
        · exact h2' x mx) h3' q2 (fun q' r' e' x mx => by
        cases e'
        show q.1 ≤ x.1
        have := q1 x mx
        omega)
      refine ⟨a, fun x => ?_, by simp only [List.length_cons] at *; omega⟩
      rw [b x, inS_cons, inS_cons, inS_cons]
      show ((q.1 ≤ x ∧ x < q.1 + (m - q.1)) ∨ _) ∨ _ ↔ _
      constructor
      · rintro ((h | h) | h)
        · by_cases z : x < q.1 + q.2
          · exact .inl (.inl ⟨h.1, z⟩)
          · exact .inr (.inl ⟨by omega, by omega⟩)
        · exact .inl (.inr h)
        · exact .inr (.inr h)
      · rintro ((h | h) | h | h)
        · exact .inl (.inl ⟨h.1, by omega⟩)
        · exact .inl (.inr h)
        · exact .inl (.inl ⟨by omega, by omega⟩)
        · exact .inr h
    · have e : joinR (q :: acc) (p :: l) = joinR (p :: q :: acc) l := by
        simp only [joinR, if_neg g]
      rw [e]
      obtain ⟨a, b, c⟩ := joinR_runs l (p :: q :: acc) (List.pairwise_cons.mpr ⟨fun x mx => by
        rcases List.mem_cons.mp mx with rfl | mx
        · omega
        · have := r1 x mx
          omega, h1⟩) (fun x mx => by
        rcases List.mem_cons.mp mx with rfl | mx
        · exact hp
        · exact h2 x mx) h3' q2 (fun q' r' e' x mx => by cases e'; exact q1 x mx)
      refine ⟨a, fun x => ?_, by simp only [List.length_cons] at *; omega⟩
      simp only [b x, inS_cons]
      constructor
      · rintro ((h | h | h) | h)
        · exact .inr (.inl h)
        · exact .inl (.inl h)
        · exact .inl (.inr h)
        · exact .inr (.inr h)
      · rintro ((h | h) | h | h)
        · exact .inl (.inr (.inl h))
        · exact .inl (.inr (.inr h))
        · exact .inl (.inl h)
        · exact .inr h
theorem joined_runs {ps qs : List PR} (h : OkS ps) (p : qs.Perm ps) (s : SrtO.Srtd SrtO.lexB qs) : RunsL (joinR [] qs) ∧ (∀ x, inSp (joinR [] qs) x ↔ inSp ps x) ∧ (joinR [] qs).length ≤ ps.length := by
  obtain ⟨a, b, c⟩ := joinR_runs qs [] .nil (fun _ m => by cases m) (fun x m => h x (p.mem_iff.mp m)) (s.imp fun {x y} e => by have := SrtO.lexB_no.mp e; omega) (fun _ _ e => by cases e)
  refine ⟨a, fun x => ?_, by rw [← p.length_eq]; simpa using c⟩
  rw [b x, inS_perm p]
  exact ⟨fun h => h.elim (fun h => absurd h inS_nil) id, .inr⟩
/-! ### the greatest place below -/
def gb : List Int → Int → Int
  | [], _ => -1
  | x :: r, e => if x < e ∧ gb r e < x then x else gb r e
structure IsGb (P : Int → Prop) (e g : Int) : Prop where
  h : (g = -1 ∧ ∀ x, P x → e ≤ x) ∨ (P g ∧ g < e ∧ ∀ x, P x → x < e → x ≤ g)
theorem IsGb.uniq {P : Int → Prop} (p0 : ∀ x, P x → 0 ≤ x) {e g g' : Int} (a : IsGb P e g) (b : IsGb P e g') : g = g' := by
  rcases a.h with ⟨a1, a2⟩ | ⟨a1, a2, a3⟩ <;> rcases b.h with ⟨b1, b2⟩ | ⟨b1, b2, b3⟩
  · omega
  · have := a2 g' b1
    omega
  · have := b2 g a1
    omega
  · have := a3 g' b1 b2
    have := b3 g a1 a2
    omega
theorem gb_is : ∀ {l : List Int} {e : Int}, (∀ x ∈ l, 0 ≤ x) → IsGb (fun x => x ∈ l) e (gb l e)
  | [], e, _ => ⟨.inl ⟨rfl, fun _ m => by cases m⟩⟩
  | y :: r, e, h => by
    have ih := (gb_is (l := r) (e := e) fun x m => h x (List.mem_cons_of_mem _ m)).h
    have y0 := h y List.mem_cons_self
    unfold gb
    by_cases c : y < e ∧ gb r e < y
    · rw [if_pos c]
      refine ⟨.inr ⟨List.mem_cons_self, c.1, fun x m l => ?_⟩⟩
      rcases List.mem_cons.mp m with rfl | m
      · exact Int.le_refl _
      · rcases ih with ⟨i1, i2⟩ | ⟨i1, i2, i3⟩
        · have := i2 x m
          omega
        · have := i3 x m l
          omega
    · rw [if_neg c]
      rcases ih with ⟨i1, i2⟩ | ⟨i1, i2, i3⟩
      · refine ⟨.inl ⟨i1, fun x m => ?_⟩⟩
        rcases List.mem_cons.mp m with rfl | m
        · omega
        · exact i2 x m
      · refine ⟨.inr ⟨List.mem_cons_of_mem _ i1, i2, fun x m l => ?_⟩⟩
        rcases List.mem_cons.mp m with rfl | m
        · omega
        · exact i3 x m l
/-! ### covers -/
def Hits (ss : List Int) (z : Int) (row : List Int) : Prop := ∀ s ∈ ss, ∃ x ∈ row, s ≤ x ∧ x < s + z
def gre (held : List Int) (z : Int) : Int → List Int → List Int → Option (List Int)
  | _, [], acc => some acc
  | last, s :: r, acc => if s ≤ last then gre held z last r acc else if gb held (s + z) < s then none else gre held z (gb held (s + z)) r (acc ++ [gb held (s + z)])
inductive Chn (held : List Int) (z : Int) (ss : List Int) : Int → List Int → Prop where
  | nil {last : Int} : Chn held z ss last []
  | cons {last s g : Int} {t : List Int} (ms : s ∈ ss) (h1 : last < s) (h2 : s ≤ g) (h3 : g < s + z) (mg : g ∈ held) (h4 : ∀ x ∈ held, x < s + z → x ≤ g) (r : Chn held z ss g t) : Chn held z ss last (g :: t)
theorem Chn.wide {held : List Int} {z last : Int} {ss tt t : List Int} (h : Chn held z ss last t) (k : ∀ s ∈ ss, s ∈ tt) : Chn held z tt last t := by
  induction h with
  | nil => exact .nil
  | cons ms h1 h2 h3 mg h4 _ ih => exact .cons (k _ ms) h1 h2 h3 mg h4 ih
theorem Chn.low {held : List Int} {z last : Int} {ss t : List Int} (h : Chn held z ss last t) : (∀ x ∈ t, last < x ∧ x ∈ held ∧ ∃ s ∈ ss, s ≤ x ∧ x < s + z) ∧ t.Pairwise (· < ·) := by
  induction h with
  | nil => exact ⟨fun _ m => (by cases m), .nil⟩
  | cons ms h1 h2 h3 mg h4 _ ih =>
    refine ⟨fun x m => ?_, List.pairwise_cons.mpr ⟨fun x m => (ih.1 x m).1, ih.2⟩⟩
    rcases List.mem_cons.mp m with rfl | m
    · exact ⟨by omega, mg, _, ms, h2, h3⟩
    · obtain ⟨q1, q2⟩ := ih.1 x m
      exact ⟨by omega, q2⟩
theorem gre_some {held : List Int} {z : Int} (h0 : ∀ x ∈ held, 0 ≤ x) : ∀ {ss acc cov : List Int} {last : Int}, ss.Pairwise (· ≤ ·) → (∀ s ∈ ss, s ≤ last → last < s + z) → (∀ s ∈ ss, 0 ≤ s) → gre held z last ss acc = some cov → ∃ t, cov = acc ++ t ∧ Chn held z ss last t ∧ ∀ s ∈ ss, ∃ x ∈ last :: t, s ≤ x ∧ x < s + z
  | [], acc, cov, last, _, _, _, e => ⟨[], by rw [List.append_nil]; exact (Option.some.inj e).symm, .nil, fun _ m => by cases m⟩
  | s :: r, acc, cov, last, hp, hl, h1, e => by
    obtain ⟨p1, p2⟩ := List.pairwise_cons.mp hp
    unfold gre at e
    by_cases c : s ≤ last
    · rw [if_pos c] at e
      obtain ⟨t, e1, e2, e3⟩ := gre_some h0 p2 (fun x m => hl x (List.mem_cons_of_mem _ m)) (fun x m => h1 x (List.mem_cons_of_mem _ m)) e
      refine ⟨t, e1, e2.wide fun x m => List.mem_cons_of_mem _ m, fun x m => ?_⟩
      rcases List.mem_cons.mp m with rfl | m
      · exact ⟨last, List.mem_cons_self, c, hl _ List.mem_cons_self c⟩
      · exact e3 x m
    · rw [if_neg c] at e
      by_cases c2 : gb held (s + z) < s
      · rw [if_pos c2] at e
        cases e
      · rw [if_neg c2] at e
        have s0 := h1 s List.mem_cons_self
        rcases (gb_is (e := s + z) h0).h with ⟨i1, _⟩ | ⟨i1, i2, i3⟩
        · omega
        obtain ⟨t, e1, e2, e3⟩ := gre_some h0 p2 (fun x m l => by have := p1 x m; omega) (fun x m => h1 x (List.mem_cons_of_mem _ m)) e
        refine ⟨gb held (s + z) :: t, by rw [e1, List.append_assoc]; rfl, .cons List.mem_cons_self (by omega) (by omega) i2 i1 i3 (e2.wide fun x m => List.mem_cons_of_mem _ m), fun x m => ?_⟩
        rcases List.mem_cons.mp m with rfl | m
        · exact ⟨_, List.mem_cons_of_mem _ List.mem_cons_self, by omega, i2⟩
        · obtain ⟨y, my, hy⟩ := e3 x m
          exact ⟨y, List.mem_cons_of_mem _ my, hy⟩
theorem gre_none {held : List Int} {z : Int} (h0 : ∀ x ∈ held, 0 ≤ x) : ∀ {ss acc : List Int} {last : Int}, gre held z last ss acc = none → ∃ s ∈ ss, ∀ x ∈ held, ¬ (s ≤ x ∧ x < s + z)
  | [], acc, last, e => by cases e
  | s :: r, acc, last, e => by
    unfold gre at e
    by_cases c : s ≤ last
    · rw [if_pos c] at e
      obtain ⟨x, m, h⟩ := gre_none h0 e
      exact ⟨x, List.mem_cons_of_mem _ m, h⟩
    · rw [if_neg c] at e
      by_cases c2 : gb held (s + z) < s
      · refine ⟨s, List.mem_cons_self, fun x m hx => ?_⟩
        rcases (gb_is (e := s + z) h0).h with ⟨_, i2⟩ | ⟨_, _, i3⟩
        · have := i2 x m
          omega
        · have := i3 x m hx.2
          omega
      · rw [if_neg c2] at e
        obtain ⟨x, m, h⟩ := gre_none h0 e
        exact ⟨x, List.mem_cons_of_mem _ m, h⟩
theorem filter_less {R : List Int} {a b r : Int} (m : r ∈ R) (h1 : a < r) (h2 : r ≤ b) : (R.filter fun x => decide (b < x)).length < (R.filter fun x => decide (a < x)).length := by
  have le : ∀ R : List Int, (R.filter fun x => decide (b < x)).length ≤ (R.filter fun x => decide (a < x)).length := fun R => by
    induction R with
    | nil => exact Nat.le_refl _
    | cons y R ih =>
      rw [List.filter_cons, List.filter_cons]
      by_cases c : b < y
      · rw [if_pos (decide_eq_true c), if_pos (decide_eq_true (by omega))]
        exact Nat.succ_le_succ ih
      · rw [if_neg (by rw [decide_eq_false c]; decide)]
        split
        · exact Nat.le_succ_of_le ih
        · exact ih
  induction R with
  | nil => cases m
  | cons y R ih =>
    rw [List.filter_cons, List.filter_cons]
    rcases List.mem_cons.mp m with rfl | m
    · rw [if_neg (by rw [decide_eq_false (by omega)]; decide), if_pos (decide_eq_true h1)]
      exact Nat.lt_succ_of_le (le R)
    · by_cases c : b < y
      · rw [if_pos (decide_eq_true c), if_pos (decide_eq_true (by omega))]
        exact Nat.succ_lt_succ (ih m)
      · rw [if_neg (by rw [decide_eq_false c]; decide)]
        split
        · exact Nat.lt_succ_of_lt (ih m)
        · exact ih m
/-- no cover is less -/
theorem Chn.least {held : List Int} {z last : Int} {ss t R : List Int} (h : Chn held z ss last t) (hit : Hits ss z R) (sub : ∀ x ∈ R, x ∈ held) : t.length ≤ (R.filter fun x => decide (last < x)).length := by
  induction h with
  | nil => exact Nat.zero_le _
  | @cons last s g t ms h1 h2 h3 mg h4 _ ih =>
    obtain ⟨r, mr, r1, r2⟩ := hit _ ms
    have := h4 r (sub r mr) r2
    have := filter_less (a := last) (b := g) mr (by omega) this
    rw [List.length_cons]
    omega
/-- each one is needed -/
theorem Chn.need {held : List Int} {z last : Int} {ss t : List Int} (h : Chn held z ss last t) : ∀ g ∈ t, ∃ s ∈ ss, last < s ∧ ∀ x ∈ t, s ≤ x → x < s + z → x = g := by
  induction h with
  | nil => exact fun _ m => by cases m
  | @cons last s g t ms h1 h2 h3 mg h4 r ih =>
    intro g' m
    have low := r.low.1
    rcases List.mem_cons.mp m with rfl | m
    · refine ⟨s, ms, h1, fun x mx a b => ?_⟩
      rcases List.mem_cons.mp mx with rfl | mx
      · rfl
      · obtain ⟨q1, q2, _⟩ := low x mx
        have := h4 x q2 b
        omega
    · obtain ⟨s', ms', l', k⟩ := ih g' m
      refine ⟨s', ms', by omega, fun x mx a b => ?_⟩
      rcases List.mem_cons.mp mx with rfl | mx
      · omega
      · exact k x mx a b
/-! ## Rules6 -/
/-! ### the text of an int -/
def rStrI : List V → Hp → VK → Prop := fun xs H Q => ∃ i, xs = [.int i] ∧ i.natAbs.log2 < 1920 ∧ Q (.str (toString i)) H
theorem i_strI {i : Int} {H : Hp} {Q : VK} (h : i.natAbs.log2 < 1920) (q : Q (.str (toString i)) H) : rStrI [.int i] H Q := ⟨i, rfl, h, q⟩
instance s_par {i j : Nat} {ta : TA} {nx bk ct : St → Hp → Prop} {rt : VK} {σ : St} {H : Hp} : Stp (tPar i j ta ⟨nx, rt, bk, ct⟩ σ H) (ta σ H fun vs H1 => ∃ v w, vs = [v, w] ∧ nx ((σ.set i (some v)).set j (some w)) H1) := ⟨fun h => h⟩
instance s_par2 {v w : V} {P : V → V → Prop} : Stp (∃ v' w', [v, w] = [v', w'] ∧ P v' w') (P v w) := ⟨fun h => ⟨v, w, rfl, h⟩⟩
/-! ## Rules7 -/
/-! ### sorted of tuples of ints, of the keys of a dict: any number of them -/
section
open SrtO Srt
variable {prog : Program} {w : World} {A : Around} {E : Value → Shared → Prop} {s : Shared}
theorem swo_rank {α : Type} (r : α → Int) : Swo fun v u => decide (r v < r u) := by
  refine ⟨fun x y h => ?_, fun x y z h1 h2 => ?_⟩
  · have a := of_decide_eq_true (p := r x < r y) h
    exact decide_eq_false (p := r y < r x) (by omega)
  · have a := of_decide_eq_false (p := r y < r x) h1
    have b := of_decide_eq_false (p := r z < r y) h2
    exact decide_eq_false (p := r z < r x) (by omega)
theorem tups_cmp {d : Nat} {B : Int} {vs : List Value} (x : TS.TupsOk s.heap d B vs) (r : Value → Int) (hr : ∀ v, v ∈ vs → ∀ ns, TS.TupInts s.heap v ns → r v = TS.code B ns) : Cmp prog w A s (tuples' true) (fun p => p.1 ∈ vs) (lt2 fun v u => decide (r v < r u)) := by
  intro p q hm hm'
  obtain ⟨ns, t1, l1, b1⟩ := x _ hm
  obtain ⟨ms, t2, l2, b2⟩ := x _ hm'
  have e1 := hr _ hm ns t1
  have e2 := hr _ hm' ms t2
  show wpAny (model prog w) A (keyLt' (tuples' true) p.1 q.1) (fun c s' => s' = s ∧ c = decide (r p.1 < r q.1)) (fun _ _ => False) s
  rw [e1, e2]
  obtain ⟨a, xs, ea, ⟨o, ho, hc, n, hd⟩, i1⟩ := t1
  obtain ⟨a', ys, ea', ⟨o', ho', hc', n', hd'⟩, i2⟩ := t2
  rw [ea, ea']
  refine PySem.W.kat_lt ho hd ho' hd' ?_
  have z : decide (xs.size < ys.size) = false := by
    have q1 := i1.length
    have q2 := i2.length
    rw [Array.length_toList] at q1 q2
    exact decide_eq_false (by omega)
  rw [z]
  exact TS.lex_ints 0 i1 i2 (l1.trans l2.symm) b1 b2 ⟨rfl, rfl⟩
theorem tups_sortableO {a : Addr} {d : Nat} {B : Int} {vs : List Value} (hd : 1 ≤ d) (h0 : 0 < vs.length) (x : TS.TupsOk s.heap d B vs) (r : Value → Int) (hr : ∀ v, v ∈ vs → ∀ ns, TS.TupInts s.heap v ns → r v = TS.code B ns) (ha : ∀ o, s.heap.get? a = some o → o.cls ≠ .type "tuple") : SortableO prog w A s a vs fun v u => decide (r v < r u) := by
  intro h' keep
  have kp : ∀ b o, s.heap.get? b = some o → o.cls = .type "tuple" → h'.get? b = some o := fun b o e c => keep b o (fun z => by subst z; exact ha o e c) e
  have x' : TS.TupsOk h' d B vs := x.keeps kp
  obtain ⟨fs, k, hl, hi⟩ := TS.firsts_of hd vs x'
  refine ⟨tuples' true, fun Q E hq => ?_, tups_cmp x' r fun v hv ns t => ?_⟩
  · refine PySem.W.kat_kind (s := { s with heap := h' }) (T := Value.type "int") k (by omega) (fun f hf => ?_) rfl ?_
    · obtain ⟨n, t, rfl⟩ := hi f hf
      exact PySem.W.Looks.of_pure rfl
    · have e : (Value.type "int" != Value.type "tuple") = true := by first | decide +kernel | rfl | decide
      rw [e]
      exact hq
  · obtain ⟨ns0, t0, _⟩ := x v hv
    have e : ns = ns0 := t.ints.symm.trans (t0.keeps kp).ints
    rw [e]
    exact hr v hv ns0 t0
theorem sorted_tupsO {l : Addr} {vs : List Value} {d : Nat} {B : Int} {Q : Value → Shared → Prop} (hl : s.heap.IsList l vs.toArray) (hz : vs.length ≤ sizeLine) (hd : 1 ≤ d) (x : TS.TupsOk s.heap d B vs)
    (h : ∀ out : List Value, out.Perm vs → out.Pairwise (fun u v => TS.code B (TS.intsOf s.heap u) ≤ TS.code B (TS.intsOf s.heap v)) → Q (.ref (s.heap.objs.size + 1)) { s with heap := sortedAll s.heap vs out.toArray }) :
    wpAny (model prog w) A (call (.builtin "sorted") [.ref l]) Q E s := by
  refine sorted_ord (swo_rank fun v => TS.code B (TS.intsOf s.heap v)) hl hz (fun h2 h₁ a ha kk => ?_) fun out hs hb => ?_
  · refine tups_sortableO (s := { s with heap := h₁ }) (d := d) (B := B) hd (by omega) (x.keeps fun b o e _ => (kk b o e).2) (fun v => TS.code B (TS.intsOf s.heap v)) (fun v hv ns t => ?_) fun o e => ?_
    · obtain ⟨ns0, t0, _⟩ := x v hv
      have e : ns = ns0 := t.ints.symm.trans (t0.keeps fun b o e _ => (kk b o e).2).ints
      rw [e]
      show TS.code B (TS.intsOf s.heap v) = TS.code B ns0
      rw [t0.ints]
    · have e' : some o = some (seqObj "list" vs.toArray 0) := e.symm.trans ha
      cases e'
      intro c
      exact absurd (Value.type.inj c) (by decide)
  · exact h out hb.perm (hs.imp fun {u v} q => Int.not_lt.mp (of_decide_eq_false (p := TS.code B (TS.intsOf s.heap v) < TS.code B (TS.intsOf s.heap u)) q))
end
section
variable {X : Cx}
/-- sorted(xs), tuples of d ints in [0, B), any number of them -/
def rSortUO (K : PySem.W.Frag) (d : Nat) (B : Int) : List V → Hp → VK → Prop := fun vs H Q => ∃ (a : Addr) (xs : List V), vs = [V.ref a] ∧ SqL K H a xs ∧ (∀ x ∈ xs, ∃ ns, TupI K H x ns ∧ ns.length = d ∧ TS.Bd B ns) ∧
  ∀ (ys : List V) (p : Addr), ys.Perm xs → ys.Pairwise (fun x y => ∀ n m, TupI K H x n → TupI K H y m → TS.code B n ≤ TS.code B m) → H p = none → Q (.ref p) (upd H p (.lst ys))
theorem cr_sortUO {d : Nat} {B : Int} (hd : 1 ≤ d) : CallR X (.builtin "sorted") (rSortUO X.K d B) := by
  intro pins s σ H vs us Q I r h
  obtain ⟨a, xs, rfl, hs, hx, q⟩ := h
  obtain ⟨its, rv, hl, hz⟩ := I.list hs
  rw [Vals.ref1 r]
  obtain ⟨e1, e2⟩ := bkV_refs rv fun x m => by
    obtain ⟨ns, ⟨t, e, _⟩, _⟩ := hx x m
    exact ⟨t, e⟩
  refine sorted_tupsO (d := d) (B := B) hl.isList (by rw [← rv.length]; exact hz) hd (fun v hv => ?_) fun out h1 h2 => ?_
  · obtain ⟨t, rfl⟩ := e2 v hv
    have hm : V.ref t ∈ xs := by
      rw [e1]
      exact List.mem_map.mpr ⟨_, hv, rfl⟩
    obtain ⟨ns, ⟨t', e, ht⟩, hn, hb⟩ := hx _ hm
    cases e
    exact ⟨ns, tupI_raw I ht, hn, hb⟩
  · obtain ⟨ep, he'⟩ := PyProof.Rows.sortedAll_at s.heap its out.toArray
    have h3 : ∀ u ∈ out, ∃ a, u = Value.ref a := fun u hu => e2 u (h1.mem_iff.mp hu)
    have hp : (out.map bkV).Perm xs := by
      rw [e1]
      exact h1.map bkV
    have hlen : (out.map bkV).length ≤ sizeLine := by
      rw [hp.length_eq]
      exact hz
    refine ⟨.ref _, upd H (s.heap.objs.size + 1) (.lst (out.map bkV)), I.laid (t' := s.toks) (fun _ _ => PyProof.Rows.sortedAll_old) (Nat.le_succ _) ⟨hlen, out, ep, bkV_vals h3, he'⟩, rfl, q _ _ hp ?_ (I.hok.fresh (Nat.le_succ _))⟩
    rw [List.pairwise_map]
    refine List.Pairwise.imp (fun {u v} huv n m hn hm => ?_) h2
    obtain ⟨t, et, ht⟩ := hn
    obtain ⟨t', et', ht'⟩ := hm
    have eu := bkV_ref et
    have ev := bkV_ref et'
    have i1 : TS.intsOf s.heap u = n := by
      rw [eu]
      exact (tupI_raw I ht).ints
    have i2 : TS.intsOf s.heap v = m := by
      rw [ev]
      exact (tupI_raw I ht').ints
    rw [← i1, ← i2]
    exact huv
/-- sorted(d) of a dict whose keys are ints, any number of them -/
def rSortKI : List V → Hp → VK → Prop := fun xs H Q => ∃ (a : Addr) (kvs : List (Key × V)) (ks : List Int), xs = [.ref a] ∧ Rd H a (.dK kvs) ∧ kvs.map (·.1) = ks.map Sum.inl ∧
    ∀ (ys : List Int) (p : Addr), ys.Perm ks → ys.Pairwise (· ≤ ·) → H p = none → Q (.ref p) (upd H p (.lst (ys.map V.int)))
theorem call_sortKI (hcalm : X.calm = true) : CallR X (.builtin "sorted") rSortKI := by
  intro pins s σ H xs us Q I r q
  obtain ⟨a, kvs, ks, ex, hd, hks, q⟩ := q
  subst ex
  obtain ⟨u, eu, rx⟩ := vals1 r
  subst eu
  cases rx
  obtain ⟨z, lo, vs, rel, dd⟩ := dk_rd I.hok hd
  obtain ⟨ep, hat⟩ := dd.dictAt
  have hkeys : vs.map (·.1) = ks.map Sum.inl := rel.keys.symm.trans hks
  have hl : vs.length = ks.length := by
    have e := congrArg List.length hkeys
    rw [List.length_map, List.length_map] at e
    exact e
  have h16 : vs.length ≤ sizeLine := by rw [← rel.length]; exact z
  refine Calls.call_function_entry PyProof.Rows.kind_sorted PyProof.Rows.plain_sorted PyProof.Rows.entry_sorted (PyProof.Rows.args_sorted1 _) ?_
  unfold Builtin.«sorted»
  refine wpAny_bind (m := checkCount "sorted" 1 1 _) (wpAny_pure ?_)
  refine wpAny_bind (PySem.W.kdu_collect (A := X.A.in1) (PySem.W.kdl_dict (knd := mixKind X.prog X.w) (kvs := vs) (ep := ep) lo) (I.ok.hd hcalm) hat h16 fun h' tk acc hk hacc => ?_)
  have hal : acc.toList.length = ks.length := by rw [Array.length_toList, hacc.1, hl]
  have hS : IntsAre acc.toList ks := ints_each hal fun j v e => by
    obtain ⟨k, x, e1, e2⟩ := hacc.2 j v (by rw [← Array.getElem?_toList]; exact e)
    have e3 : (vs.map (·.1))[j]? = some k := by rw [List.getElem?_map, e1]; rfl
    rw [hkeys, List.getElem?_map] at e3
    cases e4 : ks[j]? with
    | none => rw [e4] at e3; cases e3
    | some y =>
      rw [e4] at e3
      have e5 : Sum.inl y = k := Option.some.inj e3
      subst e5
      rcases keyIs_shape (show keyIs (Sum.inl y) v = true from e2) with ⟨i, t, ek, ev⟩ | ⟨z, t, ek, ev⟩
      · cases ek
        exact ⟨y, t, rfl, ev⟩
      · cases ek
  have I1 : Inv X pins σ H { s with heap := h', toks := tk } := I.kept hk
  have hzz : acc.toList.length ≤ sizeLine := by rw [hal, ← hl]; exact h16
  refine wpAny_bind (wpAny_newList ?_ hzz)
  have hoL : (h'.push (seqObj "list" acc.toList.toArray 0)).get? h'.objs.size = some (seqObj "list" acc.toList.toArray 0) := Heap.get?_push_size _ rfl
  show wpAny _ _ _ _ _ { s with heap := h'.push (seqObj "list" acc.toList.toArray 0), toks := tk }
  refine wpAny_bind (wpAny_holding (wpAny_call_entry PyProof.Rows.slot_list_sort ⟨_, hoL, rfl⟩ PyProof.Rows.entry_list_sort
    (SrtO.list_sort_ord SrtO.swo_int (s := { s with heap := h'.push (seqObj "list" acc.toList.toArray 0), toks := tk }) hoL hzz (fun h2 => SrtO.ints_sortable hS h2) fun out hs hb => ⟨_, rfl, ?_⟩)
    (PyProof.Rows.args_list_sort _)))
  obtain ⟨k1, k2, k3⟩ := SrtO.ints_out hS hs hb
  obtain ⟨e', he'⟩ := PyProof.Rows.sortedHeap_at (vs := acc.toList) (out := out.toArray) hoL
  have hlen : ((out.map SrtO.iv).map V.int).length ≤ sizeLine := by
    rw [List.length_map, k2.length_eq, ← hl]
    exact h16
  refine wpAny_pure ⟨_, rfl, .ref h'.objs.size, upd H h'.objs.size (.lst ((out.map SrtO.iv).map V.int)), I1.laid (t' := tk) (fun b u e => ?_) (Nat.le_refl _)
    (show ObjOk X.prog X.w _ _ _ (.lst ((out.map SrtO.iv).map V.int)) from ⟨hlen, out, e', vals_of_ints k1, he'⟩), rfl, q _ _ k2 k3 (I1.hok.fresh (Nat.le_refl _))⟩
  have hb : b < h'.objs.size := Heap.lt_size e
  rw [PyProof.Rows.sortedHeap_old (Nat.ne_of_lt hb) (by rw [size_push']; exact Nat.lt_succ_of_lt hb)]
  exact Heap.get?_push_of_some _ e
/-- x = {k: v for ..}: the comprehension's block is left behind the binding -/
theorem sw_trueD {kx vx : Expr} {gs : List Comprehension} {scope : Scope} {pos py : Pos} {y : Str} {l : Nat} {env : Env} (hk : env.scope.kind = .function) (hy : env.scope.names.lookup y = some .local) (hl : (py.line == pos.line) = true)
    (ha : (scope.names.any fun (n, k) => n == y && (k == .local || k == .cell)) = false) : swapsWith (.DictComp kx vx gs scope pos) (some (.Name y py)) l env = pure true := by
  have h1 : env.kindOf y = some .local := hy
  have h2 : env.blockKind = .function := by
    unfold Env.blockKind
    rw [hk]
    rfl
  unfold swapsWith
  simp only [h2, h1, ha, Expr.pos, hl]
  rfl
theorem ps_setDc {i : Nat} {y : Str} {py : Pos} {kx vx tg iter : Expr} {ifs : List Expr} {scope : Scope} {own : List (Str × Nat)} {pos spos : Pos} {wi : TI} {g : TG} {tt : TT} {tk tv : TE} (hc : X.calm = true) (hN : X.N.Nodup) (hy : X.N[i]? = some y) (hyl : X.env.scope.names.lookup y = some .local)
    (hsw : swapsWith (.DictComp kx vx [⟨tg, iter, ifs, 0⟩] scope pos) (some (.Name y py)) spos.line X.env = pure true) (hi : PI X tg iter wi) (ok : BlkOk X.N X.env.scope scope own)
    (hg : ∀ (s : Shared) (H : Hp) (C : Addr) (cl : List (Str × Addr)) (fp : List Addr), PG (X.blk s H scope (compEnvC scope cl C X.env) fp) tg g) (ht : ∀ (s : Shared) (H : Hp) (C : Addr) (cl : List (Str × Addr)) (fp : List Addr), PTs (X.blk s H scope (compEnvC scope cl C X.env) fp) ifs tt)
    (hk : ∀ (s : Shared) (H : Hp) (C : Addr) (cl : List (Str × Addr)) (fp : List Addr), PE (X.blk s H scope (compEnvC scope cl C X.env) fp) kx tk)
    (he : ∀ (s : Shared) (H : Hp) (C : Addr) (cl : List (Str × Addr)) (fp : List Addr), PE (X.blk s H scope (compEnvC scope cl C X.env) fp) vx tv) (hs : ∀ x, foldedSetIterable iter X.env x = pure x := by intro _; rfl) :
    PS X (.Assign [.Name y py] (.DictComp kx vx [⟨tg, iter, ifs, 0⟩] scope pos) spos) (tAsg (tDc wi g tt tk tv (own.map (·.2))) (gName i)) := by
  refine ⟨fun pins s σ H D I h => ?_⟩
  rw [exec_Assign_Name_used _ _ _ _ hsw]
  refine wpAny_bind (wpAny_standAt (wpAny_bind ?_))
  show wpAny _ X.A (do let _ ← comprehension (.DictComp kx vx [⟨tg, iter, ifs, 0⟩] scope pos) scope X.env (firstIterPos [⟨tg, iter, ifs, 0⟩] pos) newDict false (eval iter X.env) (some (assign (.Name y py) X.env))) _ _ s
  have h : tDc wi g tt tk tv (own.map (·.2)) σ H (fun x H1 => gName i x σ H1 D.nx) := h
  refine wpAny_bind (thn (dc_core (Qf := fun _ s' => SP X pins D .next s') hc hN I hi ok hg ht hk he hs h fun L C s' m H' I' q hn f => ?_) fun _ s' hq => wpAny_pure (wpAny_pure hq))
  show wpAny _ _ (assign (.Name y py) X.env (.ref L)) _ _ _
  refine wpAny_assign_Name (store_ok2 (v := V.ref L) I' hN hy (.inl hyl) rfl (fun s2 I2 ⟨a, sb, ha⟩ => ?_) (.inr hyl))
  obtain ⟨f0, f1, f2, f3, f4, f5⟩ := f
  have haC : C ≠ a := by
    rcases ha with z | z
    · rw [z]; exact f1
    · exact fun e => f4 y a z e.symm
  refine ⟨m, hn.sameBut sb haC, fun h3 sb3 => ?_⟩
  exact ⟨_, H', I2.turned (t' := s2.toks) (fun b o hb e => (sb3.2 b hb).trans e) f0 f1 f3 f4 f5, q⟩
end
/-! ## Rules8 -/
/-! ### x in an own object; three comparisons in a row; list(range(a, b, c)) -/
section
variable {X : Cx} {CX : CXT} {k : Nat} {f C : Addr} {fd : FuncData} {ps : List Str} {sp : Sp} {E : XK}
/-- x in o, o an own object with __contains__ that returns a flag -/
def rInO (C : Addr) (sp : Sp) (neg : Bool) (E : XK) : R2 := fun x y H Q => ∃ a dx fs, y = .ref a ∧ H a = some (.ins C dx fs) ∧ sp [.ref a, x] H (fun v H' => ∃ b, v = .bl b ∧ Q (.bl (if neg = true then !b else b)) H') E
theorem own_asked {pins : List (Addr × Obj)} {σ : St} {H : Hp} {s : Shared} {x : V} {v : Value} {a : Addr} {neg : Bool} {Q : VK} (F : FnOk X.prog X.w X.K X.mg X.base CX k f fd ps sp) (hr : Room k X.A) (hb : Binds X.K fd ps []) (hx : Passes CX X E) (I : Inv X pins σ H s) (rx : RelV x v)
    (h : sp [.ref a, x] H (fun v H' => ∃ b, v = .bl b ∧ Q (.bl (if neg = true then !b else b)) H') E) :
    wpAny (model X.prog X.w) X.A (call (.ref f) [.ref a, v]) (fun r s' => wpAny (model X.prog X.w) X.A (truthy r) (fun b s2 => EP X pins σ Q (.bool (if neg = true then !b else b)) s2) X.xe s') X.xe s := by
  refine wpAny_mono (run_fn (us := [.ref a, v]) (vs := [.ref a, x]) F hr hb .nil hx I (.cons rfl (.cons rx .nil)) h) (fun r s' z => ?_) fun _ _ z => z
  obtain ⟨y, H', I', ry, b, e, q⟩ := z
  subst e
  cases ry
  exact wpAny_truthy_bool ⟨.bl (if neg = true then !b else b), H', I', rfl, q⟩
theorem op_inO (m : Meth X.K C "__contains__" f) (F : FnOk X.prog X.w X.K X.mg X.base CX k f fd ps sp) (hr : Room k X.A) (hb : Binds X.K fd ps []) (hx : Passes CX X E) : OpR X (compareOp .In) (rInO C sp false E) := by
  intro pins s σ H x y v u Q I rx ry h
  obtain ⟨a, dx, fs, rfl, ha, h⟩ := h
  cases ry
  obtain ⟨_, J, _⟩ := ins_get I.hok ha
  obtain ⟨_, J, _⟩ := J.look
  obtain ⟨_, hF⟩ := I.fr
  exact PySem.W.in_K hF I.ok.mod.kin J m.at_ m.fn (own_asked F hr hb hx I rx h)
theorem op_notInO (m : Meth X.K C "__contains__" f) (F : FnOk X.prog X.w X.K X.mg X.base CX k f fd ps sp) (hr : Room k X.A) (hb : Binds X.K fd ps []) (hx : Passes CX X E) : OpR X (compareOp .NotIn) (rInO C sp true E) := by
  intro pins s σ H x y v u Q I rx ry h
  obtain ⟨a, dx, fs, rfl, ha, h⟩ := h
  cases ry
  obtain ⟨_, J, _⟩ := ins_get I.hok ha
  obtain ⟨_, J, _⟩ := J.look
  obtain ⟨_, hF⟩ := I.fr
  exact PySem.W.notIn_K hF I.ok.mod.kin J m.at_ m.fn (own_asked F hr hb hx I rx h)
end
section
variable {X : Cx} {a b c d : Expr} {ta tb tc td : TE} {pos : Pos}
/-- a op1 b op2 c op3 d as a test -/
def tChain3 (r r' r3 : R2) (ta tb tc td : TE) : TT := fun σ H QT => ta σ H fun x H1 => tb σ H1 fun y H2 => r x y H2 fun z H3 => ∃ k, z = .bl k ∧
  (if k = true then tc σ H3 fun w' H4 => r' y w' H4 fun z2 H5 => ∃ k2, z2 = .bl k2 ∧ (if k2 = true then td σ H5 fun v' H6 => r3 w' v' H6 fun z3 H7 => ∃ k3, z3 = .bl k3 ∧ QT k3 H7 else QT false H5) else QT false H3)
theorem pt_chain3 {op op' op3 : CmpOp} {r r' r3 : R2} (ho : OpR X (compareOp op) r) (ho' : OpR X (compareOp op') r') (ho3 : OpR X (compareOp op3) r3) (ha : PE X a ta) (hb : PE X b tb) (hc : PE X c tc) (hd : PE X d td)
    (hm : lastMarks [op, op', op3] [b, c, d] = false := by with_unfolding_all rfl) : PT X (.Compare a [op, op', op3] [b, c, d] pos) (tChain3 r r' r3 ta tb tc td) := by
  refine ⟨fun pins s σ H Q I h => ?_⟩
  refine isTrue_chain (thn (ha.run pins s σ H _ I h) fun v s1 ⟨x, H1, I1, r1, q1⟩ => test_link (thn (hb.run pins s1 σ H1 _ I1 q1) fun u s2 ⟨y, H2, I2, r2, q2⟩ =>
    thn (ho pins s2 σ H2 x y v u _ I2 r1 r2 q2) fun e s3 ⟨z, H3, I3, r3', k, ez, q3⟩ => ?_)) hm
  subst ez
  cases r3'
  refine wpAny_truthy_bool ?_
  cases k with
  | false => exact ite_ff ⟨H3, I3, q3⟩
  | true =>
    refine ite_tt (test_link (thn (hc.run pins s3 σ H3 _ I3 q3) fun w' s4 ⟨z', H4, I4, r4, q4⟩ => thn (ho' pins s4 σ H4 y z' u w' _ I4 r2 r4 q4) fun e5 s5 ⟨z2, H5, I5, r5, k2, e2, q5⟩ => ?_))
    subst e2
    cases r5
    refine wpAny_truthy_bool ?_
    cases k2 with
    | false => exact ite_ff ⟨H5, I5, q5⟩
    | true =>
      refine ite_tt (test_last (thn (hd.run pins s5 σ H5 _ I5 q5) fun w7 s6 ⟨z6, H6, I6, r6, q6⟩ => thn (ho3 pins s6 σ H6 z' z6 w' w7 _ I6 r4 r6 q6) fun e7 s7 ⟨z7, H7, I7, r7, k3, e3, q7⟩ => ?_))
      subst e3
      cases r7
      exact wpAny_truthy_bool ⟨H7, I7, q7⟩
/-- the ints i, i + c, .. (n of them) -/
def rgC (i c : Int) (n : Nat) : List Int := (List.range n).map fun j => i + (j : Nat) * c
theorem vals_rgC {i c : Int} {n : Nat} {acc : Array Value} (h : ItemsOf (fun j v => ∃ t, v = .int (i + j * c) t) acc n) : Vals ((rgC i c n).map V.int) acc.toList := by
  have e : acc.toList.length = n := by rw [Array.length_toList]; exact h.1
  unfold rgC
  rw [List.map_map, ← e]
  refine vals_of_get acc.toList _ fun j u hj => ?_
  obtain ⟨t, rfl⟩ := h.2 j u (by rw [← hj, Array.getElem?_toList])
  exact ⟨t, rfl⟩
def tLstRg3 (ta : TA) : TE := fun σ H Q => ta σ H fun vs H1 => ∃ (i j c : Int) (n : Nat), vs = [.int i, .int j, .int c] ∧ RgC i j c n ∧ n ≤ 100000 ∧ ∀ q, H1 q = none → Q (.ref q) (upd H1 q (.lst ((rgC i c n).map V.int)))
theorem pe_listRg3 {t3 : TA} {p p2 pos pos2 : Pos} (hcalm : X.calm = true) (hg : Gl X "list") (hm : X.mg "list" = none) (hg2 : Gl X "range") (hm2 : X.mg "range" = none) (ha : PA X [a, b, c] t3)
    (hs : starEach [a, b, c] X.env = (false, eval a X.env) :: starEach [b, c] X.env := by rfl) (hpl : (backTo pos2 (starEach [b, c] X.env)).any (·.1) = false := by rfl)
    (na : starEach [.Call (.Name "range" p2) [a, b, c] [] pos2] X.env = (false, eval (.Call (.Name "range" p2) [a, b, c] [] pos2) X.env) :: starEach [] X.env := by rfl) :
    PE X (.Call (.Name "list" p) [.Call (.Name "range" p2) [a, b, c] [] pos2] [] pos) (tLstRg3 t3) := by
  refine ⟨fun pins s σ H Q I h => ?_⟩
  have inner : wpAny (model X.prog X.w) X.A (eval (.Call (.Name "range" p2) [a, b, c] [] pos2) X.env) (fun x s' => ∃ r i j c n t u v H', x = .ref r ∧ IsRange s'.heap r i j c t u v ∧ Inv X pins σ H' s' ∧ RgC i j c n ∧ n ≤ 100000 ∧ ∀ q, H' q = none → Q (.ref q) (upd H' q (.lst ((rgC i c n).map V.int)))) X.xe s := by
    refine Call_ (ld_blt I hg2 hm2 boot_range (PyProof.Rows.callWith_type1 (thn (ha.run pos2 pins s σ H _ I h) fun us s1 ⟨vs, H1, I1, r1, q1⟩ => ?_) hs hpl))
    obtain ⟨i, j, k, n, e, rg, z, q⟩ := q1
    subst e
    cases r1 with
    | cons r rr =>
      cases rr with
      | cons r' rr =>
        cases rr with
        | cons r'' rr =>
          cases rr
          obtain ⟨t, rfl⟩ := r
          obtain ⟨t', rfl⟩ := r'
          obtain ⟨t'', rfl⟩ := r''
          exact call_range_3 rg.1 ⟨_, i, j, k, n, _, _, _, H1, rfl, IsRange.new .., I1.kept (t' := s1.toks) (fun b o e => Heap.get?_push_of_some _ e), rg, z, q⟩ (.inl (PyProof.noPylong_small rg.2.1))
  refine Call_ (ld_blt I hg hm boot_list (PyProof.Rows.callWith_type1 (args_cons (thn inner fun x s1 ⟨r, i, j, k, n, t, u, v, H1, ex, hr, I1, rg, z, q⟩ => args_nil ?_) na) na))
  subst ex
  refine call_list_range (n := n) (I1.ok.hd hcalm) hr rg.2.2.1 rg.2.2.2 (by omega) fun h' tk acc c' hk e' hi => ?_
  refine ⟨.ref s1.heap.objs.size, upd H1 s1.heap.objs.size (.lst ((rgC i k n).map V.int)), I1.laid hk (Nat.le_refl _) (show ObjOk X.prog X.w _ _ _ (.lst ((rgC i k n).map V.int)) from ⟨?_, acc.toList, c', vals_rgC hi, ?_⟩), rfl, q _ (I1.hok.fresh (Nat.le_refl _))⟩
  · rw [List.length_map]
    unfold rgC
    rw [List.length_map, List.length_range, sizeLine_eq]
    omega
  · rw [Array.toArray_toList]; exact e'
end
/-- a def of the text with keyword-only parameters -/
structure DfGK (K : PySem.W.Frag) (mg : Str → Option Value) (x : Str) (st : Stmt) (f : Addr) (fd : FuncData) : Prop where
  fn : Fun K x x st f fd
  gl : mg x = some (.ref f)
def gv_all (vs zs : List V) : List V := vs ++ zs
instance s_callN {n m : Nat} {sp : Sp} {gV : List V → List V → List V} {E : XK} {t tk : TA} {σ : St} {H : Hp} {Q : VK} : Stp (tCallN n m sp gV E t tk σ H Q) (t σ H fun vs H1 => tk σ H1 fun zs H2 => vs.length = n ∧ zs.length = m ∧ sp (gV vs zs) H2 Q E) := ⟨fun h => h⟩
instance s_lstRg3 {ta : TA} {σ : St} {H : Hp} {Q : VK} : Stp (tLstRg3 ta σ H Q) (ta σ H fun vs H1 => ∃ (i j c : Int) (n : Nat), vs = [.int i, .int j, .int c] ∧ RgC i j c n ∧ n ≤ 100000 ∧ ∀ q, H1 q = none → Q (.ref q) (upd H1 q (.lst ((rgC i c n).map V.int)))) := ⟨fun h => h⟩
instance s_chain3 {r r' r3 : R2} {ta tb tc td : TE} {σ : St} {H : Hp} {QT : Bool → Hp → Prop} : Stp (tChain3 r r' r3 ta tb tc td σ H QT) (ta σ H fun x H1 => tb σ H1 fun y H2 => r x y H2 fun z H3 => ∃ k, z = .bl k ∧
  (if k = true then tc σ H3 fun w' H4 => r' y w' H4 fun z2 H5 => ∃ k2, z2 = .bl k2 ∧ (if k2 = true then td σ H5 fun v' H6 => r3 w' v' H6 fun z3 H7 => ∃ k3, z3 = .bl k3 ∧ QT k3 H7 else QT false H5) else QT false H3)) := ⟨fun h => h⟩
/-! ## K09b -/
/-! ### runs of numbers -/
/-- one number more; what is found has the last one first -/
def rstep : List PR → Int → List PR
  | [], x => [(x, 1)]
  | (s, n) :: acc, x => if s + n = x then (s, n + 1) :: acc else (x, 1) :: (s, n) :: acc
def runsN (ns : List Int) : List PR := (ns.foldl rstep []).reverse
/-- the places below p with this holder -/
def heldN (hs : List Int) (h : Int) : Nat → List Int
  | 0 => []
  | p + 1 => if hs[p]? = some h then heldN hs h p ++ [(p : Int)] else heldN hs h p
/-- rows (the last one first) that are apart and end at b at most -/
def Apt : Int → List PR → Prop
  | _, [] => True
  | b, (s, n) :: acc => s + n ≤ b ∧ 1 ≤ n ∧ 0 ≤ s ∧ Apt (s - 1) acc
theorem Apt.up {b c : Int} : ∀ {l : List PR}, Apt b l → b ≤ c → Apt c l
  | [], _, _ => trivial
  | (_, _) :: _, ⟨h1, h2, h3, h4⟩, e => ⟨Int.le_trans h1 e, h2, h3, h4⟩
theorem Apt.step {p : Int} : ∀ {l : List PR}, Apt p l → 0 ≤ p → Apt (p + 1) (rstep l p)
  | [], _, h0 => ⟨Int.le_refl _, Int.le_refl _, h0, trivial⟩
  | (s, n) :: acc, ⟨h1, h2, h3, h4⟩, h0 => by
    show Apt (p + 1) (if s + n = p then (s, n + 1) :: acc else (p, 1) :: (s, n) :: acc)
    by_cases e : s + n = p
    · rw [if_pos e]
      exact ⟨by omega, by omega, h3, h4⟩
    · rw [if_neg e]
      exact ⟨Int.le_refl _, Int.le_refl _, h0, by omega, h2, h3, h4⟩
theorem apt_runs (hs : List Int) (h : Int) : ∀ p : Nat, Apt p ((heldN hs h p).foldl rstep [])
  | 0 => trivial
  | p + 1 => by
    unfold heldN
    have ih := apt_runs hs h p
    by_cases e : hs[p]? = some h
    · rw [if_pos e, List.foldl_append]
      exact ih.step (by omega)
    · rw [if_neg e]
      exact ih.up (by omega)
theorem Apt.tail {q : PR} : ∀ {xs : List PR} {b : Int} {ys : List PR}, Apt b (xs ++ ys) → ∃ b', Apt b' ys
  | [], b, _, h => ⟨b, h⟩
  | (_, _) :: xs, _, _, ⟨_, _, _, h⟩ => Apt.tail (q := q) (xs := xs) h
theorem joinR_apt : ∀ {l acc : List PR} {b : Int}, Apt b (l.reverse ++ acc) → joinR acc l = acc.reverse ++ l
  | [], acc, _, _ => by unfold joinR; simp
  | p :: l, [], b, h => by
    rw [List.reverse_cons, List.append_assoc] at h
    simp only [joinR]
    rw [joinR_apt (acc := [p]) h]
    rfl
  | p :: l, q :: acc, b, h => by
    rw [List.reverse_cons, List.append_assoc] at h
    have h' : Apt b (l.reverse ++ (p :: q :: acc)) := h
    obtain ⟨b', h2⟩ := Apt.tail (q := p) h'
    obtain ⟨x, y⟩ := p
    obtain ⟨z, w⟩ := q
    obtain ⟨_, _, _, e, _⟩ := h2
    simp only [joinR]
    rw [if_neg (by omega), joinR_apt h']
    simp
theorem Apt.mem {b : Int} : ∀ {l : List PR}, Apt b l → ∀ p ∈ l, 0 ≤ p.1 ∧ 1 ≤ p.2 ∧ p.1 + p.2 ≤ b
  | [], _, _, m => by cases m
  | (s, n) :: acc, ⟨h1, h2, h3, h4⟩, p, m => by
    rcases List.mem_cons.mp m with rfl | m
    · exact ⟨h3, h2, h1⟩
    · obtain ⟨e1, e2, e3⟩ := h4.mem p m
      exact ⟨e1, e2, by omega⟩
theorem Apt.desc {b : Int} : ∀ {l : List PR}, Apt b l → l.Pairwise fun x y => y.1 < x.1
  | [], _ => .nil
  | (s, n) :: acc, ⟨h1, h2, h3, h4⟩ => List.pairwise_cons.mpr ⟨fun p m => by
      obtain ⟨e1, e2, e3⟩ := h4.mem p m
      show p.1 < s
      omega, h4.desc⟩
theorem Apt.srt {b : Int} {l : List PR} (h : Apt b l) : SrtO.Srtd SrtO.lexB l.reverse := by
  refine List.pairwise_reverse.mpr (h.desc.imp fun {x y} e => SrtO.lexB_no.mpr (by omega))
theorem srt_one {l m : List PR} (h1 : SrtO.Srtd SrtO.lexB l) (h2 : SrtO.Srtd SrtO.lexB m) (p : l.Perm m) : l = m := by
  refine p.eq_of_pairwise (fun a b _ _ e1 e2 => ?_) h1 h2
  have e1 := SrtO.lexB_no.mp e1
  have e2 := SrtO.lexB_no.mp e2
  exact Prod.ext (by omega) (by omega)
theorem joined_apt {b : Int} {l qs : List PR} (h : Apt b l) (p : qs.Perm l.reverse) (s : SrtO.Srtd SrtO.lexB qs) : joinR [] qs = l.reverse := by
  rw [srt_one s h.srt p]
  exact joinR_apt (acc := []) (b := b) (by rw [List.reverse_reverse, List.append_nil]; exact h)
/-! ### class Places -/
structure PlK (K : PySem.W.Frag) (c : Cl) : Prop where
  cl : Cls K c.k_Places
  na : NoAttr K c.k_Places "parts"
  nm : PySem.W.kitOne K (.type "list") (.ref c.k_Merged) = some false
  ha : PySem.W.findIn K (.ref c.k_Places) "__class__" = some (some (.builtin "object.__class__"))
  hn : PySem.W.specialIn K (.builtin "object.__class__") "__get__" = some (some (.builtin "getset_descriptor.__get__"))
  ht : PySem.W.takesIn K (.builtin "object.__class__") = some true
  hm : PySem.W.mroIn K c.k_Places (.type "object") = some true
  pp : PySem.W.kitOne K (.ref c.k_Places) (.ref c.k_Places) = some true
/-- a Places object of these spans -/
structure PlO (c : Cl) (H : Hp) (g : Addr) (ps : List PR) : Prop where
  ex : ∃ dx tp fs, H g = some (.ins c.k_Places dx [("parts", .ref tp)]) ∧ H tp = some (.tup fs) ∧ Prs H fs ps
theorem PlO.mono {c : Cl} {H H' : Hp} {g : Addr} {ps : List PR} (h : PlO c H g ps) (s : Same H H') : PlO c H' g ps := by
  obtain ⟨dx, tp, fs, h1, h2, h3⟩ := h.ex
  exact ⟨dx, tp, fs, s _ _ h1, s _ _ h2, h3.mono s⟩
theorem Prs.ins {H : Hp} {xs : List V} {ps : List PR} {f C dx : Addr} {o : HO} {fs : List (Str × V)} (h : Prs H xs ps) (hf : H f = some (.ins C dx fs)) : Prs (upd H f o) xs ps := by
  induction h with
  | nil => exact .nil
  | @cons a n t xs ps h _ ih => exact .cons (upd_off (fun z => by rw [z, hf] at h; cases h) h) ih
def sp_places_init (K : PySem.W.Frag) (c : Cl) : Sp := fun vs H Q _ => ∃ (x dx r : Addr) (xs : List V) (l : List PR) (b : Int), vs = [.ref x, .ref r] ∧ H x = some (.ins c.k_Places dx []) ∧ H r = some (.lst xs) ∧ Prs H xs l.reverse ∧ Apt b l ∧ b ≤ 1000000000 ∧ l.length ≤ 20000 ∧ PlK K c ∧
  ∀ H', PlO c H' x l.reverse → Out [x] H H' → Q .non H'
def N_c_Places_init : List Str := ["self", "spans", "span"]
def t_c_Places_init (K : PySem.W.Frag) (c : Cl) (E : XK) : TS := (tIfS (tB (tCB (rIsi K) (tCons (tVar 1) (tCons (tC (.ref c.k_Merged)) tNil)))) (sFld K (tVar 0) (tFld K (tVar 1) "ready") "parts") (tSeq (tIfS (tOr (tNot (tB (tCB (rIsiT K) (tCons (tVar 1) (tCons (tTup (tCons (tC (.ty "list")) (tCons (tC (.ty "tuple")) tNil))) tNil))))) (tTest (tOp oGt (tCB (rLen K) (tCons (tVar 1) tNil)) (tC (.int 20000))))) (tRz (tMkO c.k_BadValue (sp_init_BadValue K c.k_BadValue) [] (tCons (tC (.str "spans")) tNil)) (fun cls d _ H => E cls d H)) tNext)
  (tSeq (tIfS (tNot (tB (tCB (rAll K) (tCons (tLc (iList K (tVar 1)) (gName 2) tYes (tCall (sp_is_span K) [] E0 (tCons (tVar 2) tNil)) [2]) tNil)))) (tRz (tMkO c.k_BadValue (sp_init_BadValue K c.k_BadValue) [] (tCons (tC (.str "spans")) tNil)) (fun cls d _ H => E cls d H)) tNext)
  (sFld K (tVar 0) (tCB (rTupleOf K) (tCons (tCall (sp_joined_rows K) [] E0 (tCons (tVar 1) tNil)) tNil)) "parts"))))
theorem pure_places_init {K : PySem.W.Frag} {c : Cl} {vs : List V} {H : Hp} {Q : VK} {E : XK} (h : sp_places_init K c vs H Q E) : t_c_Places_init K c E { nx := fun _ H' => Q .non H', rt := Q } (start N_c_Places_init vs) H := by
  obtain ⟨x, dx, r, xs, l, b, rfl, hx, hr, hp, ha, hb, hl, R, k⟩ := h
  unfold t_c_Places_init
  fold_lay
  refine ⟨.ref r, .ref c.k_Merged, .type "list", .ref c.k_Merged, false, rfl, .own _, .base (.lst hr), R.nm, ?_⟩
  fold_lay
  fold_depth
  rename_i tp htp
  refine ⟨.ref r, tp, [.ty "list", .ty "tuple"], .type "list", [.type "list", .type "tuple"], true, rfl, upd_same, .cons (.ty _) (.cons (.ty _) .nil), .base (.lst (upd_keep htp hr)), by rfl, ?_⟩
  have xl : xs.length = l.length := by rw [hp.len, List.length_reverse]
  fold_lay
  refine i_no (by omega) ?_
  have s1 := same_new (o := .tup [.ty "list", .ty "tuple"]) htp
  generalize upd H tp (.tup [.ty "list", .ty "tuple"]) = H1 at s1
  fold_lay
  fold_depth
  refine c_lst (sqL (s1 _ _ hr)) (m_lst (xs := xs) (fun D i H' => Same H1 H' ∧ H1 D = none ∧ H' D = some (.lst (List.replicate i (.bl true)))) ?_ ?_ ?_ ?_)
  · exact fun D hD => ⟨same_new hD, hD, upd_same⟩
  · exact fun D i H' _ h => sqL (h.1 _ _ (s1 _ _ hr))
  · rintro D i x' H' hx' ⟨s2, s3, s4⟩
    obtain ⟨p, t, ep, rfl, ht⟩ := hp.at hx'
    have pm : p ∈ l := List.mem_reverse.mp (List.mem_of_getElem? ep)
    obtain ⟨p1, p2, p3⟩ := ha.mem p pm
    have il : i < xs.length := (List.getElem?_eq_some_iff.mp hx').1
    fold_lay
    refine ⟨rfl, ?_⟩
    fold_lay
    refine c_is_span (d := spanD p.1 p.2) (.tup (s2 _ _ (s1 _ _ ht)) (.cons (.int _) (.cons (.int _) .nil))) ?_
    have e : isSpan (spanD p.1 p.2) = true := okS_iff.mpr ⟨p1, p2, by omega⟩
    rw [e]
    refine ⟨_, s4, szl (by rw [List.length_replicate]; omega), same_step s3 s2, s3, ?_⟩
    rw [upd_same, List.replicate_succ']
  rintro D H2 ⟨s2, s3, s4⟩
  fold_lay
  refine i_all s4 ?_
  fold_lay
  have s2' := s1.trans s2
  refine ⟨r, xs, l.reverse, rfl, s2' _ _ hr, hp.mono s2', by rw [List.length_reverse]; omega, fun qs f fs H3 pq sq hf hfs hf0 s5 => ?_⟩
  rw [joined_apt ha pq sq] at hfs
  refine ⟨f, fs, rfl, .inl ⟨sqL hf, fun u hu => ?_⟩⟩
  fold_lay
  refine ⟨x, c.k_Places, dx, [], rfl, upd_keep hu (s5 _ _ (s2' _ _ hx)), R.cl, R.na, by simp, ?_⟩
  have hu3 : u ≠ x := ne_of_none' (s5 _ _ (s2' _ _ hx)) hu
  refine k _ ⟨dx, u, fs, upd_same, upd_off hu3 upd_same, ?_⟩ ?_
  · exact (hfs.mono (same_new hu)).ins (upd_keep hu (s5 _ _ (s2' _ _ hx)))
  · exact fun y o n e => upd_off (by simpa using n) (upd_keep hu (s5 _ _ (s2' _ _ e)))
/-! ## Told3 -/
/-! ### refusals told -/
structure BvU (K : PySem.W.Frag) (c : Cl) : Prop where
  bv : BvC K c.k_BadValue
  ex : ExcC K c.k_BadValue
  xf : XfC K c.k_BadValue
  i1 : PySem.W.kitOne K (.ref c.k_BadValue) (.ref c.k_StoreError) = some true
  i2 : PySem.W.kitOne K (.ref c.k_BadValue) (.type "ValueError") = some true
  i3 : PySem.W.kitOne K (.ref c.k_BadValue) (.ref c.k_Unknown) = some false
  ht : PySem.W.exmOne K (.ref c.k_BadValue) (.ref c.k_BadValue) = some true
def dueD (t : Str) : Dt := .tup [.str "BadValue", .str t, .tup [.str "BadValue", .tup [.str t]], .tup [.bl true, .bl true, .bl false]]
/-- the except suite of the refusals -/
def tTold (K : PySem.W.Frag) (c : Cl) (i j : Nat) : TS := tSeq (tAsg (tTup (tCons (tCB (rIsX K) (tCons (tVar i) (tCons (tC (.ref c.k_StoreError)) tNil))) (tCons (tCB (rIsX K) (tCons (tVar i) (tCons (tC (.ty "ValueError")) tNil))) (tCons (tCB (rIsX K) (tCons (tVar i) (tCons (tC (.ref c.k_Unknown)) tNil))) tNil)))) (gName j))
  (tRet (tTup (tCons (tC (.str "BadValue")) (tCons (tXt K "parameter" (tVar i)) (tCons (tXt K "told" (tVar i)) (tCons (tVar j) tNil))))))
theorem told25 {K : PySem.W.Frag} {c : Cl} {a0 a1 : Option V} {H : Hp} {t : Str} {d : Addr} {nx bk ct : St → Hp → Prop} {rt : VK} {e : Addr} (R : BvU K c) (he : H e = none) (hB : BadAt H d (.str t)) (k : ∀ v H', At H' v (dueD t) → Same H H' → rt v H') :
    tTold K c 2 3 ⟨nx, rt, bk, ct⟩ [a0, a1, some (.ref e), none] (upd H e (exi e (.ref c.k_BadValue) (some d))) := by
  obtain ⟨u1, u2, g1, g2, g3⟩ := hB
  have he1 : upd H e (exi e (.ref c.k_BadValue) (some d)) e = some (exi e (.ref c.k_BadValue) (some d)) := upd_same
  have hd1 := upd_keep (o := exi e (.ref c.k_BadValue) (some d)) he g1
  unfold tTold
  fold_lay
  refine i_isX he1 hd1 R.ex R.i1 ?_
  fold_lay
  refine i_isXt he1 hd1 R.ex R.i2 ?_
  fold_lay
  refine i_isX he1 hd1 R.ex R.i3 ?_
  fold_lay
  rename_i p hp
  refine ⟨e, c.k_BadValue, d, _, .str t, rfl, upd_keep hp he1, R.xf, R.bv.np, upd_keep hp hd1, lk_param, ?_⟩
  fold_lay
  refine ⟨e, c.k_BadValue, d, _, .ref u2, rfl, upd_keep hp he1, R.xf, R.bv.nt, upd_keep hp hd1, lk_told, ?_⟩
  fold_lay
  rename_i q hq
  have s1 := ((same_new (o := exi e (.ref c.k_BadValue) (some d)) he).trans (same_new (o := .tup [.bl true, .bl true, .bl false]) hp)).trans (same_new (o := .tup [.str "BadValue", .str t, .ref u2, .ref p]) hq)
  exact k _ _ (.tup upd_same (.cons (.str _) (.cons (.str _) (.cons (.tup (s1 _ _ g2) (.cons (.str _) (.cons (.tup (s1 _ _ g3) (.cons (.str _) .nil)) .nil))) (.cons (.tup (upd_keep hq upd_same) (.cons (.bl _) (.cons (.bl _) (.cons (.bl _) .nil)))) .nil))))) s1
/-! ## K12a -/
/-! ### k12: what is drawn for a deed -/
def hold24 : List Int := [1, 2, 3, 4, 5, 6, 7, 8, 11, 12, 13, 14, 15, 16, 17, 18, 21, 22, 23, 24, 25, 26, 27, 28]
def sp_holders : Sp := fun vs H Q _ => vs = [] ∧ ∀ l H', H l = none → H' l = some (.lst (hold24.map V.int)) → Same H H' → Q (.ref l) H'
theorem c_holders {H : Hp} {Q : VK} {E : XK} (h : ∀ l H', H l = none → H' l = some (.lst (hold24.map V.int)) → Same H H' → Q (.ref l) H') : sp_holders [] H Q E := ⟨rfl, h⟩
theorem i_lstRg {a b : Int} {σ : St} {H : Hp} {Q : VK} (h : RgOk a b) (k : ∀ q, H q = none → Q (.ref q) (upd H q (.lst (rgV a b)))) : tLstRg (tRg2 (tC (.int a)) (tC (.int b))) σ H Q := ⟨a, b, rfl, rfl, h, k⟩
def N_l_holders : List Str := []
def t_l_holders (K : PySem.W.Frag) : TS := (tRet (tOp rCat (tOp rCat (tLstRg (tRg2 (tC (.int 1)) (tC (.int 9)))) (tLstRg (tRg2 (tC (.int 11)) (tC (.int 19))))) (tLstRg (tRg2 (tC (.int 21)) (tC (.int 29))))))
theorem pure_holders {K : PySem.W.Frag} {vs : List V} {H : Hp} {Q : VK} {E : XK} (h : sp_holders vs H Q E) : t_l_holders K { nx := fun _ H' => Q .non H', rt := Q } (start N_l_holders vs) H := by
  obtain ⟨rfl, k⟩ := h
  unfold t_l_holders
  fold_lay
  refine i_lstRg (by unfold RgOk; decide) fun q1 h1 => ?_
  refine i_lstRg (by unfold RgOk; decide) fun q2 h2 => ?_
  refine i_cat (upd_keep h2 upd_same) upd_same (by simp [rgV]) fun q3 h3 => ?_
  refine i_lstRg (by unfold RgOk; decide) fun q4 h4 => ?_
  refine i_cat (upd_keep h4 upd_same) upd_same (by simp [rgV]) fun q5 h5 => ?_
  fold_lay
  refine k _ _ ?_ ?_ ?_
  · nest_room
  · rw [upd_same]
    rfl
  · exact ((((same_new h1).trans (same_new h2)).trans (same_new h3)).trans (same_new h4)).trans (same_new h5)
def sp_holder (K : PySem.W.Frag) : Sp := fun vs H Q _ => ∃ d s, vs = [.ref d] ∧ Dr d s H ∧ ∀ v H', (v = 0 ∨ v ∈ hold24) → Dr d s H' → Same (hid s H) (hid s H') → Q (.int v) H'
theorem c_holder {K : PySem.W.Frag} {d s : Addr} {H : Hp} {Q : VK} {E : XK} (hD : Dr d s H) (h : ∀ v H', (v = 0 ∨ v ∈ hold24) → Dr d s H' → Same (hid s H) (hid s H') → Q (.int v) H') : sp_holder K [.ref d] H Q E := ⟨d, s, rfl, hD, h⟩
def N_l_holder : List Str := ["_law_draws_here"]
def t_l_holder (K : PySem.W.Frag) : TS := (tSeq (tIfS (tTest (tOp rEq (tCall sp_take [] E0 (tCons (tVar 0) (tCons (tC (.int 4)) tNil))) (tC (.int 0)))) (tRet (tC (.int 0))) tNext)
  (tRet (tCall (sp_among K) [] E0 (tCons (tVar 0) (tCons (tCall sp_holders [] E0 tNil) tNil)))))
theorem pure_holder {K : PySem.W.Frag} {vs : List V} {H : Hp} {Q : VK} {E : XK} (h : sp_holder K vs H Q E) : t_l_holder K { nx := fun _ H' => Q .non H', rt := Q } (start N_l_holder vs) H := by
  obtain ⟨d, s, rfl, hD, k⟩ := h
  unfold t_l_holder
  fold_depth
  refine c_take hD (by omega) fun v H1 v0 v1 hD1 s1 => ?_
  fold_lay
  refine i_ifd (fun z => ?_) (fun z => ?_)
  · fold_lay
    exact k _ _ (.inl rfl) hD1 s1
  · fold_lay
    refine c_holders fun l H2 e1 e2 s2 => ?_
    fold_lay
    refine c_among (hD1.same s2) e2 (hD1.ne e1) (by simp [hold24]) (by simp [hold24]) fun w H3 hw hD3 s3 => ?_
    obtain ⟨i, hi, rfl⟩ := List.mem_map.mp hw
    exact k _ _ (.inr hi) hD3 (by mem_news)
/-- a word -/
abbrev isWd (w : Int) : Prop := 0 ≤ w ∧ w ≤ 65535
def sp_word (K : PySem.W.Frag) : Sp := fun vs H Q _ => ∃ d s b, vs = [.ref d, .int b] ∧ Dr d s H ∧ isWd b ∧ ∀ v H', isWd v → Dr d s H' → Same (hid s H) (hid s H') → Q (.int v) H'
theorem c_word {K : PySem.W.Frag} {d s : Addr} {b : Int} {H : Hp} {Q : VK} {E : XK} (hD : Dr d s H) (hb : isWd b) (h : ∀ v H', isWd v → Dr d s H' → Same (hid s H) (hid s H') → Q (.int v) H') : sp_word K [.ref d, .int b] H Q E := ⟨d, s, b, rfl, hD, hb, h⟩
def N_l_word : List Str := ["_law_draws_here", "_law_blank_here", "_law_kind"]
def t_l_word (K : PySem.W.Frag) : TS := (tSeq (tAsg (tCall sp_take [] E0 (tCons (tVar 0) (tCons (tC (.int 10)) tNil))) (gName 2))
  (tSeq (tIfS (tTest (tOp oLt (tVar 2) (tC (.int 7)))) (tRet (tOp (rIxL K) (tLst (tCons (tVar 1) (tCons (tC (.int 0)) (tCons (tC (.int 65535)) (tCons (tC (.int 60001)) (tCons (tC (.int 60002)) (tCons (tC (.int 4711)) (tCons (tOp oMod (tCB rInt1 (tCons (tOp oAdd (tVar 1) (tC (.int 1))) tNil)) (tC (.int 65536))) tNil)))))))) (tVar 2))) tNext)
  (tSeq (tIfS (tTest (tOp rEq (tVar 2) (tC (.int 7)))) (tRet (tCall sp_take [] E0 (tCons (tVar 0) (tCons (tC (.int 12)) tNil)))) tNext)
  (tRet (tCall sp_take [] E0 (tCons (tVar 0) (tCons (tC (.int 65536)) tNil)))))))
theorem pure_word {K : PySem.W.Frag} {vs : List V} {H : Hp} {Q : VK} {E : XK} (h : sp_word K vs H Q E) : t_l_word K { nx := fun _ H' => Q .non H', rt := Q } (start N_l_word vs) H := by
  obtain ⟨d, s, b, rfl, hD, ⟨b0, b1⟩, k⟩ := h
  unfold t_l_word
  fold_lay
  refine c_take hD (by omega) fun v H1 v0 v1 hD1 s1 => ?_
  fold_lay
  fold_depth
  refine i_ifd (fun z => ?_) (fun z => ?_)
  · have e : v = 0 ∨ v = 1 ∨ v = 2 ∨ v = 3 ∨ v = 4 ∨ v = 5 ∨ v = 6 := by omega
    rcases e with rfl | rfl | rfl | rfl | rfl | rfl | rfl <;> fold_lay
    all_goals exact k _ _ ⟨by omega, by omega⟩ (by leaf_len) (by mem_news)
  · fold_lay
    fold_depth
    refine i_ifd (fun z => ?_) (fun z => ?_)
    · fold_lay
      refine c_take hD1 (by omega) fun w H2 w0 w1 hD2 s2 => ?_
      exact k _ _ ⟨w0, by omega⟩ hD2 (by mem_news)
    · fold_lay
      refine c_take hD1 (by omega) fun w H2 w0 w1 hD2 s2 => ?_
      exact k _ _ ⟨w0, by omega⟩ hD2 (by mem_news)
def sp_blank (K : PySem.W.Frag) : Sp := fun vs H Q _ => ∃ d s, vs = [.ref d] ∧ Dr d s H ∧ ∀ v H', isWd v → Dr d s H' → Same (hid s H) (hid s H') → Q (.int v) H'
theorem c_blank {K : PySem.W.Frag} {d s : Addr} {H : Hp} {Q : VK} {E : XK} (hD : Dr d s H) (h : ∀ v H', isWd v → Dr d s H' → Same (hid s H) (hid s H') → Q (.int v) H') : sp_blank K [.ref d] H Q E := ⟨d, s, rfl, hD, h⟩
def N_l_blank : List Str := ["_law_draws_here", "_law_kind"]
def t_l_blank (K : PySem.W.Frag) : TS := (tSeq (tAsg (tCall sp_take [] E0 (tCons (tVar 0) (tCons (tC (.int 10)) tNil))) (gName 1))
  (tSeq (tIfS (tTest (tOp oLt (tVar 1) (tC (.int 7)))) (tRet (tOp (rIxL K) (tLst (tCons (tC (.int 0)) (tCons (tC (.int 0)) (tCons (tC (.int 65535)) (tCons (tC (.int 1)) (tCons (tC (.int 60001)) (tCons (tC (.int 60002)) (tCons (tC (.int 4711)) tNil)))))))) (tVar 1))) tNext)
  (tSeq (tIfS (tTest (tOp rEq (tVar 1) (tC (.int 7)))) (tRet (tCall sp_take [] E0 (tCons (tVar 0) (tCons (tC (.int 40)) tNil)))) tNext)
  (tRet (tCall sp_take [] E0 (tCons (tVar 0) (tCons (tC (.int 65536)) tNil)))))))
theorem pure_blank {K : PySem.W.Frag} {vs : List V} {H : Hp} {Q : VK} {E : XK} (h : sp_blank K vs H Q E) : t_l_blank K { nx := fun _ H' => Q .non H', rt := Q } (start N_l_blank vs) H := by
  obtain ⟨d, s, rfl, hD, k⟩ := h
  unfold t_l_blank
  fold_lay
  refine c_take hD (by omega) fun v H1 v0 v1 hD1 s1 => ?_
  fold_lay
  fold_depth
  refine i_ifd (fun z => ?_) (fun z => ?_)
  · have e : v = 0 ∨ v = 1 ∨ v = 2 ∨ v = 3 ∨ v = 4 ∨ v = 5 ∨ v = 6 := by omega
    rcases e with rfl | rfl | rfl | rfl | rfl | rfl | rfl <;> fold_lay
    all_goals exact k _ _ ⟨by omega, by omega⟩ (by leaf_len) (by mem_news)
  · fold_lay
    fold_depth
    refine i_ifd (fun z => ?_) (fun z => ?_)
    · fold_lay
      refine c_take hD1 (by omega) fun w H2 w0 w1 hD2 s2 => ?_
      exact k _ _ ⟨w0, by omega⟩ hD2 (by mem_news)
    · fold_lay
      refine c_take hD1 (by omega) fun w H2 w0 w1 hD2 s2 => ?_
      exact k _ _ ⟨w0, by omega⟩ hD2 (by mem_news)
/-! ## Makes -/
/-! ### things made, properties, lists taken apart -/
instance s_makeK {C : Addr} {n m : Nat} {sp : Sp} {gV : List V → List V → List V} {E : XK} {t tk : TA} {σ : St} {H : Hp} {Q : VK} : Stp (tMakeK C n m sp gV E t tk σ H Q) (t σ H fun vs H1 => tk σ H1 fun zs H2 => vs.length = n ∧ zs.length = m ∧ ∀ x dx, H2 x = none → H2 dx = none → dx ≠ x →
  sp (gV (.ref x :: vs) zs) (upd (upd H2 dx (.own x)) x (.ins C dx [])) (fun v H3 => v = .non ∧ Q (.ref x) H3) E) := ⟨fun h => h⟩
theorem fresh_off {F : List Addr} {H : Hp} {p : Addr} (l : ∀ a ∈ F, ∃ o, H a = some o) (h : H p = none) : p ∉ F := fun m => by
  obtain ⟨o, e⟩ := l p m
  rw [h] at e
  cases e
theorem live_same {F : List Addr} {H H' : Hp} (l : ∀ a ∈ F, ∃ o, H a = some o) (s : Same H H') : ∀ a ∈ F, ∃ o, H' a = some o := fun a m => by
  obtain ⟨o, e⟩ := l a m
  exact ⟨o, s _ _ e⟩
theorem live_cons {F : List Addr} {H : Hp} {p : Addr} {o : HO} (l : ∀ a ∈ F, ∃ o, H a = some o) (h : H p = none) : ∀ a ∈ p :: F, ∃ u, upd H p o a = some u := fun a m => by
  rcases List.mem_cons.mp m with rfl | m
  · exact ⟨o, upd_same⟩
  · exact live_same l (same_new h) a m
theorem i_prop {c : Cl} {H : Hp} {A : GA} {S : GS} {P : Addr → Prop} (G : Gd c H A S) (q : P A.g) : ∃ a dx fs, V.ref A.g = .ref a ∧ H a = some (.ins c.k_Ground dx fs) ∧ P a := ⟨A.g, A.dx, flds A S, rfl, G.ob, q⟩
instance s_prop {C : Addr} {sp : Sp} {dvs : List V} {E : XK} {ta : TE} {σ : St} {H : Hp} {Q : VK} : Stp (tProp C sp dvs E ta σ H Q) (ta σ H fun x H1 => ∃ a dx fs, x = .ref a ∧ H1 a = some (.ins C dx fs) ∧ sp (.ref a :: dvs) H1 Q E) := ⟨fun h => h⟩
instance s_gunl {K : PySem.W.Frag} {m : Nat} {t : TGs} {a : Addr} {σ : St} {H : Hp} {R : St → Hp → Prop} : Stp (gUnl K m t (.ref a) σ H R) (∃ xs, SqL K H a xs ∧ xs.length = m ∧ t xs σ H R) := ⟨fun ⟨xs, h⟩ => ⟨a, xs, rfl, h⟩⟩
instance s_make {C : Addr} {sp : Sp} {dvs : List V} {E : XK} {t : TA} {σ : St} {H : Hp} {Q : VK} : Stp (tMake C sp dvs E t σ H Q) (t σ H fun vs H1 => ∀ x dx, H1 x = none → H1 dx = none → dx ≠ x → sp (.ref x :: (vs ++ dvs)) (upd (upd H1 dx (.own x)) x (.ins C dx [])) (fun v H2 => v = .non ∧ Q (.ref x) H2) E) := ⟨fun h => h⟩
theorem mk_ground {K : PySem.W.Frag} {c : Cl} {p w b : Int} {al : Option Int} {H1 : Hp} {Q : Addr → Hp → Prop} {E : XK} (R : GdE K c) (hT : KTup K c.x_WIDTHS [16, 32, 64]) (p0 : 1 ≤ p) (p1 : p ≤ 256) (hw : w = 16 ∨ w = 32 ∨ w = 64) (hb : isWd b) (ha : ∀ a, al = some a → 0 ≤ a ∧ a ≤ 1000000000)
    (k : ∀ A H', Gd c H' A { pg := p, wd := w, fl := b, al := al, ch := 0, ws := List.replicate (p * w).toNat b, hs := List.replicate (p * w).toNat 0, ds := [] } → A.dd = [] → (∀ a ∈ fpA A, H1 a = none) → Same H1 H' → Q A.g H') :
    ∀ x dx, H1 x = none → H1 dx = none → dx ≠ x → sp_ground_init K c [.ref x, .int p, .int w, .int b, odV al] (upd (upd H1 dx (.own x)) x (.ins c.k_Ground dx [])) (fun v H3 => v = .non ∧ Q x H3) E := by
  intro x dx hx hdx ndx
  have t1 : Ty0 (upd (upd H1 dx (.own x)) x (.ins c.k_Ground dx [])) (odV al) (if al = none then "NoneType" else "int") := by
    cases al with
    | none => exact .non
    | some a => exact .int _
  have b0 : badG (.int p) (.int w) (.int b) (odV al) = none := by
    have e1 : vR 1 256 (.int p) = true := by simp [vR]; omega
    have e2 : vWd (.int w) = true := by rcases hw with rfl | rfl | rfl <;> decide
    have e3 : vR 0 65535 (.int b) = true := by simp [vR]; omega
    have e4 : vB (odV al) = true := by
      cases al with
      | none => decide
      | some a =>
        have := ha a rfl
        simp [vB, odV, vR]
        omega
    simp [badG, e1, e2, e3, e4]
  refine ⟨x, dx, .int p, .int w, .int b, odV al, "int", "int", "int", _, rfl, upd_same, .int _, .int _, .int _, t1, R.gk, R.bv, hT, fun t z => (by rw [b0] at z; cases z), fun _ aw ah ao H5 G hw0 hh0 ho0 O => ⟨rfl, ?_⟩⟩
  have old : ∀ a, upd (upd H1 dx (.own x)) x (.ins c.k_Ground dx []) a = none → H1 a = none := fun a e => free2 e ((same_new hdx).trans (same_new (by rw [upd_ne (Ne.symm ndx)]; exact hx)))
  have eS : newG (.int p) (.int w) (.int b) (odV al) = { pg := p, wd := w, fl := b, al := al, ch := 0, ws := List.replicate (p * w).toNat b, hs := List.replicate (p * w).toNat 0, ds := [] } := by
    cases al <;> rfl
  rw [eS] at G
  refine k ⟨x, dx, aw, ah, ao, []⟩ H5 G rfl (fun a m => ?_) fun y o e => O y o (by simpa using ne_of_none e hx) (upd_off (ne_of_none e hx) (upd_off (ne_of_none e hdx) e))
  simp only [fpA, List.mem_cons, List.not_mem_nil, or_false] at m
  rcases m with rfl | rfl | rfl | rfl
  · exact hx
  · exact old _ hw0
  · exact old _ hh0
  · exact old _ ho0
/-! ## K09c -/
/-! ### spans of a Places object; the runs of a holder -/
def sp_pspans (K : PySem.W.Frag) (c : Cl) : Sp := fun vs H Q _ => ∃ (g : Addr) (ps : List PR), vs = [.ref g] ∧ PlO c H g ps ∧ PlK K c ∧ ∀ l fs, H l = none → Prs H fs ps → Q (.ref l) (upd H l (.lst fs))
def N_c_Places_spans : List Str := ["self"]
def t_c_Places_spans (K : PySem.W.Frag) : TS := (tRet (tCB (rListOf K) (tCons (tFld K (tVar 0) "parts") tNil)))
theorem pure_pspans {K : PySem.W.Frag} {c : Cl} {vs : List V} {H : Hp} {Q : VK} {E : XK} (h : sp_pspans K c vs H Q E) : t_c_Places_spans K { nx := fun _ H' => Q .non H', rt := Q } (start N_c_Places_spans vs) H := by
  obtain ⟨g, ps, rfl, hP, R, k⟩ := h
  obtain ⟨dx, tp, fs, h1, h2, h3⟩ := hP.ex
  unfold t_c_Places_spans
  fold_lay
  refine ⟨g, c.k_Places, dx, _, .ref tp, rfl, h1, R.cl, R.na, rfl, ?_⟩
  fold_lay
  exact ⟨tp, fs, rfl, .inr (sqT h2), fun l hl => k l fs hl h3⟩
theorem rstep_len (x : Int) : ∀ l : List PR, (rstep l x).length ≤ l.length + 1
  | [] => Nat.le_refl _
  | (s, n) :: acc => by
    show (if s + n = x then (s, n + 1) :: acc else (x, 1) :: (s, n) :: acc).length ≤ _
    by_cases e : s + n = x
    · rw [if_pos e]; simp
    · rw [if_neg e]; simp
theorem runs_len (hs : List Int) (h : Int) : ∀ p : Nat, ((heldN hs h p).foldl rstep []).length ≤ p
  | 0 => Nat.le_refl _
  | p + 1 => by
    unfold heldN
    have ih := runs_len hs h p
    by_cases e : hs[p]? = some h
    · rw [if_pos e, List.foldl_append]
      have := rstep_len p ((heldN hs h p).foldl rstep [])
      simp only [List.foldl_cons, List.foldl_nil]
      omega
    · rw [if_neg e]
      omega
structure RunI (hs : List Int) (h : Int) (p : Nat) (acc : List PR) (low : Option Int) : Prop where
  e : (heldN hs h p).foldl rstep [] = (match low with | none => acc | some l => (l, (p : Int) - l) :: acc)
  b : low = none → ∀ q r, acc = q :: r → q.1 + q.2 < p
  l : acc.length ≤ p
theorem RunI.s1 {hs : List Int} {h : Int} {p : Nat} {acc : List PR} (R : RunI hs h p acc none) (e : hs[p]? = some h) : RunI hs h (p + 1) acc (some p) := by
  refine ⟨?_, (fun z => by cases z), Nat.le_succ_of_le R.l⟩
  have := R.e
  simp only [heldN, if_pos e, List.foldl_append, List.foldl_cons, List.foldl_nil]
  rw [this]
  show rstep acc p = ((p : Int), ((p + 1 : Nat) : Int) - p) :: acc
  have e1 : ((p + 1 : Nat) : Int) - p = 1 := by omega
  rw [e1]
  cases acc with
  | nil => rfl
  | cons q r =>
    have := R.b rfl q r rfl
    show (if q.1 + q.2 = (p : Int) then _ else _) = _
    rw [if_neg (by omega)]
theorem RunI.s2 {hs : List Int} {h : Int} {p : Nat} {acc : List PR} {l : Int} (R : RunI hs h p acc (some l)) (e : hs[p]? = some h) : RunI hs h (p + 1) acc (some l) := by
  refine ⟨?_, (fun z => by cases z), Nat.le_succ_of_le R.l⟩
  have := R.e
  simp only [heldN, if_pos e, List.foldl_append, List.foldl_cons, List.foldl_nil]
  rw [this]
  show (if l + ((p : Int) - l) = p then (l, (p : Int) - l + 1) :: acc else _) = (l, ((p + 1 : Nat) : Int) - l) :: acc
  rw [if_pos (by omega)]
  have e1 : (p : Int) - l + 1 = ((p + 1 : Nat) : Int) - l := by omega
  rw [e1]
theorem RunI.s3 {hs : List Int} {h : Int} {p : Nat} {acc : List PR} (R : RunI hs h p acc none) (e : ¬ hs[p]? = some h) : RunI hs h (p + 1) acc none := by
  refine ⟨?_, fun _ q r z => ?_, Nat.le_succ_of_le R.l⟩
  · simp only [heldN, if_neg e]
    exact R.e
  · have := R.b rfl q r z
    omega
theorem RunI.s4 {hs : List Int} {h : Int} {p : Nat} {acc : List PR} {l : Int} (R : RunI hs h p acc (some l)) (e : ¬ hs[p]? = some h) : RunI hs h (p + 1) ((l, (p : Int) - l) :: acc) none := by
  refine ⟨?_, fun _ q r z => ?_, Nat.succ_le_succ R.l⟩
  · simp only [heldN, if_neg e]
    exact R.e
  · cases z
    show l + ((p : Int) - l) < _
    omega
def sp_runs_of (K : PySem.W.Frag) : Sp := fun vs H Q _ => ∃ (r : Addr) (hs : List Int) (h : Int), vs = [.ref r, .int h] ∧ H r = some (.lst (hs.map V.int)) ∧ hs.length ≤ 20000 ∧
  ∀ f fs H', H f = none → H' f = some (.lst fs) → Prs H' fs (runsN (heldN hs h hs.length)) → Same H H' → Q (.ref f) H'
def N_p_runs_of : List Str := ["holders", "holder", "runs", "low", "place"]
def t_p_runs_of (K : PySem.W.Frag) : TS := (tSeq (tAsg (tLst tNil) (gName 2))
  (tSeq (tAsg (tC .non) (gName 3))
  (tSeq (tFor (iRng1 (tCons (tCB (rLen K) (tCons (tVar 0) tNil)) tNil)) (gName 4) (tIfS (tTest (tOp rEq (tOp (rIxL K) (tVar 0) (tVar 4)) (tVar 1))) (tIfS (tTest (tOp oIsN (tVar 3) (tC .non))) (tAsg (tVar 4) (gName 3)) tNext) (tIfS (tTest (tOp oNotN (tVar 3) (tC .non))) (tSeq (tDrop (tBM K "list" rAppend (tVar 2) (tCons (tTup (tCons (tVar 3) (tCons (tOp oSub (tVar 4) (tVar 3)) tNil))) tNil)))
  (tAsg (tC .non) (gName 3))) tNext)))
  (tSeq (tIfS (tTest (tOp oNotN (tVar 3) (tC .non))) (tDrop (tBM K "list" rAppend (tVar 2) (tCons (tTup (tCons (tVar 3) (tCons (tOp oSub (tCB (rLen K) (tCons (tVar 0) tNil)) (tVar 3)) tNil))) tNil))) tNext)
  (tRet (tVar 2))))))
theorem pure_runs_of {K : PySem.W.Frag} {vs : List V} {H : Hp} {Q : VK} {E : XK} (h : sp_runs_of K vs H Q E) : t_p_runs_of K { nx := fun _ H' => Q .non H', rt := Q } (start N_p_runs_of vs) H := by
  obtain ⟨r, hs, h, rfl, hr, hz, k⟩ := h
  unfold t_p_runs_of
  fold_depth
  rename_i fa hfa
  fold_depth
  refine f_rng1 (by omega) (by simp; omega) (l_rng (fun i σ' H' => ∃ acc low a fs, σ' = [some (.ref r), some (.int h), some (.ref fa), some (odV low), a] ∧ H' fa = some (.lst fs) ∧ Prs H' fs acc.reverse ∧ RunI hs h i acc low ∧ Same H H') ?_ ?_ ?_)
  · exact ⟨[], none, _, [], rfl, upd_same, .nil, ⟨rfl, (fun _ _ _ z => by cases z), Nat.le_refl _⟩, same_new hfa⟩
  · rintro i σ' H' hi ⟨acc, low, a, fs, rfl, h1, h2, h3, h4⟩
    have hi : i < hs.length := by simpa using hi
    obtain ⟨x, ex⟩ : ∃ x, hs[i]? = some x := ⟨_, List.getElem?_eq_getElem hi⟩
    have fl := h2.len
    have al := h3.l
    fold_lay
    refine ⟨r, hs.map V.int, _, .int x, rfl, rfl, sqL (h4 _ _ hr), at_of (j := i) (by omega) (by rw [List.getElem?_map, ex]; rfl), ?_⟩
    fold_lay
    have i0 : (0 : Int) + (i : Int) = (i : Int) := Int.zero_add _
    rw [i0]
    refine i_ifd (fun g => ?_) (fun g => ?_)
    · subst g
      cases low with
      | none =>
        fold_lay
        refine i_yes rfl ?_
        fold_lay
        exact ⟨acc, some (i : Int), _, fs, rfl, h1, h2, h3.s1 ex, h4⟩
      | some l =>
        fold_lay
        refine i_no (fun z => by cases z) ?_
        fold_lay
        exact ⟨acc, some l, _, fs, rfl, h1, h2, h3.s2 ex, h4⟩
    · have ne : ¬ hs[i]? = some h := fun z => g (by rw [ex] at z; exact Option.some.inj z)
      cases low with
      | none =>
        fold_lay
        refine i_ifn (fun z => absurd rfl z) (fun _ => ?_)
        fold_lay
        exact ⟨acc, none, _, fs, rfl, h1, h2, h3.s3 ne, h4⟩
      | some l =>
        rw [show odV (some l) = V.int l from rfl]
        fold_lay
        refine i_ifn (fun _ => ?_) (fun z => by cases z)
        fold_depth
        rename_i u hu
        refine i_put (upd_keep hu h1) (by rw [fl, List.length_reverse]; omega) ?_
        fold_lay
        refine ⟨(l, (i : Int) - l) :: acc, none, _, fs ++ [.ref u], rfl, upd_same, ?_, h3.s4 ne, same_step hfa (h4.trans (same_new hu))⟩
        rw [List.reverse_cons]
        exact ((h2.mono (same_new hu)).set (upd_keep hu h1)).app (.cons (upd_off (ne_of_none' h1 hu) upd_same) .nil)
  · rintro σ' H' ⟨acc, low, a, fs, rfl, h1, h2, h3, h4⟩
    have n1 : ((hs.map V.int).length : Int).toNat = hs.length := by simp
    rw [n1] at h3
    have fl := h2.len
    have al := h3.l
    have he := h3.e
    cases low with
    | none =>
      fold_depth
      refine i_ifn (fun z => absurd rfl z) (fun _ => ?_)
      fold_lay
      refine k fa fs H' hfa h1 ?_ h4
      unfold runsN
      rw [he]
      exact h2
    | some l =>
      rw [show odV (some l) = V.int l from rfl]
      fold_depth
      refine i_ifn (fun _ => ?_) (fun z => by cases z)
      fold_lay
      rename_i u hu
      refine i_put (upd_keep hu h1) (by rw [fl, List.length_reverse]; omega) ?_
      fold_lay
      refine k fa (fs ++ [.ref u]) _ hfa upd_same ?_ (same_step hfa (h4.trans (same_new hu)))
      unfold runsN
      rw [he, List.reverse_cons]
      refine ((h2.mono (same_new hu)).set (upd_keep hu h1)).app (.cons ?_ .nil)
      rw [upd_ne (ne_of_none' h1 hu), upd_same]
      simp
/-! ### held_by -/
def sp_held_by (K : PySem.W.Frag) (c : Cl) : Sp := fun vs H Q E => ∃ (A : GA) (S : GS) (v : V) (n : String), vs = [.ref A.g, v] ∧ Gd c H A S ∧ GdK K c ∧ BvC K c.k_BadValue ∧ PlK K c ∧ Ty0 H v n ∧
  (vH v = false → ∀ d H', BadAt H' d (.str "holder") → Same H H' → E (.ref c.k_BadValue) (some d) H') ∧
  (∀ h, v = .int h → vH v = true → ∀ g H', PlO c H' g (runsN (heldN S.hs h S.hs.length)) → H g = none → Same H H' → Q (.ref g) H')
def N_c_Ground_held_by : List Str := ["self", "holder"]
def t_c_Ground_held_by (K : PySem.W.Frag) (c : Cl) (E : XK) : TS := (tSeq (tIfS (tNot (tB (tCall (sp_is_holder K) [] E0 (tCons (tVar 1) tNil)))) (tRz (tMkO c.k_BadValue (sp_init_BadValue K c.k_BadValue) [] (tCons (tC (.str "holder")) tNil)) (fun cls d _ H => E cls d H)) tNext)
  (tRet (tMake c.k_Places (sp_places_init K c) [] E (tCons (tCall (sp_runs_of K) [] E0 (tCons (tFld K (tVar 0) "cell_holders") (tCons (tVar 1) tNil))) tNil))))
theorem pure_held_by {K : PySem.W.Frag} {c : Cl} {vs : List V} {H : Hp} {Q : VK} {E : XK} (h : sp_held_by K c vs H Q E) : t_c_Ground_held_by K c E { nx := fun _ H' => Q .non H', rt := Q } (start N_c_Ground_held_by vs) H := by
  obtain ⟨A, S, v, n, rfl, G, R, hC, P, ht, kE, kQ⟩ := h
  unfold t_c_Ground_held_by
  fold_depth
  refine c_is_holder ht ?_
  fold_lay
  refine i_ifb (fun g => ?_) (fun g => ?_)
  · have g : vH v = false := by simpa using g
    fold_lay
    exact c_bad hC (kE g)
  have g : vH v = true := by simpa using g
  obtain ⟨i, rfl, _, _⟩ := vH_i g
  have le := G.le
  have sz := G.sz
  fold_lay
  refine i_gfld R G.ob (by simp) lkf_cell_holders ?_
  fold_lay
  refine ⟨A.h, S.hs, i, rfl, G.hl, by omega, fun f fs H1 hf0 hf hfs s1 => ?_⟩
  fold_lay
  intro x dx hx hdx ndx
  have s2 : Same H1 (upd (upd H1 dx (.own x)) x (.ins c.k_Places dx [])) := (same_new hdx).trans (same_new (by rw [upd_ne (Ne.symm ndx)]; exact hx))
  have ap := apt_runs S.hs i S.hs.length
  refine ⟨x, dx, f, fs, (heldN S.hs i S.hs.length).foldl rstep [], (S.hs.length : Nat), rfl, upd_same, s2 _ _ hf, hfs.mono s2, ap, by omega, ?_, P, fun H2 hP O => ⟨rfl, ?_⟩⟩
  · have := runs_len S.hs i S.hs.length
    omega
  · refine kQ i rfl g x H2 hP (free2 hx s1) (s1.trans fun y o e => O y o (by simpa using ne_of_none e hx) (s2 _ _ e))
/-! ## Few -/
/-! ### few laws on heaps and rows, without the worlds -/
theorem Dr.neT7 {d s x : Addr} {H : Hp} {xs : List V} (h : Dr d s H) (e : H x = some (.tup xs)) : x ≠ s := fun z => by
  obtain ⟨c, cs, p, b, n, t, e1, h1, h2, h3, h4⟩ := h
  rw [z, h3] at e
  cases e
theorem Dr.neI7 {d s x C dx : Addr} {H : Hp} {fs : List (Str × V)} (h : Dr d s H) (e : H x = some (.ins C dx fs)) : x ≠ s := fun z => by
  obtain ⟨c, cs, p, b, n, t, e1, h1, h2, h3, h4⟩ := h
  rw [z, h3] at e
  cases e
def TupK7 (H H' : Hp) : Prop := ∀ b xs, H b = some (.tup xs) → H' b = some (.tup xs)
theorem hidTup7 {d s : Addr} {H H' : Hp} (D : Dr d s H) (k : Same (hid s H) (hid s H')) : TupK7 H H' := fun b xs e => hget k (D.neT7 e) e
theorem tupK_upd7 {H : Hp} {r : Addr} {o : HO} {xs : List V} (h : H r = some (.lst xs)) : TupK7 H (upd H r o) := fun b ys e => upd_off (fun z => by
  rw [z, h] at e
  cases e) e
theorem setS7 {s : Addr} {H H' : Hp} {a : Addr} {o : HO} (k' : Same (hid s H) (hid s H')) (n : H a = none) : Same (hid s H) (hid s (upd H' a o)) := fun b u e => by
  obtain ⟨e1, nb⟩ := hid_of e
  obtain ⟨e2, _⟩ := hid_of (k' b u e)
  exact hid_to (upd_off (ne_of_none e1 n) e2) nb
theorem dr_upd7 {d s a : Addr} {H H' : Hp} {o : HO} (hD : Dr d s H) (n : H a = none) (h' : Dr d s H') (k' : Same (hid s H) (hid s H')) : Dr d s (upd H' a o) := by
  obtain ⟨c, cs, p, b, m, t, e, h1, h2, h3, h4, h5, h6⟩ := hD
  obtain ⟨c', cs', p', b', m', t', e', g1, g2, g3, g4⟩ := h'
  have q := hget k' h4 h1
  rw [g1] at q
  have ec : c' = c := by
    have := HO.lst.inj (Option.some.inj q)
    have := (List.cons.inj this).1
    exact V.ref.inj this
  subst ec
  exact ⟨c', cs', p', b', m', t', e', upd_off (ne_of_none h1 n) g1, upd_off (ne_of_none h2 n) g2, upd_off (ne_of_none h3 n) g3, g4⟩
theorem i_ninI7 {K : PySem.W.Frag} {H : Hp} {Q : VK} {x : Int} {p : Addr} {xs : List Int} (h : H p = some (.lst (xs.map V.int))) (q : Q (.bl (!decide (x ∈ xs))) H) : rIn K true (.int x) (.ref p) H Q := by
  have e : inV (.int x) (xs.map V.int) = decide (x ∈ xs) := by
    rw [Bool.eq_iff_iff, decide_eq_true_eq]
    unfold inV
    rw [List.any_eq_true]
    constructor
    · rintro ⟨y, my, ey⟩
      obtain ⟨i, mi, rfl⟩ := List.mem_map.mp my
      have : i = x := by simpa [eqV] using ey
      exact this ▸ mi
    · intro m
      exact ⟨.int x, List.mem_map.mpr ⟨x, m, rfl⟩, by simp [eqV]⟩
  refine ⟨p, xs.map V.int, rfl, .inl (sqL h), rfl, ?_, ?_⟩
  · rw [List.all_eq_true]
    intro y my
    obtain ⟨i, _, rfl⟩ := List.mem_map.mp my
    rfl
  · rw [if_pos rfl, e]
    exact q
theorem putK_keys7 {kvs : List (Key × V)} {k : Key} {v : V} : (putK kvs k v).map (·.1) = if (valV kvs k).isSome then kvs.map (·.1) else kvs.map (·.1) ++ [k] := by
  unfold putK
  rw [valV_any]
  split
  · rw [List.map_map]
    refine List.map_congr_left fun kv _ => ?_
    simp only [Function.comp_apply]
    split <;> rfl
  · rw [List.map_append]
    rfl
section
variable {K : PySem.W.Frag} {H : Hp} {Q : VK} {a b : Addr} {xs ys : List V}
theorem i_catA7 (ha : H a = some (.tup xs)) (hb : H b = some (.tup ys)) (hz : xs.length + ys.length ≤ 100000) (k : ∀ p H', H' p = some (.tup (xs ++ ys)) → Same H H' → Q (.ref p) H') : rCatA K (.ref a) (.ref b) H Q := by
  refine ⟨a, b, xs, ys, rfl, rfl, sqT ha, sqT hb, sz hz, fun e => ?_, fun _ e => ?_, fun _ _ p hp => k p _ upd_same (same_new hp)⟩
  · subst e
    exact k b H hb (Same.refl _)
  · subst e
    exact k a H (by rw [List.append_nil]; exact ha) (Same.refl _)
theorem i_slA7 {lo hi : Option Int} (ha : H a = some (.tup xs)) (k : ∀ p H', H' p = some (.tup (cutV xs lo hi)) → Same H H' → Q (.ref p) H') : rSlA K (.ref a) lo hi H Q := by
  refine ⟨a, xs, rfl, sqT ha, fun e => k a H ?_ (Same.refl _), fun _ p hp => k p _ upd_same (same_new hp)⟩
  rw [ha]
  unfold cutV
  rw [e.1, e.2, List.drop_zero, Nat.sub_zero, List.take_length]
end
theorem cut_to7 {xs : List V} {k : Int} (h0 : 0 ≤ k) : cutV xs none (some k) = xs.take k.toNat := by
  obtain ⟨n, rfl⟩ := Int.eq_ofNat_of_zero_le h0
  unfold cutV
  rw [HT.sIx_none, HT.sIx_nat, List.drop_zero, Nat.sub_zero, Int.toNat_natCast, List.take_eq_take_iff]
  omega
theorem cut_from7 {xs : List V} {k : Int} (h0 : 0 ≤ k) : cutV xs (some k) none = xs.drop k.toNat := by
  obtain ⟨n, rfl⟩ := Int.eq_ofNat_of_zero_le h0
  unfold cutV
  rw [HT.sIx_none, HT.sIx_nat, Int.toNat_natCast, List.take_of_length_le (by rw [List.length_drop]; omega)]
  by_cases h : n ≤ xs.length
  · rw [Nat.min_eq_left h]
  · rw [Nat.min_eq_right (by omega), List.drop_length, List.drop_eq_nil_of_le (by omega)]
instance s_sl7 {r : V → Option Int → Option Int → Hp → VK → Prop} {te : TE} {tl th : TO} {σ : St} {H : Hp} {Q : VK} : Stp (tSl r te tl th σ H Q) (te σ H fun x H1 => tl σ H1 fun l H2 => th σ H2 fun u H3 => r x l u H3 Q) := ⟨fun h => h⟩
instance s_nopart7 {σ : St} {H : Hp} {Q : Option Int → Hp → Prop} : Stp (tNoPart σ H Q) (Q none H) := ⟨fun h => h⟩
instance s_part7 {t : TE} {σ : St} {H : Hp} {Q : Option Int → Hp → Prop} : Stp (tPart t σ H Q) (t σ H fun x H1 => ∃ i, x = .int i ∧ Q (some i) H1) := ⟨fun h => h⟩
theorem i_slL7 {K : PySem.W.Frag} {H : Hp} {Q : VK} {a : Addr} {xs : List V} {lo hi : Option Int} (h : SqL K H a xs) (q : ∀ p, H p = none → Q (.ref p) (upd H p (.lst (cutV xs lo hi)))) : rSlL K (.ref a) lo hi H Q := ⟨a, xs, rfl, h, q⟩
theorem depL_ints7 : ∀ l : List Int, Dt.depL (l.map Dt.int) = 0
  | [] => rfl
  | x :: r => by
    rw [List.map_cons, Dt.depL, depL_ints7 r]
    rfl
theorem okL_ints7 : ∀ l : List Int, Dt.okL (l.map Dt.int) = true
  | [] => rfl
  | x :: r => by
    rw [List.map_cons, Dt.okL, okL_ints7 r]
    rfl
/-! ## K07a -/
local macro_rules | `(tactic| kbj_are) => `(tactic| (with_reducible refine q_len ?_; with_reducible refine i_lenT (sqT (by assumption)) ?_))
/-! ### k07: places of any row; what lies in them -/
def sp_places_init7 (K : PySem.W.Frag) (c : Cl) : Sp := fun vs H Q _ => ∃ (x dx r : Addr) (xs : List V) (ps : List PR), vs = [.ref x, .ref r] ∧ H x = some (.ins c.k_Places dx []) ∧ H r = some (.lst xs) ∧ Prs H xs ps ∧ OkS ps ∧ ps.length ≤ 20000 ∧ PlK K c ∧
  ∀ rs H', PlO c H' x rs → RunsL rs → (∀ y, inSp rs y ↔ inSp ps y) → rs.length ≤ ps.length → Out [x] H H' → Q .non H'
theorem pure_places_init7 {K : PySem.W.Frag} {c : Cl} {vs : List V} {H : Hp} {Q : VK} {E : XK} (h : sp_places_init7 K c vs H Q E) : t_c_Places_init K c E { nx := fun _ H' => Q .non H', rt := Q } (start N_c_Places_init vs) H := by
  obtain ⟨x, dx, r, xs, l, rfl, hx, hr, hp, ha, hl, R, k⟩ := h
  unfold t_c_Places_init
  fold_lay
  refine ⟨.ref r, .ref c.k_Merged, .type "list", .ref c.k_Merged, false, rfl, .own _, .base (.lst hr), R.nm, ?_⟩
  fold_lay
  fold_depth
  rename_i tp htp
  refine ⟨.ref r, tp, [.ty "list", .ty "tuple"], .type "list", [.type "list", .type "tuple"], true, rfl, upd_same, .cons (.ty _) (.cons (.ty _) .nil), .base (.lst (upd_keep htp hr)), by rfl, ?_⟩
  have xl : xs.length = l.length := hp.len
  fold_lay
  refine i_no (by omega) ?_
  have s1 := same_new (o := .tup [.ty "list", .ty "tuple"]) htp
  generalize upd H tp (.tup [.ty "list", .ty "tuple"]) = H1 at s1
  fold_lay
  fold_depth
  refine c_lst (sqL (s1 _ _ hr)) (m_lst (xs := xs) (fun D i H' => Same H1 H' ∧ H1 D = none ∧ H' D = some (.lst (List.replicate i (.bl true)))) ?_ ?_ ?_ ?_)
  · exact fun D hD => ⟨same_new hD, hD, upd_same⟩
  · exact fun D i H' _ h => sqL (h.1 _ _ (s1 _ _ hr))
  · rintro D i x' H' hx' ⟨s2, s3, s4⟩
    obtain ⟨p, t, ep, rfl, ht⟩ := hp.at hx'
    obtain ⟨p1, p2, p3⟩ := ha p (List.mem_of_getElem? ep)
    have il : i < xs.length := (List.getElem?_eq_some_iff.mp hx').1
    fold_lay
    refine ⟨rfl, ?_⟩
    fold_lay
    refine c_is_span (d := spanD p.1 p.2) (.tup (s2 _ _ (s1 _ _ ht)) (.cons (.int _) (.cons (.int _) .nil))) ?_
    have e : isSpan (spanD p.1 p.2) = true := okS_iff.mpr ⟨p1, p2, by omega⟩
    rw [e]
    refine ⟨_, s4, szl (by rw [List.length_replicate]; omega), same_step s3 s2, s3, ?_⟩
    rw [upd_same, List.replicate_succ']
  rintro D H2 ⟨s2, s3, s4⟩
  fold_lay
  refine i_all s4 ?_
  fold_lay
  have s2' := s1.trans s2
  refine ⟨r, xs, l, rfl, s2' _ _ hr, hp.mono s2', by omega, fun qs f fs H3 pq sq hf hfs hf0 s5 => ?_⟩
  obtain ⟨j1, j2, j3⟩ := joined_runs ha pq sq
  refine ⟨f, fs, rfl, .inl ⟨sqL hf, fun u hu => ?_⟩⟩
  fold_lay
  refine ⟨x, c.k_Places, dx, [], rfl, upd_keep hu (s5 _ _ (s2' _ _ hx)), R.cl, R.na, by simp, ?_⟩
  have hu3 : u ≠ x := ne_of_none' (s5 _ _ (s2' _ _ hx)) hu
  refine k _ _ ⟨dx, u, fs, upd_same, upd_off hu3 upd_same, ?_⟩ j1 j2 j3 ?_
  · exact (hfs.mono (same_new hu)).ins (upd_keep hu (s5 _ _ (s2' _ _ hx)))
  · exact fun y o n e => upd_off (by simpa using n) (upd_keep hu (s5 _ _ (s2' _ _ e)))
def sp_span_from (K : PySem.W.Frag) : Sp := fun vs H Q _ => ∃ (a : Addr) (fs : List V) (ps : List PR) (p : Int), vs = [.ref a, .int p] ∧ H a = some (.tup fs) ∧ Prs H fs ps ∧ ps.Pairwise (fun x y => x.1 < y.1) ∧ ps.length ≤ 100000 ∧
  ((∀ q ∈ ps, p < q.1) → Q .non H) ∧ (∀ q t, q ∈ ps → H t = some (.tup [.int q.1, .int q.2]) → q.1 ≤ p → (∀ r ∈ ps, r.1 ≤ p → r.1 ≤ q.1) → Q (.ref t) H)
def N_p_span_from : List Str := ["rows", "place", "low", "high", "middle"]
def t_p_span_from (K : PySem.W.Frag) : TS := (tSeq (tAsg (tC (.int 0)) (gName 2))
  (tSeq (tAsg (tCB (rLen K) (tCons (tVar 0) tNil)) (gName 3))
  (tSeq (tWhile (tTest (tOp oLt (tVar 2) (tVar 3))) (tSeq (tAsg (tOp oDiv (tOp oAdd (tVar 2) (tVar 3)) (tC (.int 2))) (gName 4))
  (tIfS (tTest (tOp oLe (tOp (rIxT K) (tOp (rIxT K) (tVar 0) (tVar 4)) (tC (.int 0))) (tVar 1))) (tAsg (tOp oAdd (tVar 4) (tC (.int 1))) (gName 2)) (tAsg (tVar 4) (gName 3)))))
  (tSeq (tIfS (tTest (tOp rEq (tVar 2) (tC (.int 0)))) (tRet (tC .non)) tNext)
  (tRet (tOp (rIxT K) (tVar 0) (tOp oSub (tVar 2) (tC (.int 1)))))))))
theorem pure_span_from {K : PySem.W.Frag} {vs : List V} {H : Hp} {Q : VK} {E : XK} (h : sp_span_from K vs H Q E) : t_p_span_from K { nx := fun _ H' => Q .non H', rt := Q } (start N_p_span_from vs) H := by
  obtain ⟨a, fs, ps, p, rfl, ha, hp, asc, zl, kN, kS⟩ := h
  have fl := hp.len
  show t_p_span_from K _ [some (.ref a), some (.int p), none, none, none] H
  unfold t_p_span_from
  fold_lay
  refine i_cut (fun σ' H' => H' = H ∧ ∃ (lo : Nat) (y : Option V), lo ≤ ps.length ∧ (∀ j q, j < lo → ps[j]? = some q → q.1 ≤ p) ∧ (∀ j q, lo ≤ j → ps[j]? = some q → p < q.1) ∧ σ' = [some (.ref a), some (.int p), some (.int lo), some (.int lo), y]) ?_ (fun nx key => ?_)
  rotate_left
  · refine l_while (m := ps.length) (fun m σ' H' => H' = H ∧ ∃ (lo hi : Nat) (y : Option V), lo + m = hi ∧ hi ≤ ps.length ∧ (∀ j q, j < lo → ps[j]? = some q → q.1 ≤ p) ∧ (∀ j q, hi ≤ j → ps[j]? = some q → p < q.1) ∧ σ' = [some (.ref a), some (.int p), some (.int lo), some (.int hi), y]) ⟨rfl, 0, ps.length, _, by omega, Nat.le_refl _, (fun j q h _ => absurd h (Nat.not_lt_zero _)), (fun j q h e => by rw [List.getElem?_eq_none h] at e; cases e), by rw [← fl]; rfl⟩ ?_
    rintro m σ' H' ⟨rfl, lo, hi, y, e1, e2, e3, e4, rfl⟩
    fold_lay
    refine i_ifd (fun g => ?_) (fun g => ?_)
    · refine i_turn ?_
      have cd : CDivW ((lo : Int) + hi) 2 := cdiv (by omega) (by omega)
      fold_lay
      obtain ⟨md, em⟩ : ∃ md : Nat, ((lo : Int) + hi) / 2 = md ∧ lo ≤ md ∧ md < hi := ⟨(((lo : Int) + hi) / 2).toNat, by omega, by omega, by omega⟩
      obtain ⟨em, em1, em2⟩ := em
      rw [em]
      obtain ⟨q, eq⟩ : ∃ q, ps[md]? = some q := ⟨_, List.getElem?_eq_getElem (by omega)⟩
      obtain ⟨v, ev⟩ : ∃ v, fs[md]? = some v := ⟨_, List.getElem?_eq_getElem (by omega)⟩
      obtain ⟨q', t, eq', rfl, ht⟩ := hp.at ev
      obtain rfl : q = q' := Option.some.inj (eq.symm.trans eq')
      refine i_ixT (sqT ha) (at_of (j := md) (by omega) ev) ?_
      fold_lay
      have mono : ∀ j q2, ps[j]? = some q2 → (j ≤ md → q2.1 ≤ q.1) ∧ (md ≤ j → q.1 ≤ q2.1) := fun j q2 e => by
        obtain ⟨h1, h2⟩ := List.getElem?_eq_some_iff.mp e
        obtain ⟨h3, h4⟩ := List.getElem?_eq_some_iff.mp eq
        have pw := List.pairwise_iff_getElem.mp asc
        constructor
        · intro l
          rcases Nat.lt_or_eq_of_le l with l | l
          · have := pw j md h1 h3 l
            rw [h2, h4] at this
            omega
          · subst l
            rw [e] at eq
            rw [Option.some.inj eq]
            exact Int.le_refl _
        · intro l
          rcases Nat.lt_or_eq_of_le l with l | l
          · have := pw md j h3 h1 l
            rw [h2, h4] at this
            omega
          · subst l
            rw [e] at eq
            rw [Option.some.inj eq]
            exact Int.le_refl _
      refine i_ifd (fun g2 => ?_) (fun g2 => ?_)
      · fold_lay
        refine ⟨hi - (md + 1), by omega, rfl, md + 1, hi, _, by omega, e2, fun j q2 l e => ?_, e4, by rw [show ((md + 1 : Nat) : Int) = (md : Int) + 1 by omega]; rfl⟩
        have := (mono j q2 e).1 (by omega)
        omega
      · fold_lay
        refine ⟨md - lo, by omega, rfl, lo, md, _, by omega, by omega, e3, fun j q2 l e => ?_, rfl⟩
        have := (mono j q2 e).2 l
        omega
    · have : lo = hi := by omega
      subst this
      exact key _ _ ⟨rfl, lo, _, e2, e3, e4, rfl⟩
  rintro σ' H' ⟨rfl, lo, y, l1, e3, e4, rfl⟩
  fold_lay
  fold_depth
  refine i_ifd (fun g => ?_) (fun g => ?_)
  · fold_lay
    refine kN fun q m => ?_
    obtain ⟨j, hj, e⟩ := List.getElem_of_mem m
    exact e4 j q (by omega) (by rw [List.getElem?_eq_getElem hj, e])
  · fold_lay
    obtain ⟨v, ev⟩ : ∃ v, fs[lo - 1]? = some v := ⟨_, List.getElem?_eq_getElem (by omega)⟩
    obtain ⟨q, t, eq, rfl, ht⟩ := hp.at ev
    refine i_ixT (sqT ha) (at_of (j := lo - 1) (by omega) ev) ?_
    refine kS q t (List.mem_of_getElem? eq) ht (e3 (lo - 1) q (by omega) eq) fun r m l => ?_
    obtain ⟨j, hj, e⟩ := List.getElem_of_mem m
    have ej : ps[j]? = some r := by rw [List.getElem?_eq_getElem hj, e]
    have jl : j < lo := Classical.byContradiction fun z => by
      have := e4 j r (by omega) ej
      omega
    obtain ⟨h3, h4⟩ := List.getElem?_eq_some_iff.mp eq
    rcases Nat.lt_or_eq_of_le (show j ≤ lo - 1 by omega) with z | z
    · have := List.pairwise_iff_getElem.mp asc j (lo - 1) hj h3 z
      rw [e, h4] at this
      omega
    · subst z
      rw [ej] at eq
      rw [Option.some.inj eq]
      exact Int.le_refl _
def sp_contains (K : PySem.W.Frag) (c : Cl) : Sp := fun vs H Q _ => ∃ (g : Addr) (v : V) (n : String) (ps : List PR), vs = [.ref g, v] ∧ PlO c H g ps ∧ PlK K c ∧ RunsL ps ∧ ps.length ≤ 100000 ∧ Ty0 H v n ∧ ∀ b : Bool, (b = true ↔ ∃ i, v = .int i ∧ inSp ps i) → Q (.bl b) H
def N_c_Places_contains : List Str := ["self", "place", "span"]
def t_c_Places_contains (K : PySem.W.Frag) : TS := (tSeq (tIfS (tNot (tB (tCall (sp_is_whole K) [] E0 (tCons (tVar 1) tNil)))) (tRet (tC (.bl false))) tNext)
  (tSeq (tAsg (tCall (sp_span_from K) [] E0 (tCons (tFld K (tVar 0) "parts") (tCons (tVar 1) tNil))) (gName 2))
  (tRet (tAndV (tOp oNotN (tVar 2) (tC .non)) (tOp oLt (tVar 1) (tOp oAdd (tOp (rIxT K) (tVar 2) (tC (.int 0))) (tOp (rIxT K) (tVar 2) (tC (.int 1)))))))))
theorem pure_contains {K : PySem.W.Frag} {c : Cl} {vs : List V} {H : Hp} {Q : VK} {E : XK} (h : sp_contains K c vs H Q E) : t_c_Places_contains K { nx := fun _ H' => Q .non H', rt := Q } (start N_c_Places_contains vs) H := by
  obtain ⟨g, v, n, ps, rfl, hP, R, rn, zl, hv, k⟩ := h
  obtain ⟨dx, tp, fs, h1, h2, h3⟩ := hP.ex
  show t_c_Places_contains K _ [some (.ref g), some v, none] H
  unfold t_c_Places_contains
  fold_lay
  fold_depth
  refine c_is_whole hv ?_
  fold_lay
  refine i_ifb (fun z => ?_) (fun z => ?_)
  · fold_lay
    refine k false ⟨fun z => (by cases z), ?_⟩
    rintro ⟨i, rfl, _⟩
    cases z
  obtain ⟨p, rfl⟩ : ∃ p, v = .int p := by
    cases v <;> first | exact ⟨_, rfl⟩ | cases z
  fold_lay
  refine ⟨g, c.k_Places, dx, _, .ref tp, rfl, h1, R.cl, R.na, rfl, ?_⟩
  fold_lay
  refine ⟨tp, fs, ps, p, rfl, h2, h3, rn.ap.imp_of_mem (fun {x y} mx _ l => by have := (rn.ok x mx).2.1; omega), zl, fun no => ?_, fun q t mq ht lq mx => ?_⟩
  · fold_lay
    refine k false ⟨fun z => (by cases z), ?_⟩
    rintro ⟨i, e, q, mq, hq, _⟩
    cases e
    have := no q mq
    omega
  · fold_lay
    rw [if_pos (show (!decide (V.ref t = V.non)) = true by simp)]
    fold_lay
    refine k _ ?_
    rw [decide_eq_true_eq]
    constructor
    · intro l
      exact ⟨p, rfl, q, mq, lq, l⟩
    · rintro ⟨i, e, r, mr, r1, r2⟩
      cases e
      have := mx r mr r1
      by_cases same : r = q
      · rw [← same]
        exact r2
      · obtain ⟨i, hi, ei⟩ := List.getElem_of_mem mr
        obtain ⟨j, hj, ej⟩ := List.getElem_of_mem mq
        have pw := List.pairwise_iff_getElem.mp rn.ap
        rcases Nat.lt_trichotomy i j with l | l | l
        · have := pw i j hi hj l
          rw [ei, ej] at this
          omega
        · subst l
          exact absurd (ei.symm.trans ej) same
        · have := pw j i hj hi l
          rw [ei, ej] at this
          have := (rn.ok q mq).2.1
          omega
def sp_check_range7 (K : PySem.W.Frag) : Sp := fun vs H Q _ => ∃ (lo hi z : Int), vs = [.int lo, .int hi, .int z] ∧ 0 ≤ lo ∧ lo ≤ hi ∧ hi ≤ 20000 ∧ 1 ≤ z ∧ z ≤ 20000 ∧ Q .non H
def N_p_check_range : List Str := ["low", "high", "size"]
def t_p_check_range (K : PySem.W.Frag) : TS := (tSeq (tIfS (tNot (tB (tCall (sp_whole_between K) [] E0 (tCons (tVar 0) (tCons (tC (.int 0)) (tCons (tC (.int 20000)) tNil)))))) tNever tNext)
  (tSeq (tIfS (tNot (tB (tCall (sp_whole_between K) [] E0 (tCons (tVar 1) (tCons (tVar 0) (tCons (tC (.int 20000)) tNil)))))) tNever tNext)
  (tIfS (tNot (tB (tCall (sp_whole_between K) [] E0 (tCons (tVar 2) (tCons (tC (.int 1)) (tCons (tC (.int 20000)) tNil)))))) tNever tNext)))
theorem vR_yes7 {lo hi i : Int} (h1 : lo ≤ i) (h2 : i ≤ hi) : vR lo hi (.int i) = true := by
  show (decide (lo ≤ i) && decide (i ≤ hi)) = true
  rw [decide_eq_true h1, decide_eq_true h2]
  rfl
theorem pure_check_range7 {K : PySem.W.Frag} {vs : List V} {H : Hp} {Q : VK} {E : XK} (h : sp_check_range7 K vs H Q E) : t_p_check_range K { nx := fun _ H' => Q .non H', rt := Q } (start N_p_check_range vs) H := by
  obtain ⟨lo, hi, z, rfl, h1, h2, h3, h4, h5, k⟩ := h
  unfold t_p_check_range
  fold_lay
  fold_depth
  refine c_whole_between (.int _) ?_
  rw [vR_yes7 h1 (by omega)]
  fold_lay
  fold_depth
  refine c_whole_between (.int _) ?_
  rw [vR_yes7 h2 h3]
  fold_lay
  refine c_whole_between (.int _) ?_
  rw [vR_yes7 h4 h5]
  fold_lay
  exact k
def sp_check_align7 (K : PySem.W.Frag) : Sp := fun vs H Q _ => ∃ (al : Int), vs = [.int al] ∧ (∃ k : Nat, al = 2 ^ k) ∧ al ≤ 16384 ∧ Q .non H
def N_p_check_align7 : List Str := ["align"]
def t_p_check_align7 (K : PySem.W.Frag) : TS := (tIfS (tNot (tB (tCall (sp_is_align K) [] E0 (tCons (tVar 0) (tCons (tC (.int 16384)) tNil))))) tNever tNext)
theorem pure_check_align7 {K : PySem.W.Frag} {vs : List V} {H : Hp} {Q : VK} {E : XK} (h : sp_check_align7 K vs H Q E) : t_p_check_align7 K { nx := fun _ H' => Q .non H', rt := Q } (start N_p_check_align7 vs) H := by
  obtain ⟨al, rfl, h1, h2, k⟩ := h
  unfold t_p_check_align7
  fold_lay
  refine c_is_align (.int _) ?_
  rw [vA_yes h1 h2]
  fold_lay
  exact k
def sp_check_held7 (K : PySem.W.Frag) (c : Cl) : Sp := fun vs H Q _ => ∃ (g : Addr) (ps : List PR), vs = [.ref g] ∧ PlO c H g ps ∧ PlK K c ∧ Q .non H
def N_p_check_held : List Str := ["held"]
def t_p_check_held (K : PySem.W.Frag) (c : Cl) : TS := (tIfS (tNot (tB (tCB (rIsi K) (tCons (tVar 0) (tCons (tC (.ref c.k_Places)) tNil))))) tNever tNext)
theorem pure_check_held7 {K : PySem.W.Frag} {c : Cl} {vs : List V} {H : Hp} {Q : VK} {E : XK} (h : sp_check_held7 K c vs H Q E) : t_p_check_held K c { nx := fun _ H' => Q .non H', rt := Q } (start N_p_check_held vs) H := by
  obtain ⟨g, ps, rfl, hP, P, k⟩ := h
  obtain ⟨dx, tp, fs, g1, g2, g3⟩ := hP.ex
  unfold t_p_check_held
  fold_lay
  refine ⟨.ref g, .ref c.k_Places, .ref c.k_Places, .ref c.k_Places, true, rfl, .own _, .base (.ins g1 P.cl P.ha P.hn P.ht P.hm), P.pp, ?_⟩
  fold_lay
  exact k
/-- the aligned starts of a range -/
def upA (n m : Int) : Int := (n + m - 1) / m * m
def cntA (lo hi z al : Int) : Nat := if upA lo al < hi - z + 1 then ((hi - z + 1 - upA lo al - 1) / al + 1).toNat else 0
def stA (lo hi z al : Int) : List Int := rgC (upA lo al) al (cntA lo hi z al)
theorem upA_is {n m : Int} (h0 : 0 ≤ n) (h1 : 1 ≤ m) : n ≤ upA n m ∧ upA n m < n + m := by
  unfold upA
  have e := Int.emod_add_mul_ediv (n + m - 1) m
  have b1 := Int.emod_nonneg (n + m - 1) (show m ≠ 0 by omega)
  have b2 := Int.emod_lt_of_pos (n + m - 1) (show 0 < m by omega)
  rw [Int.mul_comm] at e
  generalize (n + m - 1) / m * m = x at *
  omega
theorem cnt_rg {lo hi z al : Int} (h0 : 0 ≤ lo) (h1 : hi ≤ 20000) (h2 : 1 ≤ al) (h3 : al ≤ 16384) (h4 : 1 ≤ z) (h5 : z ≤ 20000) (h6 : lo ≤ 20000) (h7 : -20000 ≤ hi) : RgC (upA lo al) (hi - z + 1) al (cntA lo hi z al) ∧ cntA lo hi z al ≤ 20001 := by
  obtain ⟨u1, u2⟩ := upA_is h0 h2
  have q : ∀ x : Int, 0 ≤ x → x ≤ 20000 → 0 ≤ x / al ∧ x / al ≤ 20000 := fun x a b => by
    refine ⟨Int.ediv_nonneg a (by omega), ?_⟩
    have := Int.ediv_le_self al a
    omega
  have rs : Builtin.Range.rangeSize (upA lo al) (hi - z + 1) al = ((cntA lo hi z al : Nat) : Int) := by
    unfold Builtin.Range.rangeSize cntA
    rw [if_pos (by omega)]
    by_cases c : upA lo al < hi - z + 1
    · rw [if_pos c, if_pos c]
      have := q (hi - z + 1 - upA lo al - 1) (by omega) (by omega)
      omega
    · rw [if_neg c, if_neg c]
      rfl
  have cl : cntA lo hi z al ≤ 20001 := by
    unfold cntA
    by_cases c : upA lo al < hi - z + 1
    · rw [if_pos c]
      have := q (hi - z + 1 - upA lo al - 1) (by omega) (by omega)
      omega
    · rw [if_neg c]
      omega
  refine ⟨⟨by omega, by omega, ?_, rs⟩, cl⟩
  unfold Builtin.Range.small
  rw [rs]
  simp only [Builtin.Range.rangeFitsLong, Bool.and_eq_true, Bool.or_eq_true, decide_eq_true_eq, beq_iff_eq, if_pos (show al > 0 by omega)]
  refine ⟨⟨⟨⟨?_, ?_⟩, ?_⟩, ?_⟩, ?_⟩ <;> omega
def sp_windows7 (K : PySem.W.Frag) : Sp := fun vs H Q _ => ∃ (lo hi z al : Int), vs = [.int lo, .int hi, .int z, .int al] ∧ 0 ≤ lo ∧ lo ≤ hi ∧ hi ≤ 20000 ∧ 1 ≤ z ∧ z ≤ 20000 ∧ (∃ k : Nat, al = 2 ^ k) ∧ al ≤ 16384 ∧ ∀ q, H q = none → Q (.ref q) (upd H q (.lst ((stA lo hi z al).map V.int)))
theorem pow1 {al : Int} (h : ∃ k : Nat, al = 2 ^ k) : 1 ≤ al := by
  obtain ⟨k, rfl⟩ := h
  have := Int.pow_pos (n := 2) (m := k) (by omega)
  omega
def N_p_windows : List Str := ["low", "high", "size", "align"]
def t_p_windows (K : PySem.W.Frag) : TS := (tSeq (tDrop (tCall (sp_check_range7 K) [] E0 (tCons (tVar 0) (tCons (tVar 1) (tCons (tVar 2) tNil)))))
  (tSeq (tDrop (tCall (sp_check_align7 K) [] E0 (tCons (tVar 3) tNil)))
  (tRet (tLstRg3 (tCons (tCall sp_align_up [] E0 (tCons (tVar 0) (tCons (tVar 3) tNil))) (tCons (tOp oAdd (tOp oSub (tVar 1) (tVar 2)) (tC (.int 1))) (tCons (tVar 3) tNil)))))))
theorem pure_windows7 {K : PySem.W.Frag} {vs : List V} {H : Hp} {Q : VK} {E : XK} (h : sp_windows7 K vs H Q E) : t_p_windows K { nx := fun _ H' => Q .non H', rt := Q } (start N_p_windows vs) H := by
  obtain ⟨lo, hi, z, al, rfl, h1, h2, h3, h4, h5, h6, h7, k⟩ := h
  unfold t_p_windows
  fold_lay
  refine ⟨lo, hi, z, rfl, h1, h2, h3, h4, h5, ?_⟩
  fold_lay
  refine ⟨al, rfl, h6, h7, ?_⟩
  fold_lay
  refine c_align_up h1 (by omega) h6 (by omega) ?_
  fold_lay
  obtain ⟨r1, r2⟩ := cnt_rg h1 h3 (pow1 h6) h7 h4 h5 (by omega) (by omega)
  exact ⟨_, _, _, _, rfl, r1, by omega, k⟩
/-! ## K07b -/
local macro_rules | `(tactic| kbj_are) => `(tactic| (with_reducible refine q_len ?_; with_reducible refine i_lenT (sqT (by assumption)) ?_))
def sp_least7 (K : PySem.W.Frag) (c : Cl) : Sp := fun vs H Q _ => ∃ (lo hi z al : Int) (g : Addr) (rs : List PR) (held : List Int), vs = [.int lo, .int hi, .int z, .ref g, .int al] ∧ 0 ≤ lo ∧ lo ≤ hi ∧ hi ≤ 20000 ∧ 1 ≤ z ∧ z ≤ 20000 ∧ (∃ k : Nat, al = 2 ^ k) ∧ al ≤ 16384 ∧ PlO c H g rs ∧ PlK K c ∧ RunsL rs ∧ rs.length ≤ 100000 ∧ (∀ x, x ∈ held ↔ inSp rs x) ∧
  (gre held z (-1) (stA lo hi z al) [] = none → ∀ H', Same H H' → Q .non H') ∧ (∀ cov, gre held z (-1) (stA lo hi z al) [] = some cov → ∀ q H', Same H H' → H q = none → H' q = some (.tup (cov.map V.int)) → Q (.ref q) H')
def N_p_least_cover : List Str := ["low", "high", "size", "held", "align", "spans", "at", "last", "found", "start", "end"]
def t_p_least_cover (K : PySem.W.Frag) (c : Cl) : TS := (tSeq (tDrop (tCall (sp_check_range7 K) [] E0 (tCons (tVar 0) (tCons (tVar 1) (tCons (tVar 2) tNil)))))
  (tSeq (tDrop (tCall (sp_check_held7 K c) [] E0 (tCons (tVar 3) tNil)))
  (tSeq (tDrop (tCall (sp_check_align7 K) [] E0 (tCons (tVar 4) tNil)))
  (tSeq (tAsg (tProp c.k_Places (sp_pspans K c) [] E0 (tVar 3)) (gName 5))
  (tSeq (tAsg (tC (.int 0)) (gName 6))
  (tSeq (tAsg (tUn oNeg (tC (.int 1))) (gName 7))
  (tSeq (tAsg (tLst tNil) (gName 8))
  (tSeq (tFor (iList K (tCallN 3 1 (sp_windows7 K) gv_all E0 (tCons (tVar 0) (tCons (tVar 1) (tCons (tVar 2) tNil))) (tCons (tVar 4) tNil))) (gName 9) (tSeq (tIfS (tTest (tOp oGe (tVar 7) (tVar 9))) tCont tNext)
  (tSeq (tAsg (tOp oAdd (tVar 9) (tVar 2)) (gName 10))
  (tSeq (tWhile (tAnd (tTest (tOp oLt (tVar 6) (tCB (rLen K) (tCons (tVar 5) tNil)))) (tTest (tOp oLt (tOp (rIxT K) (tOp (rIxL K) (tVar 5) (tVar 6)) (tC (.int 0))) (tVar 10)))) (tAug 6 (tC (.int 1)) (ipI fun i j => i + j)))
  (tSeq (tIfS (tTest (tOp oGt (tVar 6) (tC (.int 0)))) (tAsg (tOp oSub (tCB rMin2 (tCons (tOp oAdd (tOp (rIxT K) (tOp (rIxL K) (tVar 5) (tOp oSub (tVar 6) (tC (.int 1)))) (tC (.int 0))) (tOp (rIxT K) (tOp (rIxL K) (tVar 5) (tOp oSub (tVar 6) (tC (.int 1)))) (tC (.int 1)))) (tCons (tVar 10) tNil))) (tC (.int 1))) (gName 7)) tNext)
  (tSeq (tIfS (tTest (tOp oLt (tVar 7) (tVar 9))) (tRet (tC .non)) tNext)
  (tDrop (tBM K "list" rAppend (tVar 8) (tCons (tVar 7) tNil)))))))))
  (tRet (tCB (rTupleOf K) (tCons (tVar 8) tNil)))))))))))
theorem gb_at {rs : List PR} {held : List Int} {e : Int} {n : Nat} {q : PR} (rn : RunsL rs) (hh : ∀ x, x ∈ held ↔ inSp rs x) (hq : rs[n]? = some q) (l : q.1 < e) (up : ∀ (j : Nat) (r : PR), n < j → rs[j]? = some r → e ≤ r.1) : gb held e = (if q.1 + q.2 < e then q.1 + q.2 else e) - 1 := by
  have p0 : ∀ x ∈ held, 0 ≤ x := fun x m => by
    obtain ⟨r, mr, a, b⟩ := (hh x).mp m
    have := (rn.ok r mr).1
    omega
  have mq := List.mem_of_getElem? hq
  have ok := rn.ok q mq
  refine IsGb.uniq (P := fun x => x ∈ held) p0 (gb_is p0) ⟨.inr ⟨(hh _).mpr ⟨q, mq, ?_, ?_⟩, ?_, fun x m le => ?_⟩⟩
  · split <;> omega
  · split <;> omega
  · split <;> omega
  · obtain ⟨r, mr, a, b⟩ := (hh x).mp m
    obtain ⟨i, hi, ei⟩ := List.getElem_of_mem mr
    obtain ⟨hj, ej⟩ := List.getElem?_eq_some_iff.mp hq
    rcases Nat.lt_trichotomy i n with c | c | c
    · have := List.pairwise_iff_getElem.mp rn.ap i n hi hj c
      rw [ei, ej] at this
      split <;> omega
    · subst c
      obtain rfl : r = q := ei.symm.trans ej
      split <;> omega
    · have := up i r c (by rw [List.getElem?_eq_getElem hi, ei])
      omega
theorem gb_no {rs : List PR} {held : List Int} {e : Int} (rn : RunsL rs) (hh : ∀ x, x ∈ held ↔ inSp rs x) (up : ∀ (j : Nat) (r : PR), rs[j]? = some r → e ≤ r.1) : gb held e = -1 := by
  have p0 : ∀ x ∈ held, 0 ≤ x := fun x m => by
    obtain ⟨r, mr, a, b⟩ := (hh x).mp m
    have := (rn.ok r mr).1
    omega
  refine IsGb.uniq (P := fun x => x ∈ held) p0 (gb_is p0) ⟨.inl ⟨rfl, fun x m => ?_⟩⟩
  obtain ⟨r, mr, a, b⟩ := (hh x).mp m
  obtain ⟨i, hi, ei⟩ := List.getElem_of_mem mr
  have := up i r (by rw [List.getElem?_eq_getElem hi, ei])
  omega
theorem rgC_get {i c : Int} {n j : Nat} (h : j < n) : (rgC i c n)[j]? = some (i + (j : Nat) * c) := by
  unfold rgC
  rw [List.getElem?_map, List.getElem?_range h]
  rfl
theorem rgC_len {i c : Int} {n : Nat} : (rgC i c n).length = n := by
  unfold rgC
  rw [List.length_map, List.length_range]
theorem st_pw {lo hi z al : Int} (h : 1 ≤ al) : (stA lo hi z al).Pairwise (· < ·) := by
  unfold stA rgC
  refine List.pairwise_map.mpr (List.Pairwise.imp (fun {a b} l => ?_) List.pairwise_lt_range)
  have := Int.mul_lt_mul_of_pos_right (show (a : Int) < b by omega) (show 0 < al by omega)
  omega
theorem st_mem {lo hi z al x : Int} (h0 : 0 ≤ lo) (h : 1 ≤ al) (m : x ∈ stA lo hi z al) : lo ≤ x ∧ x + z ≤ hi := by
  obtain ⟨u1, u2⟩ := upA_is h0 h
  unfold stA rgC at m
  obtain ⟨j, mj, rfl⟩ := List.mem_map.mp m
  have jl := List.mem_range.mp mj
  unfold cntA at jl
  by_cases c : upA lo al < hi - z + 1
  · rw [if_pos c] at jl
    have a1 := Int.mul_le_mul_of_nonneg_right (show (j : Int) ≤ (hi - z + 1 - upA lo al - 1) / al by omega) (show 0 ≤ al by omega)
    have a2 := Int.ediv_mul_le (hi - z + 1 - upA lo al - 1) (show al ≠ 0 by omega)
    have a3 := Int.mul_nonneg (show 0 ≤ (j : Int) by omega) (show 0 ≤ al by omega)
    omega
  · rw [if_neg c] at jl
    omega
theorem pure_least7 {K : PySem.W.Frag} {c : Cl} {vs : List V} {H : Hp} {Q : VK} {E : XK} (h : sp_least7 K c vs H Q E) : t_p_least_cover K c { nx := fun _ H' => Q .non H', rt := Q } (start N_p_least_cover vs) H := by
  obtain ⟨lo, hi, z, al, g, rs, held, rfl, h1, h2, h3, h4, h5, h6, h7, hP, P, rn, rl, hh, kN, kS⟩ := h
  show t_p_least_cover K c _ [some (.int lo), some (.int hi), some (.int z), some (.ref g), some (.int al), none, none, none, none, none, none] H
  have al1 := pow1 h6
  unfold t_p_least_cover
  fold_lay
  refine ⟨lo, hi, z, rfl, h1, h2, h3, h4, h5, ?_⟩
  fold_lay
  refine ⟨g, rs, rfl, hP, P, ?_⟩
  fold_lay
  refine ⟨al, rfl, h6, h7, ?_⟩
  fold_lay
  obtain ⟨dx, tp, fs0, g1, g2, g3⟩ := hP.ex
  refine ⟨g, dx, _, rfl, g1, g, rs, rfl, hP, P, fun sp fs hsp hfs => ?_⟩
  have s1 := same_new (o := .lst fs) hsp
  have fl := hfs.len
  have hs0 : upd H sp (.lst fs) sp = some (.lst fs) := upd_same
  generalize upd H sp (.lst fs) = H1 at s1 hs0
  fold_lay
  rename_i f hf
  have s2 := same_new (o := .lst []) hf
  have hf0 : upd H1 f (.lst []) f = some (.lst []) := upd_same
  generalize upd H1 f (.lst []) = H2 at s2 hf0
  fold_lay
  fold_depth
  refine ⟨rfl, rfl, lo, hi, z, al, rfl, h1, h2, h3, h4, h5, h6, h7, fun w hw => ?_⟩
  have s3 := same_new (o := .lst ((stA lo hi z al).map V.int)) hw
  have nfw : w ≠ f := fun e => by rw [e, hf0] at hw; cases hw
  have s13 := s2.trans s3
  have hf1 := s3 _ _ hf0
  have hw1 : upd H2 w (.lst ((stA lo hi z al).map V.int)) w = some (.lst ((stA lo hi z al).map V.int)) := upd_same
  generalize upd H2 w (.lst ((stA lo hi z al).map V.int)) = H3 at s13 hf1 hw1
  obtain ⟨r1, r2⟩ := cnt_rg h1 h3 al1 h7 h4 h5 (by omega) (by omega)
  have sl : (stA lo hi z al).length ≤ 20001 := by unfold stA; rw [rgC_len]; exact r2
  have spw := st_pw (lo := lo) (hi := hi) (z := z) al1
  have smem := fun x => st_mem (lo := lo) (hi := hi) (z := z) (al := al) (x := x) h1 al1
  generalize stA lo hi z al = ss at *
  refine f_lst (sqL hw1) (l_lst (xs := ss.map V.int) (fun i σ' H' => Same H1 H' ∧ H' w = some (.lst (ss.map V.int)) ∧ ∃ (at_ : Nat) (last : Int) (acc : List Int) (y9 y10 : Option V), at_ ≤ rs.length ∧ H' f = some (.lst (acc.map V.int)) ∧ acc.length ≤ i ∧ gre held z (-1) ss [] = gre held z last (ss.drop i) acc ∧ (∀ (j : Nat) (r : PR), j < at_ → rs[j]? = some r → ∀ s ∈ ss.drop i, r.1 < s + z) ∧ (at_ = 0 → last = -1) ∧ -1 ≤ last ∧ last ≤ 1000000000 ∧ σ' = [some (.int lo), some (.int hi), some (.int z), some (.ref g), some (.int al), some (.ref sp), some (.int at_), some (.int last), some (.ref f), y9, y10]) ⟨s13, hw1, 0, -1, [], _, _, Nat.zero_le _, hf1, Nat.le_refl _, rfl, (fun j r l => absurd l (Nat.not_lt_zero _)), (fun _ => rfl), by omega, by omega, rfl⟩ (fun i σ' H' _ h => sqL h.2.1) ?_ ?_)
  · rintro i x σ' H4 hx ⟨t1, t2, at_, last, acc, y9, y10, a1, a2, a3, a4, a5, a6, a7, a8, rfl⟩
    obtain ⟨s, es, rfl⟩ : ∃ s, ss[i]? = some s ∧ x = .int s := by
      rw [List.getElem?_map] at hx
      obtain ⟨s, e, e2⟩ := Option.map_eq_some_iff.mp hx
      exact ⟨s, e, e2.symm⟩
    obtain ⟨il, ei⟩ := List.getElem?_eq_some_iff.mp es
    have dr : ss.drop i = s :: ss.drop (i + 1) := by rw [List.drop_eq_getElem_cons il, ei]
    have ms : s ∈ ss := List.mem_of_getElem? es
    obtain ⟨m1, m2⟩ := smem s ms
    have late : ∀ s' ∈ ss.drop (i + 1), s < s' := by
      have := spw.drop (i := i)
      rw [dr] at this
      exact (List.pairwise_cons.mp this).1
    rw [dr] at a4 a5
    fold_lay
    fold_depth
    refine i_ifd (fun c1 => ?_) (fun c1 => ?_)
    · fold_lay
      refine ⟨t1, t2, at_, last, acc, _, _, a1, a2, by omega, ?_, fun j r l e s' ms' => a5 j r l e s' (List.mem_cons_of_mem _ ms'), a6, a7, a8, rfl⟩
      rw [a4]
      conv => lhs; unfold gre
      rw [if_pos (by omega)]
    fold_lay
    have hf4 : Prs H4 fs rs := hfs.mono (s1.trans t1)
    have hs4 := t1 _ _ hs0
    have st1 : ∀ {a b : PR} {j k : Nat}, rs[j]? = some a → rs[k]? = some b → j < k → a.1 < b.1 := fun {a b j k} ea eb l => by
      obtain ⟨ha, ea⟩ := List.getElem?_eq_some_iff.mp ea
      obtain ⟨hb, eb⟩ := List.getElem?_eq_some_iff.mp eb
      have := List.pairwise_iff_getElem.mp rn.ap j k ha hb l
      have := (rn.ok a (by rw [← ea]; exact List.getElem_mem ha)).2.1
      rw [ea, eb] at *
      omega
    refine i_cut (fun σ' H' => H' = H4 ∧ ∃ (n : Nat), n ≤ rs.length ∧ (∀ (j : Nat) (r : PR), j < n → rs[j]? = some r → r.1 < s + z) ∧ (∀ (j : Nat) (r : PR), n ≤ j → rs[j]? = some r → s + z ≤ r.1) ∧ at_ ≤ n ∧ σ' = [some (.int lo), some (.int hi), some (.int z), some (.ref g), some (.int al), some (.ref sp), some (.int n), some (.int last), some (.ref f), some (.int s), some (.int (s + z))]) ?_ (fun nx key => ?_)
    rotate_left
    · refine l_while (m := rs.length - at_) (fun m σ' H' => H' = H4 ∧ ∃ (n : Nat), n + m = rs.length ∧ (∀ (j : Nat) (r : PR), j < n → rs[j]? = some r → r.1 < s + z) ∧ at_ ≤ n ∧ σ' = [some (.int lo), some (.int hi), some (.int z), some (.ref g), some (.int al), some (.ref sp), some (.int n), some (.int last), some (.ref f), some (.int s), some (.int (s + z))]) ⟨rfl, at_, by omega, fun j r l e => a5 j r l e s List.mem_cons_self, Nat.le_refl _, rfl⟩ ?_
      rintro m σ' H' ⟨rfl, n, e1, e2, e3, rfl⟩
      fold_lay
      refine i_ifd (fun e4 => ?_) (fun e4 => ?_)
      · obtain ⟨q, eq⟩ : ∃ q, rs[n]? = some q := ⟨_, List.getElem?_eq_getElem (by omega)⟩
        obtain ⟨v, ev⟩ : ∃ v, fs[n]? = some v := ⟨_, List.getElem?_eq_getElem (by omega)⟩
        obtain ⟨q', t, eq', rfl, ht⟩ := hf4.at ev
        obtain rfl : q = q' := Option.some.inj (eq.symm.trans eq')
        fold_lay
        refine i_ixL (sqL hs4) (at_of (j := n) (by omega) ev) ?_
        fold_lay
        refine i_ifd (fun e5 => ?_) (fun e5 => ?_)
        · refine i_turn ?_
          fold_lay
          refine ⟨m - 1, by omega, rfl, n + 1, by omega, fun j r l e => ?_, by omega, by rw [show ((n + 1 : Nat) : Int) = (n : Int) + 1 by omega]; rfl⟩
          rcases Nat.lt_or_eq_of_le (show j ≤ n by omega) with l | rfl
          · exact e2 j r l e
          · rw [eq] at e
            obtain rfl := Option.some.inj e
            exact e5
        · refine key _ _ ⟨rfl, n, by omega, e2, fun j r l e => ?_, e3, rfl⟩
          rcases Nat.lt_or_eq_of_le l with l | rfl
          · have := st1 eq e l
            omega
          · rw [eq] at e
            obtain rfl := Option.some.inj e
            omega
      · exact key _ _ ⟨rfl, n, by omega, e2, fun j r l e => absurd (List.getElem?_eq_some_iff.mp e).1 (by omega), e3, rfl⟩
    rintro σ' H' ⟨rfl, n, b1, b2, b3, b4, rfl⟩
    refine i_cut (fun σ' H2 => H2 = H' ∧ (n = 0 → gb held (s + z) = -1) ∧ -1 ≤ gb held (s + z) ∧ gb held (s + z) < s + z ∧ σ' = [some (.int lo), some (.int hi), some (.int z), some (.ref g), some (.int al), some (.ref sp), some (.int n), some (.int (gb held (s + z))), some (.ref f), some (.int s), some (.int (s + z))]) ?_ (fun nx key => ?_)
    rotate_left
    · fold_lay
      refine i_ifd (fun e4 => ?_) (fun e4 => ?_)
      · obtain ⟨q, eq⟩ : ∃ q, rs[n - 1]? = some q := ⟨_, List.getElem?_eq_getElem (by omega)⟩
        obtain ⟨v, ev⟩ : ∃ v, fs[n - 1]? = some v := ⟨_, List.getElem?_eq_getElem (by omega)⟩
        obtain ⟨q', t, eq', rfl, ht⟩ := hf4.at ev
        obtain rfl : q = q' := Option.some.inj (eq.symm.trans eq')
        have g5 := gb_at rn hh eq (b2 (n - 1) q (by omega) eq) fun j r l e => b3 j r (by omega) e
        have okq := rn.ok q (List.mem_of_getElem? eq)
        have q1 := b2 (n - 1) q (by omega) eq
        fold_lay
        refine i_ixL (sqL hs4) (at_of (j := n - 1) (by omega) ev) ?_
        fold_lay
        refine i_ixL (sqL hs4) (at_of (j := n - 1) (by omega) ev) ?_
        fold_lay
        have g6 : gb held (s + z) = (if s + z < q.1 + q.2 then s + z else q.1 + q.2) - 1 := by
          rw [g5]
          split <;> split <;> omega
        rw [← g6]
        refine key _ _ ⟨rfl, fun z => absurd z (by omega), ?_, ?_, rfl⟩
        · rw [g5]
          split <;> omega
        · rw [g5]
          split <;> omega
      · have g5 := gb_no (e := s + z) rn hh fun j r e => b3 j r (by omega) e
        obtain rfl := a6 (by omega)
        fold_lay
        exact key _ _ ⟨rfl, fun _ => g5, by omega, by omega, by rw [g5]⟩
    rintro σ' H' ⟨rfl, b5, b6, b7, rfl⟩
    generalize eg : gb held (s + z) = last' at *
    fold_lay
    fold_depth
    refine i_ifd (fun c2 => ?_) (fun c2 => ?_)
    · fold_lay
      refine kN ?_ _ (s1.trans t1)
      rw [a4]
      unfold gre
      rw [if_neg c1, eg, if_pos c2]
    · fold_lay
      refine i_put a2 (by rw [List.length_map]; omega) ?_
      fold_lay
      refine ⟨same_step hf t1, upd_off nfw t2, n, last', acc ++ [last'], _, _, b1, by rw [List.map_append]; exact upd_same, by rw [List.length_append]; exact Nat.succ_le_succ a3, ?_, fun j r l e s' ms' => ?_, b5, b6, by omega, rfl⟩
      · rw [a4]
        conv => lhs; unfold gre
        rw [if_neg c1, eg, if_neg c2]
      · have := b2 j r l e
        have := late s' ms'
        omega
  · rintro σ' H4 ⟨t1, t2, at_, last, acc, y9, y10, a1, a2, a3, a4, a5, a6, a7, a8, rfl⟩
    fold_lay
    rw [List.drop_eq_nil_of_le (by rw [List.length_map]; exact Nat.le_refl _)] at a4
    refine ⟨f, _, rfl, .inl ⟨sqL a2, fun l hl => kS acc a4 l _ ((s1.trans t1).trans (same_new hl)) ?_ upd_same⟩⟩
    have s14 := s1.trans t1
    match e : H l with
    | none => rfl
    | some o => rw [s14 _ _ e] at hl; cases hl
def sp_is_chosen7 (K : PySem.W.Frag) (c : Cl) : Sp := fun vs H Q _ => ∃ (lo hi : Int) (g t : Addr) (rs : List PR) (cov : List Int), vs = [.int lo, .int hi, .ref g, .ref t] ∧ PlO c H g rs ∧ PlK K c ∧ RunsL rs ∧ rs.length ≤ 100000 ∧ H t = some (.tup (cov.map V.int)) ∧ cov.length ≤ 100000 ∧
  ∀ b : Bool, (b = true ↔ cov.Pairwise (· < ·) ∧ ∀ x ∈ cov, lo ≤ x ∧ x < hi ∧ inSp rs x) → ∀ H', Same H H' → Q (.bl b) H'
def N_p_is_chosen : List Str := ["low", "high", "held", "cover", "last", "place"]
def t_p_is_chosen (K : PySem.W.Frag) (c : Cl) : TS := (tSeq (tIfS (tNot (tB (tCB (rIsi K) (tCons (tVar 3) (tCons (tC (.ty "tuple")) tNil))))) (tRet (tC (.bl false))) tNext)
  (tSeq (tAsg (tOp oSub (tVar 0) (tC (.int 1))) (gName 4))
  (tSeq (tFor (iTup K (tVar 3)) (gName 5) (tSeq (tIfS (tOr (tNot (tB (tCall (sp_is_whole K) [] E0 (tCons (tVar 5) tNil)))) (tOr (tTest (tOp oLe (tVar 5) (tVar 4))) (tOr (tTest (tOp oGe (tVar 5) (tVar 1))) (tTest (tOp (rInO c.k_Places (sp_contains K c) true E0) (tVar 5) (tVar 2)))))) (tRet (tC (.bl false))) tNext)
  (tAsg (tVar 5) (gName 4))))
  (tRet (tC (.bl true))))))
theorem pure_is_chosen7 {K : PySem.W.Frag} {c : Cl} {vs : List V} {H : Hp} {Q : VK} {E : XK} (h : sp_is_chosen7 K c vs H Q E) : t_p_is_chosen K c { nx := fun _ H' => Q .non H', rt := Q } (start N_p_is_chosen vs) H := by
  obtain ⟨lo, hi, g, t, rs, cov, rfl, hP, P, rn, rl, ht, cl, k⟩ := h
  show t_p_is_chosen K c _ [some (.int lo), some (.int hi), some (.ref g), some (.ref t), none, none] H
  unfold t_p_is_chosen
  fold_lay
  fold_depth
  refine ⟨.ref t, .ty "tuple", .type "tuple", .type "tuple", true, rfl, .ty _, .base (.tup ht), by rfl, ?_⟩
  fold_lay
  fold_depth
  refine f_tup (sqT ht) (l_tup (xs := cov.map V.int) (fun i σ' H' => H' = H ∧ ∃ (last : Int) (y5 : Option V), (cov.take i).Pairwise (· < ·) ∧ (∀ x ∈ cov.take i, lo ≤ x ∧ x < hi ∧ inSp rs x) ∧ (∀ x ∈ cov.take i, x ≤ last) ∧ lo - 1 ≤ last ∧ (i = 0 → last = lo - 1) ∧ (∀ j, i = j + 1 → cov[j]? = some last) ∧ σ' = [some (.int lo), some (.int hi), some (.ref g), some (.ref t), some (.int last), y5]) ⟨rfl, lo - 1, _, .nil, (fun _ m => by cases m), (fun _ m => by cases m), by omega, fun _ => rfl, fun j z => (by omega), rfl⟩ (fun i σ' H' _ h => by rw [h.1]; exact sqT ht) ?_ ?_)
  · rintro i x σ' H' hx ⟨rfl, last, y5, a1, a2, a3, a4, a5, a6, rfl⟩
    obtain ⟨s, es, rfl⟩ : ∃ s, cov[i]? = some s ∧ x = .int s := by
      rw [List.getElem?_map] at hx
      obtain ⟨s, e, e2⟩ := Option.map_eq_some_iff.mp hx
      exact ⟨s, e, e2.symm⟩
    have tk : cov.take (i + 1) = cov.take i ++ [s] := by rw [List.take_add_one, es]; rfl
    have ms := List.mem_of_getElem? es
    have no : (cov.Pairwise (· < ·) ∧ (∀ x ∈ cov, lo ≤ x ∧ x < hi ∧ inSp rs x) → False) → Q (.bl false) H' := fun n => k false ⟨fun z => (by cases z), fun z => (n z).elim⟩ _ fun _ _ e => e
    fold_lay
    fold_depth
    refine c_is_whole (.int _) ?_
    fold_lay
    rw [if_neg (show ¬ (!vI (V.int s)) = true by intro z; cases z)]
    fold_lay
    refine i_ifd (fun e1 => ?_) (fun e1 => ?_)
    · fold_lay
      refine no fun ⟨pw, mm⟩ => ?_
      cases i with
      | zero =>
        have := a5 rfl
        have := (mm s ms).1
        omega
      | succ j =>
        obtain ⟨ha, ea⟩ := List.getElem?_eq_some_iff.mp (a6 j rfl)
        obtain ⟨hb, eb⟩ := List.getElem?_eq_some_iff.mp es
        have := List.pairwise_iff_getElem.mp pw j (j + 1) ha hb (Nat.lt_succ_self j)
        rw [ea, eb] at this
        omega
    · fold_lay
      refine i_ifd (fun e2 => ?_) (fun e2 => ?_)
      · fold_lay
        refine no fun ⟨pw, mm⟩ => ?_
        have := (mm s ms).2.1
        omega
      · fold_lay
        obtain ⟨dx, tp, fs, g1, g2, g3⟩ := hP.ex
        refine ⟨g, dx, _, rfl, g1, g, .int s, _, rs, rfl, hP, P, rn, rl, .int _, fun b hb => ⟨b, rfl, ?_⟩⟩
        cases b with
        | false =>
          fold_lay
          rw [if_pos (show (if true = true then !false else false) = true by decide)]
          fold_lay
          refine no fun ⟨pw, mm⟩ => ?_
          have := hb.mpr ⟨s, rfl, (mm s ms).2.2⟩
          cases this
        | true =>
          obtain ⟨_, e, ins⟩ := hb.mp rfl
          cases e
          fold_lay
          rw [if_neg (show ¬ (if true = true then !true else true) = true by decide)]
          fold_lay
          refine ⟨rfl, s, _, ?_, fun x mx => ?_, fun x mx => ?_, by omega, fun z => (by omega), fun j e => ?_, rfl⟩
          · rw [tk]
            refine List.pairwise_append.mpr ⟨a1, List.pairwise_singleton _ _, fun a ma b mb => ?_⟩
            rw [List.mem_singleton.mp mb]
            have := a3 a ma
            omega
          · rw [tk] at mx
            rcases List.mem_append.mp mx with m | m
            · exact a2 x m
            · rw [List.mem_singleton.mp m]
              exact ⟨by omega, by omega, ins⟩
          · rw [tk] at mx
            rcases List.mem_append.mp mx with m | m
            · have := a3 x m
              omega
            · rw [List.mem_singleton.mp m]
              exact Int.le_refl _
          · obtain rfl : i = j := by omega
            exact es
  · rintro σ' H' ⟨rfl, last, y5, a1, a2, a3, a4, a5, a6, rfl⟩
    rw [List.length_map, List.take_length] at *
    fold_lay
    exact k true ⟨fun _ => ⟨a1, a2⟩, fun _ => rfl⟩ _ fun _ _ e => e
def sp_is_cover7 (K : PySem.W.Frag) (c : Cl) : Sp := fun vs H Q _ => ∃ (lo hi z al : Int) (g t : Addr) (rs : List PR) (cov : List Int), vs = [.int lo, .int hi, .int z, .ref g, .ref t, .int al] ∧ 0 ≤ lo ∧ lo ≤ hi ∧ hi ≤ 20000 ∧ 1 ≤ z ∧ z ≤ 20000 ∧ (∃ k : Nat, al = 2 ^ k) ∧ al ≤ 16384 ∧ PlO c H g rs ∧ PlK K c ∧ RunsL rs ∧ rs.length ≤ 100000 ∧ H t = some (.tup (cov.map V.int)) ∧ cov.length ≤ 100000 ∧
  ∀ b : Bool, (b = true ↔ (cov.Pairwise (· < ·) ∧ ∀ x ∈ cov, lo ≤ x ∧ x < hi ∧ inSp rs x) ∧ Hits (stA lo hi z al) z cov) → ∀ H', Same H H' → Q (.bl b) H'
def N_p_is_cover : List Str := ["low", "high", "size", "held", "cover", "align", "at", "start"]
def t_p_is_cover (K : PySem.W.Frag) (c : Cl) : TS := (tSeq (tDrop (tCall (sp_check_range7 K) [] E0 (tCons (tVar 0) (tCons (tVar 1) (tCons (tVar 2) tNil)))))
  (tSeq (tDrop (tCall (sp_check_held7 K c) [] E0 (tCons (tVar 3) tNil)))
  (tSeq (tDrop (tCall (sp_check_align7 K) [] E0 (tCons (tVar 5) tNil)))
  (tSeq (tIfS (tNot (tB (tCall (sp_is_chosen7 K c) [] E0 (tCons (tVar 0) (tCons (tVar 1) (tCons (tVar 3) (tCons (tVar 4) tNil))))))) (tRet (tC (.bl false))) tNext)
  (tSeq (tAsg (tC (.int 0)) (gName 6))
  (tSeq (tFor (iList K (tCallN 3 1 (sp_windows7 K) gv_all E0 (tCons (tVar 0) (tCons (tVar 1) (tCons (tVar 2) tNil))) (tCons (tVar 5) tNil))) (gName 7) (tSeq (tWhile (tAnd (tTest (tOp oLt (tVar 6) (tCB (rLen K) (tCons (tVar 4) tNil)))) (tTest (tOp oLt (tOp (rIxT K) (tVar 4) (tVar 6)) (tVar 7)))) (tAug 6 (tC (.int 1)) (ipI fun i j => i + j)))
  (tIfS (tOr (tTest (tOp rEq (tVar 6) (tCB (rLen K) (tCons (tVar 4) tNil)))) (tTest (tOp oGe (tOp (rIxT K) (tVar 4) (tVar 6)) (tOp oAdd (tVar 7) (tVar 2))))) (tRet (tC (.bl false))) tNext)))
  (tRet (tC (.bl true)))))))))
theorem pure_is_cover7 {K : PySem.W.Frag} {c : Cl} {vs : List V} {H : Hp} {Q : VK} {E : XK} (h : sp_is_cover7 K c vs H Q E) : t_p_is_cover K c { nx := fun _ H' => Q .non H', rt := Q } (start N_p_is_cover vs) H := by
  obtain ⟨lo, hi, z, al, g, t, rs, cov, rfl, h1, h2, h3, h4, h5, h6, h7, hP, P, rn, rl, ht, cl, k⟩ := h
  show t_p_is_cover K c _ [some (.int lo), some (.int hi), some (.int z), some (.ref g), some (.ref t), some (.int al), none, none] H
  have al1 := pow1 h6
  unfold t_p_is_cover
  fold_lay
  refine ⟨lo, hi, z, rfl, h1, h2, h3, h4, h5, ?_⟩
  fold_lay
  refine ⟨g, rs, rfl, hP, P, ?_⟩
  fold_lay
  refine ⟨al, rfl, h6, h7, ?_⟩
  fold_lay
  fold_depth
  refine ⟨lo, hi, g, t, rs, cov, rfl, hP, P, rn, rl, ht, cl, fun b hb H1 s1 => ?_⟩
  have ht1 := s1 _ _ ht
  cases b with
  | false =>
    fold_lay
    refine k false ⟨fun z => (by cases z), fun q => ?_⟩ _ s1
    have := hb.mpr q.1
    cases this
  | true =>
    obtain ⟨asc, mem⟩ := hb.mp rfl
    fold_lay
    fold_depth
    refine ⟨rfl, rfl, lo, hi, z, al, rfl, h1, h2, h3, h4, h5, h6, h7, fun w hw => ?_⟩
    have s2 := same_new (o := .lst ((stA lo hi z al).map V.int)) hw
    have hw1 : upd H1 w (.lst ((stA lo hi z al).map V.int)) w = some (.lst ((stA lo hi z al).map V.int)) := upd_same
    generalize upd H1 w (.lst ((stA lo hi z al).map V.int)) = H2 at s2 hw1
    have s02 := s1.trans s2
    have ht2 := s2 _ _ ht1
    have spw := st_pw (lo := lo) (hi := hi) (z := z) al1
    have yes : ∀ b : Bool, (b = true ↔ Hits (stA lo hi z al) z cov) → Q (.bl b) H2 := fun b hb => k b ⟨fun z => ⟨⟨asc, mem⟩, hb.mp z⟩, fun z => hb.mpr z.2⟩ _ s02
    generalize stA lo hi z al = ss at *
    refine f_lst (sqL hw1) (l_lst (xs := ss.map V.int) (fun i σ' H' => H' = H2 ∧ ∃ (at_ : Nat) (y7 : Option V), at_ ≤ cov.length ∧ (∀ s ∈ ss.take i, ∃ x ∈ cov, s ≤ x ∧ x < s + z) ∧ (∀ (j : Nat) (x : Int), j < at_ → cov[j]? = some x → ∀ s ∈ ss.drop i, x < s) ∧ σ' = [some (.int lo), some (.int hi), some (.int z), some (.ref g), some (.ref t), some (.int al), some (.int at_), y7]) ⟨rfl, 0, _, Nat.zero_le _, (fun _ m => by cases m), (fun j x l => absurd l (Nat.not_lt_zero _)), rfl⟩ (fun i σ' H' _ h => by rw [h.1]; exact sqL hw1) ?_ ?_)
    · rintro i x σ' H' hx ⟨rfl, at_, y7, a1, a2, a3, rfl⟩
      obtain ⟨s, es, rfl⟩ : ∃ s, ss[i]? = some s ∧ x = .int s := by
        rw [List.getElem?_map] at hx
        obtain ⟨s, e, e2⟩ := Option.map_eq_some_iff.mp hx
        exact ⟨s, e, e2.symm⟩
      obtain ⟨il, ei⟩ := List.getElem?_eq_some_iff.mp es
      have dr : ss.drop i = s :: ss.drop (i + 1) := by rw [List.drop_eq_getElem_cons il, ei]
      have late : ∀ s' ∈ ss.drop (i + 1), s < s' := by
        have := spw.drop (i := i)
        rw [dr] at this
        exact (List.pairwise_cons.mp this).1
      rw [dr] at a3
      have tk : ss.take (i + 1) = ss.take i ++ [s] := by rw [List.take_add_one, es]; rfl
      have ms := List.mem_of_getElem? es
      have inc : ∀ {j k : Nat} {a b : Int}, cov[j]? = some a → cov[k]? = some b → j ≤ k → a ≤ b := fun {j k a b} ea eb l => by
        rcases Nat.lt_or_eq_of_le l with l | rfl
        · obtain ⟨ha, ea⟩ := List.getElem?_eq_some_iff.mp ea
          obtain ⟨hb, eb⟩ := List.getElem?_eq_some_iff.mp eb
          have := List.pairwise_iff_getElem.mp asc j k ha hb l
          omega
        · rw [ea] at eb
          rw [Option.some.inj eb]
          exact Int.le_refl _
      fold_lay
      refine i_cut (fun σ' H3 => H3 = H' ∧ ∃ (n : Nat), n ≤ cov.length ∧ (∀ (j : Nat) (x : Int), j < n → cov[j]? = some x → x < s) ∧ (∀ x, cov[n]? = some x → s ≤ x) ∧ σ' = [some (.int lo), some (.int hi), some (.int z), some (.ref g), some (.ref t), some (.int al), some (.int n), some (.int s)]) ?_ (fun nx key => ?_)
      rotate_left
      · refine l_while (m := cov.length - at_) (fun m σ' H3 => H3 = H' ∧ ∃ (n : Nat), n + m = cov.length ∧ (∀ (j : Nat) (x : Int), j < n → cov[j]? = some x → x < s) ∧ σ' = [some (.int lo), some (.int hi), some (.int z), some (.ref g), some (.ref t), some (.int al), some (.int n), some (.int s)]) ⟨rfl, at_, by omega, fun j x l e => a3 j x l e s List.mem_cons_self, rfl⟩ ?_
        rintro m σ' H3 ⟨rfl, n, e1, e2, rfl⟩
        fold_lay
        refine i_ifd (fun e4 => ?_) (fun e4 => ?_)
        · obtain ⟨q, eq⟩ : ∃ q, cov[n]? = some q := ⟨_, List.getElem?_eq_getElem (by simpa using e4)⟩
          fold_lay
          refine i_ixT (sqT ht2) (at_of (j := n) (by omega) (by rw [List.getElem?_map, eq]; rfl)) ?_
          fold_lay
          refine i_ifd (fun e5 => ?_) (fun e5 => ?_)
          · refine i_turn ?_
            fold_lay
            refine ⟨m - 1, by have := (List.getElem?_eq_some_iff.mp eq).1; omega, rfl, n + 1, by have := (List.getElem?_eq_some_iff.mp eq).1; omega, fun j r l e => ?_, by rw [show ((n + 1 : Nat) : Int) = (n : Int) + 1 by omega]; rfl⟩
            rcases Nat.lt_or_eq_of_le (show j ≤ n by omega) with l | rfl
            · exact e2 j r l e
            · rw [eq] at e
              obtain rfl := Option.some.inj e
              exact e5
          · refine key _ _ ⟨rfl, n, by omega, e2, fun x e => ?_, rfl⟩
            rw [eq] at e
            obtain rfl := Option.some.inj e
            omega
        · refine key _ _ ⟨rfl, n, by omega, e2, fun x e => absurd (List.getElem?_eq_some_iff.mp e).1 (by simpa using e4), rfl⟩
      rintro σ' H3 ⟨rfl, n, b1, b2, b3, rfl⟩
      have down : (∀ x, cov[n]? = some x → s + z ≤ x) → Q (.bl false) H3 := fun up => by
        refine yes false ⟨fun z => (by cases z), fun hit => ?_⟩
        obtain ⟨x, mx, x1, x2⟩ := hit s ms
        obtain ⟨j, hj, ej⟩ := List.getElem_of_mem mx
        have ej : cov[j]? = some x := by rw [List.getElem?_eq_getElem hj, ej]
        by_cases c : j < n
        · have := b2 j x c ej
          omega
        · have hn : n < cov.length := by omega
          have en : cov[n]? = some cov[n] := List.getElem?_eq_getElem hn
          have := up _ en
          have := inc en ej (by omega)
          omega
      have more : (∃ x, cov[n]? = some x ∧ x < s + z) → H3 = H3 ∧ ∃ (at_ : Nat) (y7 : Option V), at_ ≤ cov.length ∧ (∀ s ∈ ss.take (i + 1), ∃ x ∈ cov, s ≤ x ∧ x < s + z) ∧ (∀ (j : Nat) (x : Int), j < at_ → cov[j]? = some x → ∀ s ∈ ss.drop (i + 1), x < s) ∧ [some (V.int lo), some (V.int hi), some (V.int z), some (V.ref g), some (V.ref t), some (V.int al), some (V.int n), some (V.int s)] = [some (.int lo), some (.int hi), some (.int z), some (.ref g), some (.ref t), some (.int al), some (.int at_), y7] := fun ⟨x, en, xl⟩ => by
        refine ⟨rfl, n, _, b1, fun s' ms' => ?_, fun j x l e s' ms' => ?_, rfl⟩
        · rw [tk] at ms'
          rcases List.mem_append.mp ms' with m | m
          · exact a2 s' m
          · rw [List.mem_singleton.mp m]
            exact ⟨x, List.mem_of_getElem? en, b3 x en, xl⟩
        · have := b2 j x l e
          have := late s' ms'
          omega
      fold_lay
      refine i_ifd (fun e5 => ?_) (fun e5 => ?_)
      · rw [List.length_map] at e5
        fold_lay
        exact down fun x e => absurd (List.getElem?_eq_some_iff.mp e).1 (by omega)
      · rw [List.length_map] at e5
        obtain ⟨q, eq⟩ : ∃ q, cov[n]? = some q := ⟨_, List.getElem?_eq_getElem (by omega)⟩
        fold_lay
        refine i_ixT (sqT ht2) (at_of (j := n) (by omega) (by rw [List.getElem?_map, eq]; rfl)) ?_
        fold_lay
        refine i_ifd (fun e6 => ?_) (fun e6 => ?_)
        · fold_lay
          refine down fun x e => ?_
          rw [eq] at e
          obtain rfl := Option.some.inj e
          exact e6
        · fold_lay
          exact more ⟨q, eq, by omega⟩
    · rintro σ' H' ⟨rfl, at_, y7, a1, a2, a3, rfl⟩
      rw [List.length_map, List.take_length] at *
      fold_lay
      exact yes true ⟨fun _ => a2, fun _ => rfl⟩
/-! ## K07c -/
local macro_rules | `(tactic| kbj_are) => `(tactic| (with_reducible refine q_len ?_; with_reducible refine i_lenT (sqT (by assumption)) ?_))
/-! ### k07: the law's own spans, places and cases -/
abbrev SpA7 (H : Hp) (p : Addr) (a n : Int) : Prop := H p = some (.tup [.int a, .int n])
def sp_up7 : Sp := fun vs H Q _ => ∃ (n al : Int), vs = [.int n, .int al] ∧ 0 ≤ n ∧ n ≤ 1000000000 ∧ 1 ≤ al ∧ al ≤ 1073741824 ∧ Q (.int (upA n al)) H
def N_l_up7 : List Str := ["_law_number_here", "_law_alignment_here"]
def t_l_up7 (K : PySem.W.Frag) : TS := (tRet (tOp oMul (tOp oDiv (tOp oSub (tOp oAdd (tVar 0) (tVar 1)) (tC (.int 1))) (tVar 1)) (tVar 1)))
theorem pure_up7 {K : PySem.W.Frag} {vs : List V} {H : Hp} {Q : VK} {E : XK} (h : sp_up7 vs H Q E) : t_l_up7 K { nx := fun _ H' => Q .non H', rt := Q } (start N_l_up7 vs) H := by
  obtain ⟨n, al, rfl, n0, n1, a0, a1, k⟩ := h
  unfold t_l_up7
  have cd : CDivW (n + al - 1) al := cdiv (by omega) (by omega)
  obtain ⟨u1, u2⟩ := upA_is n0 a0
  fold_lay
  exact k
def sp_span7 (K : PySem.W.Frag) : Sp := fun vs H Q _ => ∃ (d s : Addr) (m : Int), vs = [.ref d, .int m] ∧ Dr d s H ∧ 1 ≤ m ∧ m ≤ 1000000000 ∧ ∀ p a n H', SpA7 H' p a n → H p = none → 0 ≤ a → 1 ≤ n → a + n ≤ m → Dr d s H' → Same (hid s H) (hid s H') → Q (.ref p) H'
def N_l_span7 : List Str := ["_law_draws_here", "_law_most", "_law_size"]
def t_l_span7 (K : PySem.W.Frag) : TS := (tSeq (tAsg (tCall sp_between [] E0 (tCons (tVar 0) (tCons (tC (.int 1)) (tCons (tCB rMin2 (tCons (tVar 1) (tCons (tC (.int 6)) tNil))) tNil)))) (gName 2))
  (tSeq (tIfS (tTest (tOp rEq (tCall sp_take [] E0 (tCons (tVar 0) (tCons (tC (.int 4)) tNil))) (tC (.int 0)))) (tAsg (tCall sp_number [] E0 (tCons (tVar 0) (tCons (tC (.int 1)) (tCons (tVar 1) tNil)))) (gName 2)) tNext)
  (tRet (tTup (tCons (tCall sp_number [] E0 (tCons (tVar 0) (tCons (tC (.int 0)) (tCons (tOp oSub (tVar 1) (tVar 2)) tNil)))) (tCons (tVar 2) tNil))))))
theorem pure_span7 {K : PySem.W.Frag} {vs : List V} {H : Hp} {Q : VK} {E : XK} (h : sp_span7 K vs H Q E) : t_l_span7 K { nx := fun _ H' => Q .non H', rt := Q } (start N_l_span7 vs) H := by
  obtain ⟨d, s, m, rfl, hD, m1, m2, k⟩ := h
  unfold t_l_span7
  fold_lay
  refine c_between hD (by split <;> omega) fun z H1 z1 z2 hD1 s1 => ?_
  have z3 : z ≤ m := by split at z2 <;> omega
  fold_lay
  refine i_cut (fun σ' H' => ∃ z, 1 ≤ z ∧ z ≤ m ∧ σ' = [some (.ref d), some (.int m), some (.int z)] ∧ Dr d s H' ∧ Same (hid s H) (hid s H')) ?_ (fun nx key => ?_)
  rotate_left
  · fold_lay
    refine c_take hD1 (by omega) fun v H2 _ _ hD2 s2 => ?_
    fold_lay
    refine i_ifd (fun _ => ?_) (fun _ => ?_)
    · fold_lay
      refine c_number hD2 (by omega) (by omega) fun y H3 y1 y2 hD3 s3 => ?_
      fold_lay
      exact key _ _ ⟨y, y1, y2, rfl, hD3, by mem_news⟩
    · fold_lay
      exact key _ _ ⟨z, z1, z3, rfl, hD2, by mem_news⟩
  rintro σ' H2 ⟨z, z1, z3, rfl, hD2, s2⟩
  fold_lay
  refine c_number hD2 (by omega) (by omega) fun y H3 y1 y2 hD3 s3 => ?_
  fold_lay
  rename_i p hp
  exact k p y z _ upd_same (by nest_room) y1 z1 (by omega) (by leaf_len) (by mem_news)
theorem Prs.tupK {H H' : Hp} {xs : List V} {ps : List PR} (h : Prs H xs ps) (k : TupK7 H H') : Prs H' xs ps := by
  induction h with
  | nil => exact .nil
  | cons h _ ih => exact .cons (k _ _ h) ih
def sp_spans7 (K : PySem.W.Frag) : Sp := fun vs H Q _ => ∃ (d s : Addr) (n m : Int), vs = [.ref d, .int n, .int m] ∧ Dr d s H ∧ 0 ≤ n ∧ n ≤ 60 ∧ 1 ≤ m ∧ m ≤ 1000000000 ∧
  ∀ r xs ps H', H r = none → H' r = some (.lst xs) → Prs H' xs ps → ps.length ≤ 60 → (∀ p ∈ ps, 0 ≤ p.1 ∧ 1 ≤ p.2 ∧ p.1 + p.2 ≤ m) → Dr d s H' → Same (hid s H) (hid s H') → Q (.ref r) H'
def N_l_spans : List Str := ["_law_draws_here", "_law_count_here", "_law_most", "_law_row", "_law_k", "_law_kind", "_law_one", "_law_behind", "_law_skip"]
def t_l_spans (K : PySem.W.Frag) : TS := (tSeq (tAsg (tLst tNil) (gName 3))
  (tSeq (tFor (iRng1 (tCons (tVar 1) tNil)) (gName 4) (tSeq (tAsg (tCall sp_take [] E0 (tCons (tVar 0) (tCons (tC (.int 9)) tNil))) (gName 5))
  (tSeq (tAsg (tCall (sp_span7 K) [] E0 (tCons (tVar 0) (tCons (tVar 2) tNil))) (gName 6))
  (tSeq (tIfS (tAnd (tTest (tOp oGt (tVar 4) (tC (.int 0)))) (tTest (tOp oLt (tVar 5) (tC (.int 3))))) (tSeq (tAsg (tCall (sp_among K) [] E0 (tCons (tVar 0) (tCons (tVar 3) tNil))) (gName 6))
  (tSeq (tAsg (tOp oAdd (tOp (rIxT K) (tVar 6) (tC (.int 0))) (tOp (rIxT K) (tVar 6) (tC (.int 1)))) (gName 7))
  (tSeq (tIfS (tAnd (tTest (tOp rEq (tVar 5) (tC (.int 1)))) (tTest (tOp oLt (tVar 7) (tVar 2)))) (tAsg (tTup (tCons (tVar 7) (tCons (tCall sp_between [] E0 (tCons (tVar 0) (tCons (tC (.int 1)) (tCons (tCB rMin2 (tCons (tC (.int 4)) (tCons (tOp oSub (tVar 2) (tVar 7)) tNil))) tNil)))) tNil))) (gName 6)) tNext)
  (tIfS (tTest (tOp rEq (tVar 5) (tC (.int 2)))) (tSeq (tAsg (tCall sp_between [] E0 (tCons (tVar 0) (tCons (tC (.int 0)) (tCons (tOp oSub (tOp (rIxT K) (tVar 6) (tC (.int 1))) (tC (.int 1))) tNil)))) (gName 8))
  (tAsg (tTup (tCons (tOp oAdd (tOp (rIxT K) (tVar 6) (tC (.int 0))) (tVar 8)) (tCons (tCall sp_between [] E0 (tCons (tVar 0) (tCons (tC (.int 1)) (tCons (tOp oSub (tOp (rIxT K) (tVar 6) (tC (.int 1))) (tVar 8)) tNil)))) tNil))) (gName 6))) tNext)))) tNext)
  (tDrop (tBM K "list" rAppend (tVar 3) (tCons (tVar 6) tNil)))))))
  (tRet (tVar 3))))
theorem pure_spans7 {K : PySem.W.Frag} {vs : List V} {H : Hp} {Q : VK} {E : XK} (h : sp_spans7 K vs H Q E) : t_l_spans K { nx := fun _ H' => Q .non H', rt := Q } (start N_l_spans vs) H := by
  obtain ⟨d, s, n, m, rfl, hD, n0, n1, m1, m2, k⟩ := h
  show t_l_spans K _ [some (.ref d), some (.int n), some (.int m), none, none, none, none, none, none] H
  unfold t_l_spans
  fold_lay
  rename_i r hr
  have nrs := hD.ne hr
  fold_depth
  refine f_rng1 (by omega) (by omega) (l_rng (fun i σ' H' => Dr d s H' ∧ Same (hid s H) (hid s H') ∧ ∃ (xs : List V) (ps : List PR) (y4 y5 y6 y7 y8 : Option V), H' r = some (.lst xs) ∧ Prs H' xs ps ∧ ps.length = i ∧ (∀ p ∈ ps, 0 ≤ p.1 ∧ 1 ≤ p.2 ∧ p.1 + p.2 ≤ m) ∧ σ' = [some (.ref d), some (.int n), some (.int m), some (.ref r), y4, y5, y6, y7, y8]) ⟨hD.same (same_new hr), hid_mono (same_new hr), [], [], _, _, _, _, _, upd_same, .nil, rfl, (fun _ m => by cases m), rfl⟩ ?_ ?_)
  · rintro i σ' H1 hi ⟨hD1, s1, xs, ps, y4, y5, y6, y7, y8, hr1, hp1, pl, ok, rfl⟩
    have xl := hp1.len
    fold_lay
    refine c_take hD1 (by omega) fun kd H2 v0 v1 hD2 s2 => ?_
    fold_lay
    refine ⟨d, s, m, rfl, hD2, m1, by omega, fun p a x H3 hp p0 a1 a2 a3 hD3 s3 => ?_⟩
    fold_lay
    have s13 := s2.trans s3
    have hr3 := hget s13 nrs hr1
    have hp3 := hp1.tupK (hidTup7 hD1 s13)
    have s03 := s1.trans s13
    refine i_cut (fun σ' H' => ∃ (t : Addr) (b x : Int) (y7 y8 : Option V), SpA7 H' t b x ∧ 0 ≤ b ∧ 1 ≤ x ∧ b + x ≤ m ∧ Dr d s H' ∧ Same (hid s H) (hid s H') ∧ H' r = some (.lst xs) ∧ Prs H' xs ps ∧ σ' = [some (.ref d), some (.int n), some (.int m), some (.ref r), some (.int (0 + i)), some (.int kd), some (.ref t), y7, y8]) ?_ (fun nx key => ?_)
    rotate_left
    · fold_lay
      have stay : nx [some (.ref d), some (.int n), some (.int m), some (.ref r), some (.int (0 + i)), some (.int kd), some (.ref p), y7, y8] H3 := key _ _ ⟨p, a, x, _, _, hp, a1, a2, a3, hD3, s03, hr3, hp3, rfl⟩
      refine i_ifd (fun e1 => ?_) (fun _ => stay)
      fold_lay
      refine i_ifd (fun e2 => ?_) (fun _ => stay)
      clear stay
      fold_lay
      refine c_among hD3 hr3 nrs (by omega) (by omega) fun v H4 mv hD4 s4 => ?_
      obtain ⟨j, hj, ej⟩ := List.getElem_of_mem mv
      obtain ⟨q, t, eq, rfl, ht⟩ := hp3.at (i := j) (by rw [List.getElem?_eq_getElem hj, ej])
      obtain ⟨q1, q2, q3⟩ := ok q (List.mem_of_getElem? eq)
      have t4 := hidTup7 hD3 s4
      have ht := t4 _ _ ht
      have hr4 := hget s4 nrs hr3
      have hp4 := hp3.tupK t4
      have s04 := s03.trans s4
      fold_lay
      refine i_cut (fun σ' H' => ∃ (t : Addr) (b x : Int), SpA7 H' t b x ∧ 0 ≤ b ∧ 1 ≤ x ∧ b + x ≤ m ∧ Dr d s H' ∧ Same (hid s H) (hid s H') ∧ H' r = some (.lst xs) ∧ Prs H' xs ps ∧ σ' = [some (.ref d), some (.int n), some (.int m), some (.ref r), some (.int (0 + i)), some (.int kd), some (.ref t), some (.int (q.1 + q.2)), y8]) ?_ (fun nx key => ?_)
      rotate_left
      · fold_lay
        have stay : nx [some (.ref d), some (.int n), some (.int m), some (.ref r), some (.int (0 + i)), some (.int kd), some (.ref t), some (.int (q.1 + q.2)), y8] H4 := key _ _ ⟨t, _, _, ht, q1, q2, q3, hD4, s04, hr4, hp4, rfl⟩
        refine i_ifd (fun e3 => ?_) (fun _ => stay)
        fold_lay
        refine i_ifd (fun e4 => ?_) (fun _ => stay)
        clear stay
        fold_lay
        refine c_between hD4 (by split <;> omega) fun z H5 z1 z2 hD5 s5 => ?_
        fold_lay
        rename_i u hu
        have su := same_new (o := .tup [.int (q.1 + q.2), .int z]) hu
        refine key _ _ ⟨u, _, _, upd_same, by omega, z1, by split at z2 <;> omega, hD5.same su, s04.trans (s5.trans (hid_mono su)), su _ _ (hget s5 nrs hr4), (hp4.tupK (hidTup7 hD4 s5)).mono su, rfl⟩
      rintro σ' H5 ⟨t5, b, x, ht, b1, b2, b3, hD5, s5, hr5, hp5, rfl⟩
      fold_lay
      refine i_ifd (fun e3 => ?_) (fun _ => key _ _ ⟨t5, b, x, _, _, ht, b1, b2, b3, hD5, s5, hr5, hp5, rfl⟩)
      fold_lay
      refine c_between hD5 (by omega) fun z H6 z1 z2 hD6 s6 => ?_
      have ht6 := hidTup7 hD5 s6 _ _ ht
      fold_lay
      refine c_between hD6 (by omega) fun w H7 w1 w2 hD7 s7 => ?_
      fold_lay
      rename_i u hu
      have su := same_new (o := .tup [.int (b + z), .int w]) hu
      have s67 := s6.trans s7
      exact key _ _ ⟨u, _, _, _, _, upd_same, by omega, w1, by omega, hD7.same su, s5.trans (s67.trans (hid_mono su)), su _ _ (hget s67 nrs hr5), (hp5.tupK (hidTup7 hD5 s67)).mono su, rfl⟩
    · rintro σ' H4 ⟨t, b, x, y7, y8, ht, b1, b2, b3, hD4, s4, hr4, hp4, rfl⟩
      fold_lay
      refine i_put hr4 (by omega) ?_
      fold_lay
      have tk := tupK_upd7 (o := .lst (xs ++ [.ref t])) hr4
      refine ⟨dr_upd7 hD hr hD4 s4, setS7 s4 hr, _, ps ++ [(b, x)], _, _, _, _, _, upd_same, (hp4.tupK tk).app (.cons (tk _ _ ht) .nil), by rw [List.length_append, pl]; rfl, fun p mp => ?_, rfl⟩
      rcases List.mem_append.mp mp with mp | mp
      · exact ok p mp
      · rw [List.mem_singleton.mp mp]
        exact ⟨b1, b2, b3⟩
  · rintro σ' H1 ⟨hD1, s1, xs, ps, y4, y5, y6, y7, y8, hr1, hp1, pl, ok, rfl⟩
    fold_lay
    exact k r xs ps H1 hr hr1 hp1 (by omega) ok hD1 s1
def sp_places_of (K : PySem.W.Frag) : Sp := fun vs H Q _ => ∃ (r : Addr) (xs : List V) (ps : List PR), vs = [.ref r] ∧ H r = some (.lst xs) ∧ Prs H xs ps ∧ ps.length ≤ 60 ∧ (∀ p ∈ ps, 0 ≤ p.1 ∧ 1 ≤ p.2 ∧ p.2 ≤ 30 ∧ p.1 + p.2 ≤ 30000) ∧
  ∀ (l : Addr) (held : List Int) H', H l = none → H' l = some (.lst (held.map V.int)) → held.Pairwise (· < ·) → (∀ x, x ∈ held ↔ inSp ps x) → held.length ≤ 1800 → Same H H' → Q (.ref l) H'
def N_l_places_of : List Str := ["_law_spans_here", "_law_inside", "_law_start", "_law_size", "_law_one"]
def t_l_places_of (K : PySem.W.Frag) : TS := (tSeq (tAsg tDNewK (gName 1))
  (tSeq (tFor (iList K (tVar 0)) (gTup K 2 (gCons (gName 2) (gCons (gName 3) gNil))) (tFor (iRng2 (tCons (tVar 2) (tCons (tOp oAdd (tVar 2) (tVar 3)) tNil))) (gName 4) (sDPut (tVar 1) (tVar 4) (tC (.bl true)))))
  (tRet (tCB (rSortedI K) (tCons (tCB rListDk (tCons (tVar 1) tNil)) tNil)))))
def KS (H : Hp) (D : Addr) (n : Nat) (P : Int → Prop) : Prop := ∃ (kvs : List (Key × V)) (ks : List Int), H D = some (.dK kvs) ∧ kvs.map (·.1) = ks.map Sum.inl ∧ ks.Nodup ∧ kvs.length ≤ n ∧ ∀ p, p ∈ ks ↔ P p
theorem KS.put {H : Hp} {D : Addr} {n : Nat} {P : Int → Prop} (h : KS H D n P) (p : Int) : ∃ kvs, H D = some (.dK kvs) ∧ kvs.length ≤ n ∧ ∀ v, KS (upd H D (.dK (putK kvs (Sum.inl p) v))) D (n + 1) (fun q => P q ∨ q = p) := by
  obtain ⟨kvs, ks, h1, h2, h3, h4, h5⟩ := h
  have e : (valV kvs (Sum.inl p)).isSome = true ↔ p ∈ ks := by
    rw [← valV_any, List.any_eq_true]
    constructor
    · rintro ⟨kv, mk, ek⟩
      have : kv.1 ∈ kvs.map (·.1) := List.mem_map.mpr ⟨kv, mk, rfl⟩
      rw [h2] at this
      obtain ⟨x, hx, ex⟩ := List.mem_map.mp this
      have ek := of_decide_eq_true ek
      rw [← ex] at ek
      rw [← Sum.inl.inj ek]
      exact hx
    · intro m
      have : (Sum.inl p : Key) ∈ kvs.map (·.1) := by
        rw [h2]
        exact List.mem_map.mpr ⟨p, m, rfl⟩
      obtain ⟨kv, mk, ek⟩ := List.mem_map.mp this
      exact ⟨kv, mk, decide_eq_true ek⟩
  refine ⟨kvs, h1, h4, fun v => ⟨_, if (valV kvs (Sum.inl p)).isSome then ks else ks ++ [p], upd_same, ?_, ?_, Nat.le_trans (length_putK _ _ _) (by omega), fun q => ?_⟩⟩
  · rw [putK_keys7]
    split
    · exact h2
    · rw [h2, List.map_append]
      rfl
  · split
    · exact h3
    · rename_i z
      refine List.nodup_append.mpr ⟨h3, by simp, fun x hx y hy e2 => z ?_⟩
      rw [List.mem_singleton.mp hy] at e2
      subst e2
      exact e.mpr hx
  · split
    · rename_i z
      have := e.mp z
      constructor
      · exact fun m => .inl ((h5 q).mp m)
      · rintro (m | rfl)
        · exact (h5 q).mpr m
        · exact this
    · rw [List.mem_append, List.mem_singleton, h5 q]
theorem KS.eq {H : Hp} {D : Addr} {n n' : Nat} {P P' : Int → Prop} (h : KS H D n P) (l : n ≤ n') (e : ∀ p, P p ↔ P' p) : KS H D n' P' := by
  obtain ⟨kvs, ks, h1, h2, h3, h4, h5⟩ := h
  exact ⟨kvs, ks, h1, h2, h3, by omega, fun p => (h5 p).trans (e p)⟩
theorem pure_places_of {K : PySem.W.Frag} {vs : List V} {H : Hp} {Q : VK} {E : XK} (h : sp_places_of K vs H Q E) : t_l_places_of K { nx := fun _ H' => Q .non H', rt := Q } (start N_l_places_of vs) H := by
  obtain ⟨r, xs, ps, rfl, hr, hp, pl, ok, k⟩ := h
  show t_l_places_of K _ [some (.ref r), none, none, none, none] H
  have xl := hp.len
  unfold t_l_places_of
  fold_lay
  intro D hD
  fold_lay
  fold_depth
  refine f_lst (sqL (same_new hD _ _ hr)) (l_lst (xs := xs) (fun i σ' H' => Same H H' ∧ KS H' D (30 * i) (fun x => inSp (ps.take i) x) ∧ ∃ y2 y3 y4, σ' = [some (.ref r), some (.ref D), y2, y3, y4]) ⟨same_new hD, ⟨[], [], upd_same, rfl, .nil, Nat.le_refl _, fun p => ⟨fun m => (by cases m), fun m => absurd m inS_nil⟩⟩, _, _, _, rfl⟩ (fun i σ' H' _ h => sqL (h.1 _ _ hr)) ?_ ?_)
  · rintro i x σ' H1 hx ⟨s1, ks, y2, y3, y4, rfl⟩
    have il := (List.getElem?_eq_some_iff.mp hx).1
    obtain ⟨q, t, eq, rfl, ht⟩ := hp.at hx
    obtain ⟨q1, q2, q3, q4⟩ := ok q (List.mem_of_getElem? eq)
    have ht := s1 _ _ ht
    have et : ps.take (i + 1) = ps.take i ++ [q] := by rw [List.take_add_one, eq]; rfl
    fold_lay
    refine f_rng2 (by omega) (by omega) (by omega) (by omega) (l_rng (fun j σ' H' => Same H H' ∧ KS H' D (30 * i + j) (fun x => inSp (ps.take i) x ∨ (q.1 ≤ x ∧ x < q.1 + j)) ∧ ∃ y4, σ' = [some (.ref r), some (.ref D), some (.int q.1), some (.int q.2), y4]) ⟨s1, ks.eq (Nat.le_refl _) fun p => ⟨.inl, fun z => z.elim id fun z => by omega⟩, _, rfl⟩ ?_ ?_)
    · rintro j σ' H2 hj ⟨s2, ks2, y4, rfl⟩
      obtain ⟨kvs, hk, kl, put⟩ := ks2.put (q.1 + j)
      fold_lay
      refine ⟨D, _, rfl, DPut.k (k := Sum.inl (q.1 + j)) hk (szl (by omega)), same_step hD s2, (put _).eq (by omega) fun p => ?_, _, rfl⟩
      constructor
      · rintro ((z | z) | z)
        · exact .inl z
        · exact .inr ⟨z.1, by omega⟩
        · exact .inr ⟨by omega, by omega⟩
      · rintro (z | z)
        · exact .inl (.inl z)
        · by_cases e : p = q.1 + j
          · exact .inr e
          · exact .inl (.inr ⟨z.1, by omega⟩)
    · rintro σ' H2 ⟨s2, ks2, y4, rfl⟩
      refine ⟨s2, ks2.eq (by omega) fun p => ?_, _, _, _, rfl⟩
      rw [et, inS_perm (List.perm_append_comm), List.singleton_append, inS_cons]
      constructor
      · rintro (z | z)
        · exact .inr z
        · exact .inl ⟨z.1, by omega⟩
      · rintro (z | z)
        · exact .inr ⟨z.1, by omega⟩
        · exact .inl z
  · rintro σ' H1 ⟨s1, ⟨kvs, ks, h1, h2, h3, h4, h5⟩, y2, y3, y4, rfl⟩
    rw [xl, List.take_length] at h5
    have kl : ks.length ≤ 1800 := by
      have := congrArg List.length h2
      rw [List.length_map, List.length_map] at this
      omega
    fold_lay
    refine ⟨D, kvs, rfl, .inl h1, fun u hu => ?_⟩
    have eu : (kvs.map fun kv => kV kv.1) = ks.map V.int := by
      have : (kvs.map (·.1)).map kV = (ks.map Sum.inl).map kV := by rw [h2]
      rw [List.map_map, List.map_map] at this
      exact this
    rw [eu]
    have su := same_new (o := .lst (ks.map V.int)) hu
    refine ⟨u, ks, rfl, sqL upd_same, fun ys l py sy hl => ?_⟩
    have s12 := s1.trans (su.trans (same_new (o := .lst (ys.map V.int)) hl))
    refine k l ys _ (free2 hl (s1.trans su)) upd_same ?_ (fun x => py.mem_iff.trans (h5 x)) (by rw [py.length_eq]; exact kl) s12
    have nd : ys.Nodup := py.nodup_iff.mpr h3
    exact List.Pairwise.imp₂ (fun a b l n => by omega) sy nd
def sp_window_starts (K : PySem.W.Frag) : Sp := fun vs H Q _ => ∃ (lo hi z al : Int), vs = [.int lo, .int hi, .int z, .int al] ∧ 0 ≤ lo ∧ lo ≤ hi ∧ hi ≤ 20000 ∧ 1 ≤ z ∧ z ≤ 20000 ∧ 1 ≤ al ∧ al ≤ 16384 ∧ ∀ q, H q = none → Q (.ref q) (upd H q (.lst ((stA lo hi z al).map V.int)))
def N_l_window_starts : List Str := ["_law_low", "_law_high", "_law_size", "_law_alignment_here"]
def t_l_window_starts (K : PySem.W.Frag) : TS := (tRet (tLstRg3 (tCons (tCall sp_up7 [] E0 (tCons (tVar 0) (tCons (tVar 3) tNil))) (tCons (tOp oAdd (tOp oSub (tVar 1) (tVar 2)) (tC (.int 1))) (tCons (tVar 3) tNil)))))
theorem pure_window_starts {K : PySem.W.Frag} {vs : List V} {H : Hp} {Q : VK} {E : XK} (h : sp_window_starts K vs H Q E) : t_l_window_starts K { nx := fun _ H' => Q .non H', rt := Q } (start N_l_window_starts vs) H := by
  obtain ⟨lo, hi, z, al, rfl, h1, h2, h3, h4, h5, h6, h7, k⟩ := h
  obtain ⟨r1, r2⟩ := cnt_rg h1 h3 h6 h7 h4 h5 (by omega) (by omega)
  unfold t_l_window_starts
  fold_lay
  refine ⟨lo, al, rfl, h1, by omega, h6, by omega, ?_⟩
  fold_lay
  exact ⟨_, _, _, _, rfl, r1, by omega, k⟩
def sp_shuffled (K : PySem.W.Frag) : Sp := fun vs H Q _ => ∃ (d s : Addr) (n : Nat), vs = [.ref d, .int n] ∧ Dr d s H ∧ n ≤ 5000 ∧
  ∀ l (row : List Nat) H', H l = none → H' l = some (.lst (row.map fun j : Nat => V.int (j : Int))) → row.Perm (List.range n) → Dr d s H' → Same (hid s H) (hid s H') → Q (.ref l) H'
def N_l_shuffled : List Str := ["_law_draws_here", "_law_many", "_law_rest", "_law_row", "_law_k"]
def t_l_shuffled (K : PySem.W.Frag) : TS := (tSeq (tAsg (tLstRg (tRg1 (tVar 1))) (gName 2))
  (tSeq (tAsg (tLst tNil) (gName 3))
  (tSeq (tFor (iRng1 (tCons (tVar 1) tNil)) (gName 4) (tDrop (tBM K "list" rAppend (tVar 3) (tCons (tBM K "list" rPopAt (tVar 2) (tCons (tCall sp_take [] E0 (tCons (tVar 0) (tCons (tCB (rLen K) (tCons (tVar 2) tNil)) tNil))) tNil)) tNil))))
  (tRet (tVar 3)))))
theorem seqIdx {v : Int} {n : Nat} (h0 : 0 ≤ v) (h1 : v < n) : seqIndex? v n = some v.toNat := by
  unfold seqIndex?
  simp only [if_neg (show ¬ v < 0 by omega), decide_eq_true h0, decide_eq_true h1, Bool.and_true, if_true]
instance s_lstRg1 {ta : TE} {σ : St} {H : Hp} {Q : VK} : Stp (tLstRg (tRg1 ta) σ H Q) (ta σ H fun x H1 => ∃ n, x = .int n ∧ RgOk 0 n ∧ ∀ q, H1 q = none → Q (.ref q) (upd H1 q (.lst (rgV 0 n)))) := ⟨fun h => h⟩
theorem erase_perm {α : Type} {y : α} : ∀ {l : List α} {j : Nat}, l[j]? = some y → (y :: l.eraseIdx j).Perm l
  | [], j, e => by cases e
  | x :: l, 0, e => by
    rw [List.getElem?_cons_zero] at e
    rw [Option.some.inj e]
    exact List.Perm.refl _
  | x :: l, j + 1, e => by
    rw [List.getElem?_cons_succ] at e
    rw [List.eraseIdx_cons_succ]
    exact (List.Perm.swap x y _).trans ((erase_perm e).cons x)
theorem erase_map {α β : Type} {f : α → β} : ∀ {l : List α} {j : Nat}, (l.map f).eraseIdx j = (l.eraseIdx j).map f
  | [], j => rfl
  | x :: l, 0 => rfl
  | x :: l, j + 1 => by
    rw [List.map_cons, List.eraseIdx_cons_succ, List.eraseIdx_cons_succ, List.map_cons, erase_map]
abbrev natV (l : List Nat) : List V := l.map fun j : Nat => V.int (j : Int)
theorem pure_shuffled {K : PySem.W.Frag} {vs : List V} {H : Hp} {Q : VK} {E : XK} (h : sp_shuffled K vs H Q E) : t_l_shuffled K { nx := fun _ H' => Q .non H', rt := Q } (start N_l_shuffled vs) H := by
  obtain ⟨d, s, n, rfl, hD, nl, k⟩ := h
  show t_l_shuffled K _ [some (.ref d), some (.int n), none, none, none] H
  unfold t_l_shuffled
  fold_lay
  refine ⟨n, rfl, RgOk.of_le (by omega) (by omega) (by omega) (by omega), fun q hq => ?_⟩
  have ern : rgV 0 n = natV (List.range n) := by
    unfold rgV natV
    rw [show ((n : Int) - 0).toNat = n by omega]
    exact List.map_congr_left fun j _ => by rw [show (0 : Int) + (j : Int) = j by omega]
  rw [ern]
  have sq := same_new (o := .lst (natV (List.range n))) hq
  have hq0 : upd H q (.lst (natV (List.range n))) q = some (.lst (natV (List.range n))) := upd_same
  generalize upd H q (.lst (natV (List.range n))) = H1 at sq hq0
  fold_lay
  rename_i r hr
  have nrq : r ≠ q := fun z => by rw [z, hq0] at hr; cases hr
  have sr := same_new (o := .lst []) hr
  have hr0 := free2 hr sq
  have nqs := hD.ne hq
  have nrs := hD.ne hr0
  fold_depth
  refine f_rng1 (by omega) (by omega) (l_rng (fun i σ' H' => Dr d s H' ∧ Same (hid s H) (hid s H') ∧ ∃ (rest row : List Nat) (y4 : Option V), H' q = some (.lst (natV rest)) ∧ H' r = some (.lst (natV row)) ∧ (row ++ rest).Perm (List.range n) ∧ row.length = i ∧ σ' = [some (.ref d), some (.int n), some (.ref q), some (.ref r), y4]) ⟨hD.same (sq.trans sr), hid_mono (sq.trans sr), List.range n, [], _, sr _ _ hq0, upd_same, by exact List.Perm.refl _, rfl, rfl⟩ ?_ ?_)
  · rintro i σ' H2 hi ⟨hD2, s2, rest, row, y4, hq2, hr2, pm, rl, rfl⟩
    have al := pm.length_eq
    rw [List.length_append, List.length_range] at al
    fold_lay
    rw [show (natV rest).length = rest.length from List.length_map _]
    refine c_take hD2 (by omega) fun v H3 v0 v1 hD3 s3 => ?_
    have hq3 := hget s3 nqs hq2
    have hr3 := hget s3 nrs hr2
    have s23 := s2.trans s3
    obtain ⟨j, rfl⟩ : ∃ j : Nat, v = j := ⟨v.toNat, by omega⟩
    have jl : j < rest.length := by omega
    obtain ⟨y, ej⟩ : ∃ y, rest[j]? = some y := ⟨_, List.getElem?_eq_getElem jl⟩
    have pj := erase_perm ej
    have em : (natV rest).eraseIdx j = natV (rest.eraseIdx j) := erase_map
    fold_lay
    refine ⟨q, natV rest, j, j, .int y, rfl, rfl, hq3, by omega, by omega, seqIdx v0 (by rw [show (natV rest).length = rest.length from List.length_map _]; omega), by rw [List.getElem?_map, ej]; rfl, ?_⟩
    rw [em]
    fold_lay
    refine i_put (upd_off nrq hr3) (by rw [List.length_map]; omega) ?_
    have hD4 := dr_upd7 (o := .lst (natV (rest.eraseIdx j))) hD hq hD3 s23
    have s4 := setS7 (o := .lst (natV (rest.eraseIdx j))) s23 hq
    refine ⟨dr_upd7 hD hr0 hD4 s4, setS7 s4 hr0, rest.eraseIdx j, row ++ [y], _, upd_off nrq.symm upd_same, ?_, ?_, by rw [List.length_append, rl]; rfl, rfl⟩
    · rw [upd_same]
      unfold natV
      rw [List.map_append]
      rfl
    · rw [List.append_assoc]
      exact ((List.Perm.refl row).append pj).trans pm
  · rintro σ' H2 ⟨hD2, s2, rest, row, y4, hq2, hr2, pm, rl, rfl⟩
    have al := pm.length_eq
    rw [List.length_append, List.length_range] at al
    have : rest = [] := List.eq_nil_of_length_eq_zero (by omega)
    subst this
    rw [List.append_nil] at pm
    fold_lay
    exact k r row H2 hr0 hr2 pm hD2 s2
def sp_cover_case (K : PySem.W.Frag) : Sp := fun vs H Q _ => ∃ (d s : Addr), vs = [.ref d] ∧ Dr d s H ∧
  ∀ t r lo hi z al xs ps H', H t = none → H r = none → H' t = some (.tup [.int lo, .int hi, .int z, .int al, .ref r]) → H' r = some (.lst xs) → Prs H' xs ps → ps.length ≤ 60 → (∀ p ∈ ps, 0 ≤ p.1 ∧ 1 ≤ p.2 ∧ p.2 ≤ 30 ∧ p.1 + p.2 ≤ 30000) → 0 ≤ lo → lo ≤ hi → hi ≤ 20000 → 1 ≤ z → z ≤ 20000 → (∃ k : Nat, al = 2 ^ k) → al ≤ 16384 → Dr d s H' → Same (hid s H) (hid s H') → Q (.ref t) H'
def N_l_cover_case : List Str := ["_law_draws_here", "_law_high", "_law_low", "_law_size", "_law_alignment_here", "_law_spans_here", "_law_held", "_law_at", "_law_reach", "_law_k", "_law_one"]
def t_l_cover_case (K : PySem.W.Frag) : TS := (tSeq (tAsg (tCall sp_count [] E0 (tCons (tVar 0) (tCons (tC (.int 24)) (tCons (tC (.int 200)) tNil)))) (gName 1))
  (tSeq (tAsg (tOp (rIxL K) (tLst (tCons (tC (.int 0)) (tCons (tCall sp_take [] E0 (tCons (tVar 0) (tCons (tC (.int 9)) tNil))) (tCons (tCall sp_number [] E0 (tCons (tVar 0) (tCons (tC (.int 0)) (tCons (tOp oSub (tC (.int 20000)) (tVar 1)) tNil)))) tNil)))) (tCall sp_take [] E0 (tCons (tVar 0) (tCons (tC (.int 3)) tNil)))) (gName 2))
  (tSeq (tAsg (tOp oAdd (tVar 2) (tVar 1)) (gName 1))
  (tSeq (tAsg (tCall sp_between [] E0 (tCons (tVar 0) (tCons (tC (.int 1)) (tCons (tC (.int 6)) tNil)))) (gName 3))
  (tSeq (tAsg (tCall sp_alignment [] E0 (tCons (tVar 0) (tCons (tC (.int 2)) tNil))) (gName 4))
  (tSeq (tIfS (tTest (tOp rEq (tCall sp_take [] E0 (tCons (tVar 0) (tCons (tC (.int 9)) tNil))) (tC (.int 8)))) (tAsg (tCall sp_number [] E0 (tCons (tVar 0) (tCons (tC (.int 1)) (tCons (tC (.int 20000)) tNil)))) (gName 3)) tNext)
  (tSeq (tIfS (tTest (tOp rEq (tCall sp_take [] E0 (tCons (tVar 0) (tCons (tC (.int 9)) tNil))) (tC (.int 8)))) (tAsg (tCall sp_alignment [] E0 (tCons (tVar 0) (tCons (tC (.int 14)) tNil))) (gName 4)) tNext)
  (tSeq (tIfS (tTest (tOp rEq (tCall sp_take [] E0 (tCons (tVar 0) (tCons (tC (.int 3)) tNil))) (tC (.int 0)))) (tSeq (tAsg (tCall (sp_spans7 K) [] E0 (tCons (tVar 0) (tCons (tCall sp_take [] E0 (tCons (tVar 0) (tCons (tC (.int 5)) tNil))) (tCons (tC (.int 30)) tNil)))) (gName 5))
  (tRet (tTup (tCons (tVar 2) (tCons (tVar 1) (tCons (tVar 3) (tCons (tVar 4) (tCons (tLc (iList K (tVar 5)) (gName 10) tYes (tTup (tCons (tOp oAdd (tVar 2) (tOp (rIxT K) (tVar 10) (tC (.int 0)))) (tCons (tOp (rIxT K) (tVar 10) (tC (.int 1))) tNil))) [10]) tNil)))))))) tNext)
  (tSeq (tAsg (tLst tNil) (gName 6))
  (tSeq (tAsg (tOp oAdd (tOp oSub (tVar 2) (tC (.int 2))) (tCall sp_take [] E0 (tCons (tVar 0) (tCons (tC (.int 5)) tNil)))) (gName 7))
  (tSeq (tAsg (tOp oAdd (tCB rMin2 (tCons (tVar 3) (tCons (tC (.int 12)) tNil))) (tOp oDiv (tCall sp_take [] E0 (tCons (tVar 0) (tCons (tC (.int 4)) tNil))) (tC (.int 3)))) (gName 8))
  (tSeq (tFor (iRng1 (tCons (tC (.int 60)) tNil)) (gName 9) (tSeq (tIfS (tTest (tOp oGt (tVar 7) (tOp oAdd (tVar 1) (tC (.int 1))))) tBreak tNext)
  (tSeq (tIfS (tTest (tOp oGe (tVar 7) (tC (.int 0)))) (tDrop (tBM K "list" rAppend (tVar 6) (tCons (tTup (tCons (tVar 7) (tCons (tC (.int 1)) tNil))) tNil))) tNext)
  (tAsg (tOp oAdd (tOp oAdd (tVar 7) (tC (.int 1))) (tCall sp_take [] E0 (tCons (tVar 0) (tCons (tVar 8) tNil)))) (gName 7)))))
  (tRet (tTup (tCons (tVar 2) (tCons (tVar 1) (tCons (tVar 3) (tCons (tVar 4) (tCons (tVar 6) tNil)))))))))))))))))))
theorem freeH {d s q : Addr} {H H' : Hp} (e : H' q = none) (h : Dr d s H') (k : Same (hid s H) (hid s H')) : H q = none := by
  cases g : H q with
  | none => rfl
  | some o =>
    have := hget k (h.ne e) g
    rw [e] at this
    cases this
theorem pure_cover_case {K : PySem.W.Frag} {vs : List V} {H : Hp} {Q : VK} {E : XK} (h : sp_cover_case K vs H Q E) : t_l_cover_case K { nx := fun _ H' => Q .non H', rt := Q } (start N_l_cover_case vs) H := by
  obtain ⟨d, s, rfl, hD, k⟩ := h
  show t_l_cover_case K _ [some (.ref d), none, none, none, none, none, none, none, none, none, none] H
  unfold t_l_cover_case
  fold_lay
  refine c_count hD (by omega) (by omega) (by omega) fun hg H1 hg0 hg1 hD1 s1 => ?_
  fold_lay
  refine c_take hD1 (by omega) fun l1 H2 l10 l11 hD2 s2 => ?_
  fold_lay
  refine c_number hD2 (by omega) (by omega) fun l2 H3 l20 l21 hD3 s3 => ?_
  fold_lay
  rename_i ll hll
  have sl := same_new (o := .lst [.int 0, .int l1, .int l2]) hll
  refine c_take (hD3.same sl) (by omega) fun v H4 v0 v1 hD4 s4 => ?_
  have hl4 : H4 ll = some (.lst [.int 0, .int l1, .int l2]) := hget s4 (hD3.ne hll) upd_same
  have s04 : Same (hid s H) (hid s H4) := s1.trans (s2.trans (s3.trans ((hid_mono sl).trans s4)))
  obtain ⟨lo, el, lo0, lo1⟩ : ∃ lo : Int, ([.int 0, .int l1, .int l2] : List V)[v.toNat]? = some (.int lo) ∧ 0 ≤ lo ∧ lo + hg ≤ 20000 := by
    have hv : v = 0 ∨ v = 1 ∨ v = 2 := by omega
    rcases hv with rfl | rfl | rfl
    · exact ⟨0, rfl, by omega, by omega⟩
    · exact ⟨l1, rfl, by omega, by omega⟩
    · exact ⟨l2, rfl, by omega, by omega⟩
  refine i_ixL (sqL hl4) (at_of (j := v.toNat) (by omega) el) ?_
  clear hl4 el sl hll
  fold_lay
  refine c_between hD4 (by omega) fun z0 H5 z00 z01 hD5 s5 => ?_
  fold_lay
  refine c_alignment hD5 (by omega) (by omega) fun k0 H6 k00 hD6 s6 => ?_
  have s06 := s04.trans (s5.trans s6)
  have p2 : ∀ k : Nat, k ≤ 14 → (2 : Int) ^ k ≤ 16384 := fun k l => by
    have := Nat.pow_le_pow_right (n := 2) (by omega) l
    have e : ((2 ^ k : Nat) : Int) = (2 : Int) ^ k := by simp
    omega
  fold_lay
  refine i_cut (fun σ' H' => ∃ z : Int, 1 ≤ z ∧ z ≤ 20000 ∧ Dr d s H' ∧ Same (hid s H) (hid s H') ∧ σ' = [some (.ref d), some (.int (lo + hg)), some (.int lo), some (.int z), some (.int (2 ^ k0)), none, none, none, none, none, none]) ?_ (fun nx key => ?_)
  rotate_left
  · fold_lay
    refine c_take hD6 (by omega) fun w H7 w0 w1 hD7 s7 => ?_
    fold_lay
    refine i_ifd (fun _ => ?_) (fun _ => key _ _ ⟨z0, by omega, by omega, hD7, s06.trans s7, rfl⟩)
    fold_lay
    refine c_number hD7 (by omega) (by omega) fun z H8 z1 z2 hD8 s8 => ?_
    fold_lay
    exact key _ _ ⟨z, z1, z2, hD8, s06.trans (s7.trans s8), rfl⟩
  rintro σ' H7 ⟨z, z1, z2, hD7, s7, rfl⟩
  fold_lay
  refine i_cut (fun σ' H' => ∃ kk : Nat, kk ≤ 14 ∧ Dr d s H' ∧ Same (hid s H) (hid s H') ∧ σ' = [some (.ref d), some (.int (lo + hg)), some (.int lo), some (.int z), some (.int (2 ^ kk)), none, none, none, none, none, none]) ?_ (fun nx key => ?_)
  rotate_left
  · fold_lay
    refine c_take hD7 (by omega) fun w H8 w0 w1 hD8 s8 => ?_
    fold_lay
    refine i_ifd (fun _ => ?_) (fun _ => key _ _ ⟨k0, by omega, hD8, s7.trans s8, rfl⟩)
    fold_lay
    refine c_alignment hD8 (by omega) (by omega) fun kk H9 k1 hD9 s9 => ?_
    fold_lay
    exact key _ _ ⟨kk, by omega, hD9, s7.trans (s8.trans s9), rfl⟩
  rintro σ' H8 ⟨kk, kl, hD8, s8, rfl⟩
  have p2 := p2 kk kl
  clear s7 hD7 s06 s04 s1 s2 s3 s4 s5 s6 hD1 hD2 hD3 hD4 hD5 hD6
  have fin : ∀ t r xs ps H', H t = none → H r = none → H' t = some (.tup [.int lo, .int (lo + hg), .int z, .int (2 ^ kk), .ref r]) → H' r = some (.lst xs) → Prs H' xs ps → ps.length ≤ 60 → (∀ p ∈ ps, 0 ≤ p.1 ∧ 1 ≤ p.2 ∧ p.2 ≤ 30 ∧ p.1 + p.2 ≤ 30000) → Dr d s H' → Same (hid s H) (hid s H') → Q (.ref t) H' := fun t r xs ps H' a1 a2 a3 a4 a5 a6 a7 a8 a9 =>
    k t r lo (lo + hg) z (2 ^ kk) xs ps H' a1 a2 a3 a4 a5 a6 a7 lo0 (by omega) lo1 z1 z2 ⟨kk, rfl⟩ p2 a8 a9
  clear k
  fold_lay
  fold_depth
  refine c_take hD8 (by omega) fun w H9 w0 w1 hD9 s9 => ?_
  have s09 := s8.trans s9
  fold_lay
  refine i_ifd (fun _ => ?_) (fun _ => ?_)
  · fold_lay
    refine c_take hD9 (by omega) fun w2 H10 w20 w21 hD10 s10 => ?_
    fold_lay
    refine ⟨d, s, w2, 30, rfl, hD10, by omega, by omega, by omega, by omega, fun r xs ps H11 hr hr1 hp pl ok hD11 s11 => ?_⟩
    have s011 := s09.trans (s10.trans s11)
    have xl := hp.len
    fold_lay
    refine c_lst (sqL hr1) (m_lst (xs := xs) (fun D i H' => Same H11 H' ∧ H11 D = none ∧ ∃ ys, H' D = some (.lst ys) ∧ Prs H' ys ((ps.take i).map fun p => (lo + p.1, p.2))) (fun D hD => ⟨same_new hD, hD, [], upd_same, .nil⟩) (fun D i H' _ h => sqL (h.1 _ _ hr1)) ?_ ?_)
    · rintro D i x H' hx ⟨t1, t2, ys, t3, t4⟩
      have il := (List.getElem?_eq_some_iff.mp hx).1
      obtain ⟨q, t, eq, rfl, ht⟩ := hp.at hx
      have ht := t1 _ _ ht
      have yl := t4.len
      rw [List.length_map, List.length_take] at yl
      fold_lay
      refine ⟨rfl, ?_⟩
      fold_lay
      rename_i u hu
      have su := same_new (o := .tup [.int (lo + q.1), .int q.2]) hu
      have tk := tupK_upd7 (o := .lst (ys ++ [.ref u])) (su _ _ t3)
      refine ⟨ys, su _ _ t3, szl (by omega), same_step t2 (t1.trans su), t2, _, upd_same, ?_⟩
      rw [List.take_add_one, eq, List.map_append]
      exact ((t4.mono su).tupK tk).app (.cons (tk _ _ upd_same) .nil)
    · rintro D H12 ⟨t1, t2, ys, t3, t4⟩
      rw [xl, List.take_length] at t4
      fold_lay
      rename_i u hu
      have su := same_new (o := .tup [.int lo, .int (lo + hg), .int z, .int (2 ^ kk), .ref D]) hu
      have sF := t1.trans su
      have hD12 := hD11.same t1
      have s012 := s011.trans (hid_mono t1)
      refine fin u D ys _ _ (freeH hu hD12 s012) (freeH t2 hD11 s011) upd_same (su _ _ t3) (t4.mono su) (by rw [List.length_map]; exact pl) (fun p mp => ?_) (hD12.same su) (s012.trans (hid_mono su))
      obtain ⟨q, mq, rfl⟩ := List.mem_map.mp mp
      obtain ⟨o1, o2, o3⟩ := ok q mq
      exact ⟨by show 0 ≤ lo + q.1; omega, o2, by show q.2 ≤ 30; omega, by show lo + q.1 + q.2 ≤ 30000; omega⟩
  · fold_lay
    rename_i r hr
    have sr := same_new (o := .lst []) hr
    have hr0 := freeH hr hD9 s09
    have nrs := hD.ne hr0
    have h1r : upd H9 r (.lst []) r = some (.lst []) := upd_same
    have hDr := hD9.same sr
    have s0r := s09.trans (hid_mono sr)
    generalize upd H9 r (.lst []) = Hr at h1r hDr s0r
    refine c_take hDr (by omega) fun w2 H10 w20 w21 hD10 s10 => ?_
    have h10 := hget s10 nrs h1r
    have s010 := s0r.trans s10
    fold_lay
    refine c_take hD10 (by omega) fun w3 H11 w30 w31 hD11 s11 => ?_
    have h11 := hget s11 nrs h10
    have s011 := s010.trans s11
    have cd : CDivW w3 3 := cdiv (by omega) (by omega)
    fold_lay
    have rb : (if 12 < z then (12 : Int) else z) + w3 / 3 ≤ 13 := by split <;> omega
    generalize (if 12 < z then (12 : Int) else z) + w3 / 3 = rch at rb
    refine i_cut (fun σ' H' => ∃ (xs : List V) (ps : List PR) (a : Int) (y9 : Option V), Dr d s H' ∧ Same (hid s H) (hid s H') ∧ H' r = some (.lst xs) ∧ Prs H' xs ps ∧ ps.length ≤ 60 ∧ (∀ p ∈ ps, 0 ≤ p.1 ∧ 1 ≤ p.2 ∧ p.2 ≤ 30 ∧ p.1 + p.2 ≤ 30000) ∧ σ' = [some (.ref d), some (.int (lo + hg)), some (.int lo), some (.int z), some (.int (2 ^ kk)), none, some (.ref r), some (.int a), some (.int rch), y9, none]) ?_ (fun nx key => ?_)
    rotate_left
    · fold_lay
      refine f_rng1 (by omega) (by omega) (l_rng (fun i σ' H' => ∃ (xs : List V) (ps : List PR) (a : Int) (y9 : Option V), Dr d s H' ∧ Same (hid s H) (hid s H') ∧ H' r = some (.lst xs) ∧ Prs H' xs ps ∧ ps.length ≤ i ∧ (∀ p ∈ ps, 0 ≤ p.1 ∧ 1 ≤ p.2 ∧ p.2 ≤ 30 ∧ p.1 + p.2 ≤ 30000) ∧ σ' = [some (.ref d), some (.int (lo + hg)), some (.int lo), some (.int z), some (.int (2 ^ kk)), none, some (.ref r), some (.int a), some (.int rch), y9, none]) ⟨[], [], _, _, hD11, s011, h11, .nil, Nat.le_refl _, (fun _ m => by cases m), rfl⟩ ?_ ?_)
      · rintro i σ' H12 hi ⟨xs, ps, a, y9, hD12, s12, h12, hp, pl, ok, rfl⟩
        have xl := hp.len
        fold_lay
        fold_depth
        refine i_ifd (fun e1 => ?_) (fun e1 => ?_)
        · fold_lay
          exact key _ _ ⟨xs, ps, a, _, hD12, s12, h12, hp, by omega, ok, rfl⟩
        fold_lay
        refine i_cut (fun σ' H' => ∃ (xs : List V) (ps : List PR), Dr d s H' ∧ Same (hid s H) (hid s H') ∧ H' r = some (.lst xs) ∧ Prs H' xs ps ∧ ps.length ≤ i + 1 ∧ (∀ p ∈ ps, 0 ≤ p.1 ∧ 1 ≤ p.2 ∧ p.2 ≤ 30 ∧ p.1 + p.2 ≤ 30000) ∧ σ' = [some (.ref d), some (.int (lo + hg)), some (.int lo), some (.int z), some (.int (2 ^ kk)), none, some (.ref r), some (.int a), some (.int rch), some (.int (0 + i)), none]) ?_ (fun nx2 key2 => ?_)
        rotate_left
        · fold_lay
          refine i_ifd (fun e2 => ?_) (fun e2 => key2 _ _ ⟨xs, ps, hD12, s12, h12, hp, by omega, ok, rfl⟩)
          fold_lay
          rename_i u hu
          have su := same_new (o := .tup [.int a, .int 1]) hu
          have h13 := su _ _ h12
          refine i_put h13 (by omega) ?_
          have tk := tupK_upd7 (o := .lst (xs ++ [.ref u])) h13
          have s13 := s12.trans (hid_mono su)
          have hD13 := hD12.same su
          refine key2 _ _ ⟨_, ps ++ [(a, 1)], dr_upd7 hD hr0 hD13 s13, setS7 s13 hr0, upd_same, ((hp.mono su).tupK tk).app (.cons (tk _ _ upd_same) .nil), by rw [List.length_append]; exact Nat.succ_le_succ pl, fun p mp => ?_, rfl⟩
          rcases List.mem_append.mp mp with mp | mp
          · exact ok p mp
          · rw [List.mem_singleton.mp mp]
            exact ⟨by omega, Int.le_refl 1, (by show (1 : Int) ≤ 30; omega), by show a + 1 ≤ 30000; omega⟩
        rintro σ' H13 ⟨xs, ps, hD13, s13, h13, hp, pl, ok, rfl⟩
        fold_lay
        refine c_take hD13 (by omega) fun w4 H14 w40 w41 hD14 s14 => ?_
        fold_lay
        exact ⟨xs, ps, _, _, hD14, s13.trans s14, hget s14 nrs h13, hp.tupK (hidTup7 hD13 s14), pl, ok, rfl⟩
      · rintro σ' H12 ⟨xs, ps, a, y9, hD12, s12, h12, hp, pl, ok, rfl⟩
        exact key _ _ ⟨xs, ps, a, _, hD12, s12, h12, hp, pl, ok, rfl⟩
    rintro σ' H12 ⟨xs, ps, a, y9, hD12, s12, h12, hp, pl, ok, rfl⟩
    fold_lay
    rename_i u hu
    have su := same_new (o := .tup [.int lo, .int (lo + hg), .int z, .int (2 ^ kk), .ref r]) hu
    exact fin u r xs ps _ (freeH hu hD12 s12) hr0 upd_same (su _ _ h12) (hp.mono su) pl ok (hD12.same su) (s12.trans (hid_mono su))
/-! ## Starts -/
/-! ### starts in runs, plainly -/
theorem runs_same {l : List PR} (h : RunsL l) {p q : PR} (mp : p ∈ l) (mq : q ∈ l) {x : Int} (a : p.1 ≤ x ∧ x < p.1 + p.2) (b : q.1 ≤ x ∧ x < q.1 + q.2) : p = q := by
  obtain ⟨i, hi, ei⟩ := List.getElem_of_mem mp
  obtain ⟨j, hj, ej⟩ := List.getElem_of_mem mq
  have pw := List.pairwise_iff_getElem.mp h.ap
  rcases Nat.lt_trichotomy i j with l | l | l
  · have := pw i j hi hj l
    rw [ei, ej] at this
    omega
  · subst l
    rw [← ei, ← ej]
  · have := pw j i hj hi l
    rw [ei, ej] at this
    omega
theorem runs_ord {l : List PR} (h : RunsL l) {p q : PR} (mp : p ∈ l) (mq : q ∈ l) (a : p.1 < q.1) : p.1 + p.2 < q.1 := by
  obtain ⟨i, hi, ei⟩ := List.getElem_of_mem mp
  obtain ⟨j, hj, ej⟩ := List.getElem_of_mem mq
  have pw := List.pairwise_iff_getElem.mp h.ap
  rcases Nat.lt_trichotomy i j with l | l | l
  · have := pw i j hi hj l
    rw [ei, ej] at this
    exact this
  · subst l
    rw [ei] at ej
    rw [ej] at a
    omega
  · have := pw j i hj hi l
    rw [ei, ej] at this
    have := (h.ok q mq).2.1
    omega
theorem runs_eq {l : List PR} (h : RunsL l) {p q : PR} (mp : p ∈ l) (mq : q ∈ l) (e : p.1 = q.1) : p = q := by
  have := (h.ok p mp).2.1
  have := (h.ok q mq).2.1
  exact runs_same h mp mq (x := p.1) ⟨by omega, by omega⟩ ⟨by omega, by omega⟩
/-- a stretch of places within separate runs lies in one of them -/
theorem one_run {l : List PR} (h : RunsL l) {a : Int} : ∀ n : Nat, 0 < n → (∀ x, a ≤ x → x < a + n → inSp l x) → ∃ p ∈ l, p.1 ≤ a ∧ a + n ≤ p.1 + p.2
  | 0, z, _ => absurd z (Nat.lt_irrefl _)
  | 1, _, k => by
    obtain ⟨p, m, q1, q2⟩ := k a (by omega) (by omega)
    exact ⟨p, m, q1, by omega⟩
  | n + 2, _, k => by
    obtain ⟨p, m, q1, q2⟩ := one_run h (n + 1) (by omega) fun x h1 h2 => k x h1 (by omega)
    obtain ⟨r, mr, r1, r2⟩ := k (a + n + 1) (by omega) (by omega)
    by_cases c : a + ((n + 2 : Nat) : Int) ≤ p.1 + p.2
    · exact ⟨p, m, q1, c⟩
    · have e : a + (n : Int) + 1 = p.1 + p.2 := by omega
      by_cases d : p.1 < r.1
      · have := runs_ord h m mr d
        omega
      · rcases Int.lt_or_eq_of_le (show r.1 ≤ p.1 by omega) with d | d
        · have := runs_ord h mr m d
          have := (h.ok p m).2.1
          omega
        · have := runs_eq h mr m d
          subst this
          omega
/-- runs are told by their places -/
theorem runs_uniq : ∀ {l m : List PR}, RunsL l → RunsL m → (∀ x, inSp l x ↔ inSp m x) → l = m
  | [], m, _, hm, e => by
    cases m with
    | nil => rfl
    | cons q m =>
      have := (hm.ok q List.mem_cons_self).2.1
      exact absurd ((e q.1).mpr ⟨q, List.mem_cons_self, by omega, by omega⟩) inS_nil
  | p :: l, [], hl, _, e => by
    have := (hl.ok p List.mem_cons_self).2.1
    exact absurd ((e p.1).mp ⟨p, List.mem_cons_self, by omega, by omega⟩) inS_nil
  | p :: l, q :: m, hl, hm, e => by
    obtain ⟨a1, a2⟩ := List.pairwise_cons.mp hl.ap
    obtain ⟨b1, b2⟩ := List.pairwise_cons.mp hm.ap
    have hp := hl.ok p List.mem_cons_self
    have hq := hm.ok q List.mem_cons_self
    have low : ∀ {l : List PR} {p : PR}, (∀ a ∈ l, p.1 + p.2 < a.1) → ∀ x, inSp l x → p.1 + p.2 < x := fun k x ⟨r, mr, r1, _⟩ => by
      have := k r mr
      omega
    have fst : p.1 = q.1 := by
      have h1 : q.1 ≤ p.1 := by
        rcases inS_cons.mp ((e p.1).mp ⟨p, List.mem_cons_self, by omega, by omega⟩) with h | h
        · exact h.1
        · have := low b1 _ h
          omega
      have h2 : p.1 ≤ q.1 := by
        rcases inS_cons.mp ((e q.1).mpr ⟨q, List.mem_cons_self, by omega, by omega⟩) with h | h
        · exact h.1
        · have := low a1 _ h
          omega
      omega
    have snd : p.2 = q.2 := by
      have h1 : p.1 + p.2 ≤ q.1 + q.2 := Classical.byContradiction fun c => by
        rcases inS_cons.mp ((e (q.1 + q.2)).mp ⟨p, List.mem_cons_self, by omega, by omega⟩) with h | h
        · omega
        · have := low b1 _ h
          omega
      have h2 : q.1 + q.2 ≤ p.1 + p.2 := Classical.byContradiction fun c => by
        rcases inS_cons.mp ((e (p.1 + p.2)).mpr ⟨q, List.mem_cons_self, by omega, by omega⟩) with h | h
        · omega
        · have := low a1 _ h
          omega
      omega
    have pq : p = q := by
      obtain ⟨p1, p2⟩ := p
      obtain ⟨q1, q2⟩ := q
      simp only at fst snd
      rw [fst, snd]
    subst pq
    refine congrArg (p :: ·) (runs_uniq ⟨a2, fun x mx => hl.ok x (List.mem_cons_of_mem _ mx)⟩ ⟨b2, fun x mx => hm.ok x (List.mem_cons_of_mem _ mx)⟩ fun x => ⟨fun hx => ?_, fun hx => ?_⟩)
    · rcases inS_cons.mp ((e x).mp (inS_cons.mpr (.inr hx))) with h | h
      · have := low a1 _ hx
        omega
      · exact h
    · rcases inS_cons.mp ((e x).mpr (inS_cons.mpr (.inr hx))) with h | h
      · have := low b1 _ hx
        omega
      · exact h
/-! the start due -/
def Fit (z al : Int) (p : PR) : Prop := upA p.1 al + z ≤ p.1 + p.2
instance {z al : Int} {p : PR} : Decidable (Fit z al p) := by unfold Fit; infer_instance
def stepD (b : Bool) (z al : Int) (s : Option Int × Int) (p : PR) : Option Int × Int := if Fit z al p ∧ (s.1 = none ∨ (b = true ∧ p.2 < s.2)) then (some (upA p.1 al), p.2) else s
def dueF (b : Bool) (z al : Int) (rs : List PR) : Option Int := (rs.foldl (stepD b z al) (none, 0)).1
structure IsDue (b : Bool) (z al : Int) (rs : List PR) (o : Option Int) : Prop where
  h : (o = none ∧ ∀ p ∈ rs, ¬ Fit z al p) ∨ ∃ p ∈ rs, Fit z al p ∧ o = some (upA p.1 al) ∧ ∀ q ∈ rs, Fit z al q → (b = false → p.1 ≤ q.1) ∧ (b = true → p.2 < q.2 ∨ (p.2 = q.2 ∧ p.1 ≤ q.1))
theorem dueF_go {b : Bool} {z al : Int} : ∀ {todo done : List PR} {s : Option Int × Int}, (done ++ todo).Pairwise (fun p q => p.1 < q.1) →
    ((s.1 = none ∧ ∀ p ∈ done, ¬ Fit z al p) ∨ ∃ p ∈ done, Fit z al p ∧ s.1 = some (upA p.1 al) ∧ s.2 = p.2 ∧ ∀ q ∈ done, Fit z al q → (b = false → p.1 ≤ q.1) ∧ (b = true → p.2 < q.2 ∨ (p.2 = q.2 ∧ p.1 ≤ q.1))) → IsDue b z al (done ++ todo) (todo.foldl (stepD b z al) s).1
  | [], done, s, _, h => by
    rw [List.append_nil]
    refine ⟨h.imp id ?_⟩
    rintro ⟨p, m, h1, h2, _, h3⟩
    exact ⟨p, m, h1, h2, h3⟩
  | p :: todo, done, s, pw, h => by
    rw [List.foldl_cons, show done ++ p :: todo = (done ++ [p]) ++ todo by rw [List.append_assoc]; rfl]
    rw [show done ++ p :: todo = (done ++ [p]) ++ todo by rw [List.append_assoc]; rfl] at pw
    have late : ∀ q ∈ done, q.1 < p.1 := fun q m => (List.pairwise_append.mp (List.pairwise_append.mp pw).1).2.2 q m p List.mem_cons_self
    refine dueF_go pw ?_
    unfold stepD
    by_cases f : Fit z al p
    · by_cases c : s.1 = none ∨ (b = true ∧ p.2 < s.2)
      · rw [if_pos ⟨f, c⟩]
        refine .inr ⟨p, List.mem_append_right _ List.mem_cons_self, f, rfl, rfl, fun q mq fq => ?_⟩
        rcases List.mem_append.mp mq with mq | mq
        · rcases h with ⟨h1, h2⟩ | ⟨r, mr, r1, r2, r3, r4⟩
          · exact absurd fq (h2 q mq)
          · rcases c with c | ⟨c1, c2⟩
            · rw [r2] at c
              cases c
            · refine ⟨fun e => ?_, fun _ => ?_⟩
              · rw [e] at c1
                cases c1
              · have := (r4 q mq fq).2 c1
                omega
        · rw [List.mem_singleton.mp mq]
          exact ⟨fun _ => Int.le_refl _, fun _ => .inr ⟨rfl, Int.le_refl _⟩⟩
      · rw [if_neg fun z => c z.2]
        rcases h with ⟨h1, h2⟩ | ⟨r, mr, r1, r2, r3, r4⟩
        · exact absurd (.inl h1) c
        · refine .inr ⟨r, List.mem_append_left _ mr, r1, r2, r3, fun q mq fq => ?_⟩
          rcases List.mem_append.mp mq with mq | mq
          · exact r4 q mq fq
          · rw [List.mem_singleton.mp mq]
            have := late r mr
            refine ⟨fun _ => by omega, fun e => ?_⟩
            have : ¬ p.2 < s.2 := fun z => c (.inr ⟨e, z⟩)
            omega
    · rw [if_neg fun z => f z.1]
      rcases h with ⟨h1, h2⟩ | ⟨r, mr, r1, r2, r3, r4⟩
      · refine .inl ⟨h1, fun q mq => ?_⟩
        rcases List.mem_append.mp mq with mq | mq
        · exact h2 q mq
        · rw [List.mem_singleton.mp mq]
          exact f
      · refine .inr ⟨r, List.mem_append_left _ mr, r1, r2, r3, fun q mq fq => ?_⟩
        rcases List.mem_append.mp mq with mq | mq
        · exact r4 q mq fq
        · rw [List.mem_singleton.mp mq] at fq
          exact absurd fq f
theorem runs_asc {rs : List PR} (h : RunsL rs) : rs.Pairwise (fun p q => p.1 < q.1) := h.ap.imp_of_mem fun {x y} mx _ l => by have := (h.ok x mx).2.1; omega
theorem dueF_is {b : Bool} {z al : Int} {rs : List PR} (h : RunsL rs) : IsDue b z al rs (dueF b z al rs) := by
  have := dueF_go (b := b) (z := z) (al := al) (todo := rs) (done := []) (s := (none, 0)) (runs_asc h) (.inl ⟨rfl, fun _ m => by cases m⟩)
  exact this
/-- a place from which the size lies in the runs -/
def St5 (z al : Int) (rs : List PR) (a : Int) : Prop := 0 ≤ a ∧ a % al = 0 ∧ ∀ x, a ≤ x → x < a + z → inSp rs x
theorem upA_mul {n m : Int} : upA n m % m = 0 := by
  unfold upA
  exact Int.mul_emod_left _ _
theorem upA_least {n m a : Int} (h1 : 1 ≤ m) (h2 : n ≤ a) (h3 : a % m = 0) : upA n m ≤ a := by
  obtain ⟨q, rfl⟩ := Int.dvd_of_emod_eq_zero h3
  unfold upA
  rw [Int.mul_comm m q] at *
  refine Int.mul_le_mul_of_nonneg_right ?_ (by omega)
  have : (n + m - 1) / m ≤ (q * m + (m - 1)) / m := Int.ediv_le_ediv (by omega) (by omega)
  have e1 : (q * m + (m - 1)) / m = q := by rw [Int.add_comm, Int.add_mul_ediv_right _ _ (by omega), Int.ediv_eq_zero_of_lt (by omega) (by omega), Int.zero_add]
  omega
theorem st5_run {z al a : Int} {rs : List PR} (h : RunsL rs) (hz : 1 ≤ z) (ha : 1 ≤ al) (s : St5 z al rs a) : ∃ p ∈ rs, p.1 ≤ a ∧ a + z ≤ p.1 + p.2 ∧ Fit z al p ∧ upA p.1 al ≤ a := by
  obtain ⟨s0, s1, s2⟩ := s
  obtain ⟨n, rfl⟩ := Int.eq_ofNat_of_zero_le (show 0 ≤ z by omega)
  obtain ⟨p, m, p1, p2⟩ := one_run h n (by omega) s2
  have := upA_least ha p1 s1
  exact ⟨p, m, p1, p2, by unfold Fit; omega, this⟩
theorem fit_st5 {z al : Int} {rs : List PR} {p : PR} (h : RunsL rs) (ha : 1 ≤ al) (m : p ∈ rs) (f : Fit z al p) : St5 z al rs (upA p.1 al) ∧ p.1 ≤ upA p.1 al := by
  have p0 := (h.ok p m).1
  obtain ⟨u1, u2⟩ := upA_is p0 ha
  unfold Fit at f
  exact ⟨⟨by omega, upA_mul, fun x h1 h2 => ⟨p, m, by omega, by omega⟩⟩, u1⟩
theorem first_walk {z al : Int} {rs : List PR} {ss : List Int} (h : RunsL rs) (hz : 1 ≤ z) (ha : 1 ≤ al) (hs : ∀ a, a ∈ ss ↔ St5 z al rs a) :
    (ss = [] → dueF false z al rs = none) ∧ ∀ m ∈ ss, (∀ y ∈ ss, m ≤ y) → dueF false z al rs = some m := by
  have D := (dueF_is (b := false) (z := z) (al := al) h).h
  constructor
  · intro e
    rcases D with ⟨d, _⟩ | ⟨p, mp, f, d, _⟩
    · exact d
    · have := (hs _).mpr (fit_st5 h ha mp f).1
      rw [e] at this
      cases this
  · intro m mm low
    obtain ⟨q, mq, q1, q2, q3, q4⟩ := st5_run h hz ha ((hs m).mp mm)
    rcases D with ⟨_, d⟩ | ⟨p, mp, f, d, k⟩
    · exact absurd q3 (d q mq)
    · rw [d]
      have l1 := low _ ((hs _).mpr (fit_st5 h ha mp f).1)
      have l2 := (k q mq q3).1 rfl
      rcases Int.lt_or_eq_of_le l2 with l2 | l2
      · have := runs_ord h mp mq l2
        unfold Fit at f
        omega
      · have := runs_eq h mp mq l2
        subst this
        rw [show upA p.1 al = m by omega]
theorem best_walk {z al : Int} {rs : List PR} {ss : List Int} {rows : List PR} (h : RunsL rs) (hz : 1 ≤ z) (ha : 1 ≤ al) (hs : ∀ a, a ∈ ss ↔ St5 z al rs a) (hr : ∀ r : PR, r ∈ rows ↔ ∃ q ∈ rs, r.1 = q.2 ∧ r.2 ∈ ss ∧ q.1 ≤ r.2 ∧ r.2 < q.1 + q.2) :
    (ss = [] → dueF true z al rs = none) ∧ (ss ≠ [] → rows ≠ []) ∧ ∀ m ∈ rows, (∀ y ∈ rows, SrtO.lexB y m = false) → dueF true z al rs = some m.2 := by
  have D := (dueF_is (b := true) (z := z) (al := al) h).h
  refine ⟨fun e => ?_, fun ne e => ?_, fun m mm low => ?_⟩
  · rcases D with ⟨d, _⟩ | ⟨p, mp, f, d, _⟩
    · exact d
    · have := (hs _).mpr (fit_st5 h ha mp f).1
      rw [e] at this
      cases this
  · obtain ⟨a, ma⟩ := List.exists_mem_of_ne_nil ss ne
    obtain ⟨q, mq, q1, q2, q3, q4⟩ := st5_run h hz ha ((hs a).mp ma)
    have := (hr (q.2, a)).mpr ⟨q, mq, rfl, ma, q1, by show a < _; omega⟩
    rw [e] at this
    cases this
  · obtain ⟨q, mq, e1, e2, e3, e4⟩ := (hr m).mp mm
    obtain ⟨q', mq', q1, q2, q3, q4⟩ := st5_run h hz ha ((hs _).mp e2)
    have := runs_same h mq mq' (x := m.2) ⟨e3, e4⟩ ⟨q1, by omega⟩
    subst this
    rcases D with ⟨_, d⟩ | ⟨p, mp, f, d, k⟩
    · exact absurd q3 (d q mq)
    · rw [d]
      obtain ⟨sp, p1⟩ := fit_st5 h ha mp f
      have l1 := low (p.2, upA p.1 al) ((hr _).mpr ⟨p, mp, rfl, (hs _).mpr sp, p1, by unfold Fit at f; show upA p.1 al < _; omega⟩)
      have l1 : ¬ SrtO.lexB (p.2, upA p.1 al) m = true := by rw [l1]; decide
      rw [SrtO.lexB_iff] at l1
      have l2 := (k q mq q3).2 rfl
      have l3 : ¬ (p.2 < m.1 ∨ (p.2 = m.1 ∧ upA p.1 al < m.2)) := l1
      rw [e1] at l3
      have s2 : p.2 = q.2 := by omega
      have l4 : p.1 ≤ q.1 := by omega
      rcases Int.lt_or_eq_of_le l4 with l4 | l4
      · have := runs_ord h mp mq l4
        unfold Fit at f
        omega
      · have := runs_eq h mp mq l4
        subst this
        rw [show upA p.1 al = m.2 by omega]
/-! ## Starts2 -/
/-! ### the runs between the cuts, plainly -/
structure Cuts (ps : List PR) (cs : List Int) : Prop where
  pw : cs.Pairwise (· < ·)
  mem : ∀ x, x ∈ cs ↔ ∃ p ∈ ps, x = p.1 ∨ x = p.1 + p.2
theorem cut_lo {cs : List Int} (pw : cs.Pairwise (· < ·)) {k : Nat} {a b x : Int} (ha : cs[k]? = some a) (hb : cs[k + 1]? = some b) (m : x ∈ cs) (l : x < b) : x ≤ a := by
  obtain ⟨j, hj, ej⟩ := List.getElem_of_mem m
  obtain ⟨h1, e1⟩ := List.getElem?_eq_some_iff.mp ha
  obtain ⟨h2, e2⟩ := List.getElem?_eq_some_iff.mp hb
  have P := List.pairwise_iff_getElem.mp pw
  rcases Nat.lt_trichotomy j k with c | c | c
  · have := P j k hj h1 c
    omega
  · subst c
    omega
  · rcases Nat.lt_or_eq_of_le (show k + 1 ≤ j by omega) with c | c
    · have := P (k + 1) j h2 hj c
      omega
    · subst c
      omega
theorem cut_hi {cs : List Int} (pw : cs.Pairwise (· < ·)) {k : Nat} {a b x : Int} (ha : cs[k]? = some a) (hb : cs[k + 1]? = some b) (m : x ∈ cs) (l : a < x) : b ≤ x := by
  rcases Int.lt_or_le x b with c | c
  · have := cut_lo pw ha hb m c
    omega
  · exact c
theorem cut_between {ps : List PR} {cs : List Int} (C : Cuts ps cs) {k : Nat} {a b x : Int} (ha : cs[k]? = some a) (hb : cs[k + 1]? = some b) (l1 : a ≤ x) (l2 : x < b) : inSp ps x ↔ inSp ps a := by
  constructor
  · rintro ⟨p, m, p1, p2⟩
    have := cut_lo C.pw ha hb ((C.mem p.1).mpr ⟨p, m, .inl rfl⟩) (by omega)
    exact ⟨p, m, this, by omega⟩
  · rintro ⟨p, m, p1, p2⟩
    have := cut_hi C.pw ha hb ((C.mem (p.1 + p.2)).mpr ⟨p, m, .inr rfl⟩) p2
    exact ⟨p, m, by omega, by omega⟩
structure NrmI (ps : List PR) (a : Int) (R : List PR) : Prop where
  rn : RunsL R
  mem : ∀ x, inSp R x ↔ inSp ps x ∧ x < a
  low : ∀ p ∈ R, p.1 + p.2 ≤ a
theorem nrm_stay {ps : List PR} {cs : List Int} (C : Cuts ps cs) {k : Nat} {a b : Int} {R : List PR} (ha : cs[k]? = some a) (hb : cs[k + 1]? = some b) (h : NrmI ps a R) (n : ¬ inSp ps a) : NrmI ps b R := by
  have ab : a < b := by
    obtain ⟨h1, e1⟩ := List.getElem?_eq_some_iff.mp ha
    obtain ⟨h2, e2⟩ := List.getElem?_eq_some_iff.mp hb
    have := List.pairwise_iff_getElem.mp C.pw k (k + 1) h1 h2 (Nat.lt_succ_self k)
    omega
  refine ⟨h.rn, fun x => (h.mem x).trans ⟨fun q => ⟨q.1, by omega⟩, fun q => ⟨q.1, ?_⟩⟩, fun p m => by have := h.low p m; omega⟩
  rcases Int.lt_or_le x a with c | c
  · exact c
  · exact absurd ((cut_between C ha hb c q.2).mp q.1) n
theorem inS_app {l m : List PR} {x : Int} : inSp (l ++ m) x ↔ inSp l x ∨ inSp m x := by
  unfold inSp
  constructor
  · rintro ⟨p, h, q⟩
    rcases List.mem_append.mp h with h | h
    · exact .inl ⟨p, h, q⟩
    · exact .inr ⟨p, h, q⟩
  · rintro (⟨p, h, q⟩ | ⟨p, h, q⟩)
    · exact ⟨p, List.mem_append_left _ h, q⟩
    · exact ⟨p, List.mem_append_right _ h, q⟩
theorem inS_one {p : PR} {x : Int} : inSp [p] x ↔ p.1 ≤ x ∧ x < p.1 + p.2 := by
  rw [inS_cons]
  exact ⟨fun h => h.elim id fun h => absurd h inS_nil, .inl⟩
theorem cut_bd {ps : List PR} {cs : List Int} (C : Cuts ps cs) (ok : OkS ps) {x : Int} (m : x ∈ cs) : 0 ≤ x ∧ x ≤ 1000000000 := by
  obtain ⟨p, mp, h⟩ := (C.mem x).mp m
  have := ok p mp
  omega
theorem nrm_new {ps : List PR} {cs : List Int} (C : Cuts ps cs) (ok : OkS ps) {k : Nat} {a b : Int} {R : List PR} (ha : cs[k]? = some a) (hb : cs[k + 1]? = some b) (h : NrmI ps a R) (y : inSp ps a) (gap : ∀ p ∈ R, p.1 + p.2 ≠ a) : NrmI ps b (R ++ [(a, b - a)]) := by
  have ab : a < b := by
    obtain ⟨h1, e1⟩ := List.getElem?_eq_some_iff.mp ha
    obtain ⟨h2, e2⟩ := List.getElem?_eq_some_iff.mp hb
    have := List.pairwise_iff_getElem.mp C.pw k (k + 1) h1 h2 (Nat.lt_succ_self k)
    omega
  have ba := cut_bd C ok (List.mem_of_getElem? ha)
  have bb := cut_bd C ok (List.mem_of_getElem? hb)
  refine ⟨⟨List.pairwise_append.mpr ⟨h.rn.ap, List.pairwise_singleton _ _, fun p m q mq => ?_⟩, fun p m => ?_⟩, fun x => ?_, fun p m => ?_⟩
  · rw [List.mem_singleton.mp mq]
    have := h.low p m
    have := gap p m
    show p.1 + p.2 < a
    omega
  · rcases List.mem_append.mp m with m | m
    · exact h.rn.ok p m
    · rw [List.mem_singleton.mp m]
      exact ⟨ba.1, by show 1 ≤ b - a; omega, by show a + (b - a) ≤ _; omega⟩
  · rw [inS_app, inS_one, h.mem x]
    show _ ∨ (a ≤ x ∧ x < a + (b - a)) ↔ _
    constructor
    · rintro (⟨q1, q2⟩ | ⟨q1, q2⟩)
      · exact ⟨q1, by omega⟩
      · exact ⟨(cut_between C ha hb q1 (by omega)).mpr y, by omega⟩
    · rintro ⟨q1, q2⟩
      rcases Int.lt_or_le x a with c | c
      · exact .inl ⟨q1, c⟩
      · exact .inr ⟨c, by omega⟩
  · rcases List.mem_append.mp m with m | m
    · have := h.low p m
      omega
    · rw [List.mem_singleton.mp m]
      show a + (b - a) ≤ b
      omega
theorem nrm_glue {ps : List PR} {cs : List Int} (C : Cuts ps cs) (ok : OkS ps) {k : Nat} {a b : Int} {R : List PR} {q : PR} (ha : cs[k]? = some a) (hb : cs[k + 1]? = some b) (h : NrmI ps a (R ++ [q])) (y : inSp ps a) (e : q.1 + q.2 = a) : NrmI ps b (R ++ [(q.1, b - q.1)]) := by
  have ab : a < b := by
    obtain ⟨h1, e1⟩ := List.getElem?_eq_some_iff.mp ha
    obtain ⟨h2, e2⟩ := List.getElem?_eq_some_iff.mp hb
    have := List.pairwise_iff_getElem.mp C.pw k (k + 1) h1 h2 (Nat.lt_succ_self k)
    omega
  have bb := cut_bd C ok (List.mem_of_getElem? hb)
  obtain ⟨p1, p2, p3⟩ := List.pairwise_append.mp h.rn.ap
  have qo := h.rn.ok q (List.mem_append_right _ List.mem_cons_self)
  refine ⟨⟨List.pairwise_append.mpr ⟨p1, List.pairwise_singleton _ _, fun p m r mr => ?_⟩, fun p m => ?_⟩, fun x => ?_, fun p m => ?_⟩
  · rw [List.mem_singleton.mp mr]
    exact p3 p m q List.mem_cons_self
  · rcases List.mem_append.mp m with m | m
    · exact h.rn.ok p (List.mem_append_left _ m)
    · rw [List.mem_singleton.mp m]
      exact ⟨qo.1, by show 1 ≤ b - q.1; omega, by show q.1 + (b - q.1) ≤ _; omega⟩
  · have hx := h.mem x
    rw [inS_app, inS_one] at hx
    rw [inS_app, inS_one]
    show _ ∨ (q.1 ≤ x ∧ x < q.1 + (b - q.1)) ↔ _
    constructor
    · rintro (z | ⟨z1, z2⟩)
      · have := hx.mp (.inl z)
        exact ⟨this.1, by omega⟩
      · rcases Int.lt_or_le x a with c | c
        · have := hx.mp (.inr ⟨z1, by omega⟩)
          exact ⟨this.1, by omega⟩
        · exact ⟨(cut_between C ha hb c (by omega)).mpr y, by omega⟩
    · rintro ⟨z1, z2⟩
      rcases Int.lt_or_le x a with c | c
      · rcases hx.mpr ⟨z1, c⟩ with z | z
        · exact .inl z
        · exact .inr ⟨z.1, by omega⟩
      · exact .inr ⟨by omega, by omega⟩
  · rcases List.mem_append.mp m with m | m
    · have := h.low p (List.mem_append_left _ m)
      omega
    · rw [List.mem_singleton.mp m]
      show q.1 + (b - q.1) ≤ b
      omega
theorem nrm_first {ps : List PR} {cs : List Int} (C : Cuts ps cs) (ok : OkS ps) {a : Int} (ha : cs[0]? = some a) : NrmI ps a [] := by
  refine ⟨⟨.nil, fun _ m => by cases m⟩, fun x => ⟨fun h => absurd h inS_nil, fun ⟨⟨p, m, p1, p2⟩, l⟩ => ?_⟩, fun _ m => by cases m⟩
  have mc := (C.mem p.1).mpr ⟨p, m, .inl rfl⟩
  obtain ⟨j, hj, ej⟩ := List.getElem_of_mem mc
  obtain ⟨h0, e0⟩ := List.getElem?_eq_some_iff.mp ha
  rcases Nat.eq_zero_or_pos j with c | c
  · subst c
    omega
  · have := List.pairwise_iff_getElem.mp C.pw 0 j h0 hj c
    omega
theorem nrm_last {ps : List PR} {cs : List Int} (C : Cuts ps cs) {n : Nat} {a : Int} {R : List PR} (hn : n + 1 = cs.length) (ha : cs[n]? = some a) (h : NrmI ps a R) : ∀ x, inSp R x ↔ inSp ps x := fun x => by
  rw [h.mem x]
  refine ⟨fun q => q.1, fun q => ⟨q, ?_⟩⟩
  obtain ⟨p, m, p1, p2⟩ := q
  have mc := (C.mem (p.1 + p.2)).mpr ⟨p, m, .inr rfl⟩
  obtain ⟨j, hj, ej⟩ := List.getElem_of_mem mc
  obtain ⟨h0, e0⟩ := List.getElem?_eq_some_iff.mp ha
  rcases Nat.lt_or_eq_of_le (show j ≤ n by omega) with c | c
  · have := List.pairwise_iff_getElem.mp C.pw j n hj h0 c
    omega
  · subst c
    omega
theorem cuts_nil {ps : List PR} {cs : List Int} (C : Cuts ps cs) (e : cs = []) : ps = [] := by
  cases ps with
  | nil => rfl
  | cons p ps =>
    have := (C.mem p.1).mpr ⟨p, List.mem_cons_self, .inl rfl⟩
    rw [e] at this
    cases this
/-! ## Rules9 -/
/-! ### calls with keywords, and with defaults, in a try -/
def tCallNS (n m : Nat) (sp : Sp) (gV : List V → List V → List V) (E : St → XK) (t tk : TA) : TE := fun σ H Q => t σ H fun vs H1 => tk σ H1 fun zs H2 => vs.length = n ∧ zs.length = m ∧ sp (gV vs zs) H2 Q (E σ)
def tCallDS (sp : Sp) (dvs : List V) (E : St → XK) (t : TA) : TE := fun σ H Q => t σ H fun vs H1 => sp (vs ++ dvs) H1 Q (E σ)
instance s_callNS {n m : Nat} {sp : Sp} {gV : List V → List V → List V} {E : St → XK} {t tk : TA} {σ : St} {H : Hp} {Q : VK} : Stp (tCallNS n m sp gV E t tk σ H Q) (t σ H fun vs H1 => tk σ H1 fun zs H2 => vs.length = n ∧ zs.length = m ∧ sp (gV vs zs) H2 Q (E σ)) := ⟨fun h => h⟩
instance s_callDS {sp : Sp} {dvs : List V} {E : St → XK} {t : TA} {σ : St} {H : Hp} {Q : VK} : Stp (tCallDS sp dvs E t σ H Q) (t σ H fun vs H1 => sp (vs ++ dvs) H1 Q (E σ)) := ⟨fun h => h⟩
section
variable {X : Cx} {CX : CXT} {k n : Nat} {f : Addr} {fd : FuncData} {ps ks : List Str} {ds : List Value} {dvs : List V} {sp : Sp} {E : St → XK} {x : Str} {p pos : Pos} {e : Expr} {es : List Expr} {kws : List Keyword} {t tk : TA} {g : List Value → List Value → List Value} {gV : List V → List V → List V}
theorem run_fnNS {pins : List (Addr × Obj)} {σ : St} {H : Hp} {s : Shared} {Q : VK} {us ws : List Value} {vs zs : List V} (F : FnOk X.prog X.w X.K X.mg X.base CX k f fd ps sp) (hr : Room k X.A) (hb : KBn X.K fd ps n ks g gV) (hx : PassesAt CX X σ (E σ))
    (I : Inv X pins σ H s) (r : Vals vs us) (rz : Vals zs ws) (l1 : vs.length = n) (l2 : zs.length = ks.length) (h : sp (gV vs zs) H Q (E σ)) : wpAny (model X.prog X.w) X.A (call (.ref f) us (ks.zip ws)) (EP X pins σ Q) X.xe s := by
  have r2 := hb.rel r rz
  refine wpAny_call (codeAny_mono (F.run X.A X.stack s H ⟨us, ks.zip ws⟩ (g us ws) (gV vs zs) Q (E σ) hr I.env0 (hb.to s us ws I.kIn (r.length.symm.trans l1) (rz.length.symm.trans l2)) r2 h) fun r s' hq => ?_)
  cases r with
  | error e => exact hx pins H s e s' I hq
  | ok fl =>
    cases fl with
    | ret u => exact I.after hq
    | next => exact False.elim hq
    | brk => exact False.elim hq
    | cont => exact False.elim hq
theorem pe_callNS (F : FnOk X.prog X.w X.K X.mg X.base CX k f fd ps sp) (hr : Room k X.A) (hg : Gl X x) (hm : X.mg x = some (.ref f)) (hk : PySem.W.keepIn X.K (.ref f) = true) (hb : KBn X.K fd ps n ks g gV) (hx : ∀ σ, PassesAt CX X σ (E σ))
    (ha : PA X (e :: es) t) (hkw : PK X kws tk) (hall : (backToKw pos (keywordEach kws X.env)).all (·.1.isSome) = true := by rfl) (hks : (backToKw pos (keywordEach kws X.env)).filterMap (·.1) = ks := by rfl)
    (hdb : (x == ("__debug__" : Str)) = false := by decide) (he : starEach (e :: es) X.env = (false, eval e X.env) :: starEach es X.env := by rfl)
    (hpl : ((backTo pos (starEach (e :: es) X.env)).any (·.1) || (backToKw pos (keywordEach kws X.env)).any (·.1.isNone)) = false := by rfl) :
    PE X (.Call (.Name x p) (e :: es) kws pos) (tCallNS n ks.length sp gV E t tk) := by
  refine ⟨fun pins s σ H Q I h => ?_⟩
  refine wpAny_Call_Name_kw (ld_glob I hg hm ?_ hdb)
  refine PySem.W.callWith_KW (h₀ := X.base) I.ok.mod.kin hk hall (thn (ha.run pos pins s σ H _ I h) fun us s1 ⟨vs, H1, I1, r, q⟩ => ?_) hpl he
  refine thn (hkw.run pos pins s1 σ H1 _ I1 q) fun ws s2 ⟨zs, H2, I2, rz, l1, l2, q2⟩ => ⟨I2.kIn, ?_⟩
  rw [hks]
  exact run_fnNS F hr hb (hx σ) I2 r rz l1 l2 q2
theorem run_fnDS {pins : List (Addr × Obj)} {σ : St} {H : Hp} {s : Shared} {Q : VK} {us : List Value} {vs : List V} (F : FnOk X.prog X.w X.K X.mg X.base CX k f fd ps sp) (hr : Room k X.A) (hb : Binds X.K fd ps ds) (hd : Vals dvs ds) (hx : PassesAt CX X σ (E σ))
    (I : Inv X pins σ H s) (r : Vals vs us) (h : sp (vs ++ dvs) H Q (E σ)) : wpAny (model X.prog X.w) X.A (call (.ref f) us) (EP X pins σ Q) X.xe s := by
  have r2 : Vals (vs ++ dvs) (us ++ ds) := r.append hd
  have hl : (us ++ ds).length = ps.length := by rw [← r2.length]; exact F.len _ _ _ _ h
  refine wpAny_call (codeAny_mono (F.run X.A X.stack s H ⟨us, []⟩ (us ++ ds) (vs ++ dvs) Q (E σ) hr I.env0 (hb s us I.kIn hl) r2 h) fun r s' hq => ?_)
  cases r with
  | error e => exact hx pins H s e s' I hq
  | ok fl =>
    cases fl with
    | ret u => exact I.after hq
    | next => exact False.elim hq
    | brk => exact False.elim hq
    | cont => exact False.elim hq
theorem pe_callDS (F : FnOk X.prog X.w X.K X.mg X.base CX k f fd ps sp) (hr : Room k X.A) (hg : Gl X x) (hm : X.mg x = some (.ref f)) (hk : PySem.W.keepIn X.K (.ref f) = true) (hb : Binds X.K fd ps ds) (hd : Vals dvs ds) (hx : ∀ σ, PassesAt CX X σ (E σ))
    (ha : PA X (e :: es) t) (hdb : (x == ("__debug__" : Str)) = false := by decide) (he : starEach (e :: es) X.env = (false, eval e X.env) :: starEach es X.env := by rfl) (hpl : (backTo pos (starEach es X.env)).any (·.1) = false := by rfl) :
    PE X (.Call (.Name x p) (e :: es) [] pos) (tCallDS sp dvs E t) := by
  refine ⟨fun pins s σ H Q I h => ?_⟩
  refine wpAny_Call_Name_kw (ld_glob I hg hm ?_ hdb)
  refine PySem.W.callWith_K (h₀ := X.base) I.ok.mod.kin hk (thn (ha.run pos pins s σ H _ I h) fun us s1 ⟨vs, H1, I1, r, q⟩ => ⟨I1.kIn, ?_⟩) he hpl
  exact run_fnDS F hr hb hd (hx σ) I1 r q
end
/-! ## Rules10 -/
/-! ### methods called with keywords, and with defaults, in a try -/
def tMthNS (C : Addr) (mn : Str) (n m : Nat) (sp : Sp) (E : St → XK) (ta : TE) (t tk : TA) : TE := fun σ H Q => ta σ H fun x H1 => ∃ a dx fs, x = .ref a ∧ H1 a = some (.ins C dx fs) ∧ fs.lookup mn = none ∧ t σ H1 fun vs H2 => tk σ H2 fun zs H3 => vs.length = n ∧ zs.length = m ∧ sp (gv_all (x :: vs) zs) H3 Q (E σ)
def tMthDS (C : Addr) (mn : Str) (sp : Sp) (dvs : List V) (E : St → XK) (ta : TE) (t : TA) : TE := fun σ H Q => ta σ H fun x H1 => ∃ a dx fs, x = .ref a ∧ H1 a = some (.ins C dx fs) ∧ fs.lookup mn = none ∧ t σ H1 fun vs H2 => sp (x :: vs ++ dvs) H2 Q (E σ)
instance s_mthNS {C : Addr} {mn : Str} {n m : Nat} {sp : Sp} {E : St → XK} {ta : TE} {t tk : TA} {σ : St} {H : Hp} {Q : VK} : Stp (tMthNS C mn n m sp E ta t tk σ H Q) (ta σ H fun x H1 => ∃ a dx fs, x = .ref a ∧ H1 a = some (.ins C dx fs) ∧ fs.lookup mn = none ∧ t σ H1 fun vs H2 => tk σ H2 fun zs H3 => vs.length = n ∧ zs.length = m ∧ sp (gv_all (x :: vs) zs) H3 Q (E σ)) := ⟨fun h => h⟩
instance s_mthDS {C : Addr} {mn : Str} {sp : Sp} {dvs : List V} {E : St → XK} {ta : TE} {t : TA} {σ : St} {H : Hp} {Q : VK} : Stp (tMthDS C mn sp dvs E ta t σ H Q) (ta σ H fun x H1 => ∃ a dx fs, x = .ref a ∧ H1 a = some (.ins C dx fs) ∧ fs.lookup mn = none ∧ t σ H1 fun vs H2 => sp (x :: vs ++ dvs) H2 Q (E σ)) := ⟨fun h => h⟩
section
variable {X : Cx} {CX : CXT} {k n : Nat} {C f : Addr} {fd : FuncData} {ps ks : List Str} {ds : List Value} {dvs : List V} {sp : Sp} {E : St → XK} {m : Str} {o e : Expr} {es : List Expr} {kws : List Keyword} {ta : TE} {t tk : TA} {apos pos : Pos} {pl : Sem Bool} {g : List Value → List Value → List Value}
theorem pe_mthNS (he : PE X o ta) (c : Cls X.K C) (hm : Meth X.K C m f) (F : FnOk X.prog X.w X.K X.mg X.base CX k f fd ps sp) (hr : Room k X.A) (hb : KBn X.K fd ps (n + 1) ks g gv_all) (hx : ∀ σ, PassesAt CX X σ (E σ)) (ha : PA X (e :: es) t) (hkw : PK X kws tk)
    (hall : (backToKw pos (keywordEach kws X.env)).all (·.1.isSome) = true := by rfl) (hks : (backToKw pos (keywordEach kws X.env)).filterMap (·.1) = ks := by rfl)
    (hst : starEach (e :: es) X.env = (false, eval e X.env) :: starEach es X.env := by rfl)
    (hpl : ((backTo pos (starEach (e :: es) X.env)).any (·.1) || (backToKw pos (keywordEach kws X.env)).any (·.1.isNone)) = false := by rfl)
    (ht : eval (.Call (.Attribute o m apos) (e :: es) kws pos) X.env = (do
      let ov ← eval o X.env
      standAt apos.atName
      let (f, first) ← holding [ov] (getMethod ov m pl)
      callWith pos f first (backTo pos (starEach (e :: es) X.env)) (backToKw pos (keywordEach kws X.env))) := by rfl) :
    PE X (.Call (.Attribute o m apos) (e :: es) kws pos) (tMthNS C m n ks.length sp E ta t tk) := by
  refine ⟨fun pins s σ H Q I h => ?_⟩
  refine PySem.W.methodCall_KW (pl := pl) (thn (he.run pins s σ H _ I h) fun u s1 ⟨x, H1, I1, rx, a, dx, fs, ex, ea, l, q⟩ => ?_) ht
  subst ex
  obtain rfl : u = Value.ref a := rx
  refine getmeth_ok I1 ea c hm l ?_
  refine PySem.W.callWith_KW (first := [.ref a]) (h₀ := X.base) I.ok.mod.kin hm.kp hall (thn (ha.run pos pins s1 σ H1 _ I1 q) fun us s2 ⟨vs, H2, I2, r, q2⟩ => ?_) hpl hst
  refine thn (hkw.run pos pins s2 σ H2 _ I2 q2) fun ws s3 ⟨zs, H3, I3, rz, l1, l2, q3⟩ => ⟨I3.kIn, ?_⟩
  rw [hks]
  exact run_fnNS (us := .ref a :: us) (vs := .ref a :: vs) F hr hb (hx σ) I3 (.cons rfl r) rz (by rw [List.length_cons, l1]) l2 q3
theorem pe_mthDS (he : PE X o ta) (c : Cls X.K C) (hm : Meth X.K C m f) (F : FnOk X.prog X.w X.K X.mg X.base CX k f fd ps sp) (hr : Room k X.A) (hb : Binds X.K fd ps ds) (hd : Vals dvs ds) (hx : ∀ σ, PassesAt CX X σ (E σ)) (ha : PA X (e :: es) t)
    (hst : starEach (e :: es) X.env = (false, eval e X.env) :: starEach es X.env := by rfl) (hpl : (backTo pos (starEach es X.env)).any (·.1) = false := by rfl)
    (ht : eval (.Call (.Attribute o m apos) (e :: es) [] pos) X.env = (do
      let ov ← eval o X.env
      standAt apos.atName
      let (f, first) ← holding [ov] (getMethod ov m pl)
      callWith pos f first (backTo pos (starEach (e :: es) X.env)) (backToKw pos (keywordEach [] X.env))) := by rfl) :
    PE X (.Call (.Attribute o m apos) (e :: es) [] pos) (tMthDS C m sp dvs E ta t) := by
  refine ⟨fun pins s σ H Q I h => ?_⟩
  refine PySem.W.methodCall_KW (pl := pl) (thn (he.run pins s σ H _ I h) fun u s1 ⟨x, H1, I1, rx, a, dx, fs, ex, ea, l, q⟩ => ?_) ht
  subst ex
  obtain rfl : u = Value.ref a := rx
  refine getmeth_ok I1 ea c hm l ?_
  refine PySem.W.callWith_K (first := [.ref a]) (h₀ := X.base) I.ok.mod.kin hm.kp (thn (ha.run pos pins s1 σ H1 _ I1 q) fun us s2 ⟨vs, H2, I2, r, q2⟩ => ⟨I2.kIn, ?_⟩) hst hpl
  exact run_fnDS (us := .ref a :: us) (vs := .ref a :: vs) F hr hb hd (hx σ) I2 (.cons rfl r) q2
end
/-! ## Rules11 -/
/-! ### min(xs) of a list of pairs -/
def pD (p : PR) : PyData := .tuple [.int p.1, .int p.2]
theorem dlt_pair (q p : PR) : PySem.W.dataLt (pD q) (pD p) = SrtO.lexB q p := by
  obtain ⟨a, b⟩ := q
  obtain ⟨c, d⟩ := p
  have e : ∀ (x y : Int) (r t : List (Int ⊕ List Nat)), PyProof.Rows.lexLt itemOrd (.inl x :: r) (.inl y :: t) = (decide (x < y) || (!decide (y < x) && PyProof.Rows.lexLt itemOrd r t)) := fun _ _ _ _ => rfl
  unfold PySem.W.dataLt
  show PyProof.Rows.lexLt itemOrd [.inl 1, .inl a, .inl 1, .inl b, .inl 0] [.inl 1, .inl c, .inl 1, .inl d, .inl 0] = _
  rw [e, e, e, e, e]
  show (decide ((1 : Int) < 1) || (!decide ((1 : Int) < 1) && (decide (a < c) || (!decide (c < a) && (decide ((1 : Int) < 1) || (!decide ((1 : Int) < 1) && (decide (b < d) || (!decide (d < b) && (decide ((0 : Int) < 0) || (!decide ((0 : Int) < 0) && false)))))))))) = _
  unfold SrtO.lexB
  show _ = if a = c then decide (b < d) else decide (a < c)
  by_cases h : a = c
  · subst h
    rw [if_pos rfl]
    simp
  · rw [if_neg h]
    by_cases h2 : a < c
    · simp [h2]
    · have : c < a := by omega
      simp [h2, this]
def minP : PR → List PR → PR := fun p ps => ps.foldl (fun a y => if SrtO.lexB y a = true then y else a) p
theorem minD_pair (p : PR) : ∀ ps : List PR, PySem.W.minD (pD p) (ps.map pD) = pD (minP p ps) := fun ps => by
  unfold PySem.W.minD minP
  induction ps generalizing p with
  | nil => rfl
  | cons q ps ih =>
    rw [List.map_cons, List.foldl_cons, List.foldl_cons, dlt_pair]
    by_cases c : SrtO.lexB q p = true
    · rw [if_pos c, if_pos c]
      exact ih q
    · rw [if_neg c, if_neg c]
      exact ih p
theorem minP_is : ∀ (ps : List PR) (p : PR), minP p ps ∈ p :: ps ∧ ∀ q ∈ p :: ps, SrtO.lexB q (minP p ps) = false
  | [], p => ⟨List.mem_cons_self, fun q m => by
    rw [List.mem_singleton.mp m]
    cases e : SrtO.lexB p p with
    | false => exact e
    | true => have := SrtO.lexB_iff.mp e; omega⟩
  | x :: ps, p => by
    have e : minP p (x :: ps) = minP (if SrtO.lexB x p = true then x else p) ps := rfl
    rw [e]
    obtain ⟨h1, h2⟩ := minP_is ps (if SrtO.lexB x p = true then x else p)
    refine ⟨?_, fun q m => ?_⟩
    · rcases List.mem_cons.mp h1 with h | h
      · rw [h]
        split
        · exact List.mem_cons_of_mem _ List.mem_cons_self
        · exact List.mem_cons_self
      · exact List.mem_cons_of_mem _ (List.mem_cons_of_mem _ h)
    · have low := h2 _ List.mem_cons_self
      generalize minP (if SrtO.lexB x p = true then x else p) ps = m0 at *
      have tr : ∀ u v : PR, SrtO.lexB u v = false → SrtO.lexB v m0 = false → SrtO.lexB u m0 = false := fun u v a b => by
        have a' : ¬ SrtO.lexB u v = true := by rw [a]; decide
        have b' : ¬ SrtO.lexB v m0 = true := by rw [b]; decide
        rw [SrtO.lexB_iff] at a' b'
        cases z : SrtO.lexB u m0 with
        | false => rfl
        | true => have := SrtO.lexB_iff.mp z; omega
      by_cases c : SrtO.lexB x p = true
      · rw [if_pos c] at low h2
        have xp : SrtO.lexB p x = false := by
          cases z : SrtO.lexB p x with
          | false => rfl
          | true =>
            have z1 := SrtO.lexB_iff.mp z
            have z2 := SrtO.lexB_iff.mp c
            omega
        rcases List.mem_cons.mp m with rfl | m
        · exact tr _ _ xp low
        · rcases List.mem_cons.mp m with rfl | m
          · exact low
          · exact h2 q (List.mem_cons_of_mem _ m)
      · rw [if_neg c] at low h2
        have xp : SrtO.lexB x p = false := by simpa using c
        rcases List.mem_cons.mp m with rfl | m
        · exact low
        · rcases List.mem_cons.mp m with rfl | m
          · exact tr _ _ xp low
          · exact h2 q (List.mem_cons_of_mem _ m)
theorem dp_pairs {K : PySem.W.Frag} {H : Hp} {xs : List V} {ps : List PR} (h : Prs H xs ps) : DpAll K H xs (ps.map pD) := by
  induction h with
  | nil => exact .nil
  | cons h _ ih => exact .cons (.tup (sqT h) (.cons (.int _) (.cons (.int _) .nil))) ih
theorem lay_pair (p : PR) : (pD p).canLay0 = true := rfl
def rMinP (K : PySem.W.Frag) : List V → Hp → VK → Prop := fun vs H Q => ∃ (a : Addr) (xs : List V) (ps : List PR), vs = [V.ref a] ∧ SqL K H a xs ∧ Prs H xs ps ∧ ps ≠ [] ∧ ∀ (t : Addr) (p : PR), p ∈ ps → H t = some (.tup [.int p.1, .int p.2]) → (∀ q ∈ ps, SrtO.lexB q p = false) → Q (.ref t) H
section
variable {X : Cx}
theorem cr_minP (hc : X.calm = true) (hu : X.A.units + 64 < cLine) : CallR X (.builtin "min") (rMinP X.K) := by
  intro pins s σ H vs us Q I r h
  obtain ⟨a, xs, ps, rfl, hs, hp, ne, q⟩ := h
  obtain ⟨its, rv, hl, _⟩ := I.list hs
  rw [Vals.ref1 r]
  obtain ⟨p, ps, rfl⟩ : ∃ p qs, ps = p :: qs := by
    cases ps with
    | nil => exact absurd rfl ne
    | cons p qs => exact ⟨p, qs, rfl⟩
  obtain ⟨as, hr⟩ := Dp.readsAll I _ xs its (dp_pairs (K := X.K) hp) rv
  have al : ∀ l : List PR, PySem.W.AlikeAll (l.map pD) := fun l => ⟨fun x mx y my => by
    obtain ⟨u, _, rfl⟩ := List.mem_map.mp mx
    obtain ⟨v, _, rfl⟩ := List.mem_map.mp my
    rfl, fun x mx => by
    obtain ⟨u, _, rfl⟩ := List.mem_map.mp mx
    intro z
    cases z⟩
  have dep : ∀ l : List PR, PyData.depthAll (l.map pD) ≤ 1 := fun l => by
    induction l with
    | nil => exact Nat.zero_le _
    | cons x l ih =>
      show max (PyData.depth (pD x)) (PyData.depthAll (l.map pD)) ≤ 1
      have : PyData.depth (pD x) = 1 := rfl
      omega
  refine PySem.W.min_list_data (I.ok.hd hc) hl.isList hr (al (p :: ps)) (by have d1 : PyData.depthAll (pD p :: ps.map pD) ≤ 1 := dep (p :: ps); omega) fun i v h' tk bs hv rd hk => ?_
  rw [minD_pair] at rd
  obtain ⟨m1, m2⟩ := minP_is ps p
  generalize minP p ps = m at *
  rw [List.getElem?_toArray] at hv
  have il : i < xs.length := by
    have := (List.getElem?_eq_some_iff.mp hv).1
    rw [← rv.length] at this
    exact this
  obtain ⟨x, hx⟩ : ∃ x, xs[i]? = some x := ⟨_, List.getElem?_eq_getElem il⟩
  obtain ⟨u, hu2, rx⟩ := rv.get hx
  obtain rfl : u = v := Option.some.inj (hu2.symm.trans hv)
  obtain ⟨p', t, e1, rfl, e3⟩ := hp.at hx
  cases rx
  have rd2 : ∃ as, Reads s.heap (.ref t) (pD p') as := Dp.reads I _ (.ref t) _ (.tup (K := X.K) (sqT e3) (.cons (.int _) (.cons (.int _) .nil))) rfl
  obtain ⟨as2, rd2⟩ := rd2
  have e : pD p' = pD m := PySem.SeqAt.Reads.unique _ _ _ _ _ (lay_pair p') (PySem.W.reads_keeps hk rd2) rd
  have e : p' = m := by
    obtain ⟨u1, u2⟩ := p'
    obtain ⟨v1, v2⟩ := m
    simp only [pD, PyData.tuple.injEq, List.cons.injEq, PyData.int.injEq] at e
    rw [e.1, e.2.1]
  subst e
  exact ⟨.ref t, H, I.kept hk, rfl, q t p' m1 e3 m2⟩
end
/-- range(i, j, c): small bounds, n items; the step of any size that a machine has -/
def RgB (i j c : Int) (n : Nat) : Prop := c ≠ 0 ∧ c.natAbs.log2 < 9000 ∧ Builtin.Range.small i j c = true ∧ Builtin.Range.rangeSize i j c = n
def iRng3B (ta : TA) : TI := fun σ H R => ta σ H fun vs H1 => ∃ (i j c : Int) (n : Nat), vs = [.int i, .int j, .int c] ∧ RgB i j c n ∧ R (Itc i c n) H1
section
variable {X : Cx} {tg : Expr}
theorem pi_range3B {a b c : Expr} {ta : TA} {p pos : Pos} (hg : Gl X "range") (hm : X.mg "range" = none) (ha : PA X [a, b, c] ta)
    (hs : starEach [a, b, c] X.env = (false, eval a X.env) :: starEach [b, c] X.env := by rfl) (hpl : (backTo pos (starEach [b, c] X.env)).any (·.1) = false := by rfl) :
    PI X tg (.Call (.Name "range" p) [a, b, c] [] pos) (iRng3B ta) := by
  refine ⟨fun pins s σ H R I h => ?_⟩
  refine Call_ (ld_blt I hg hm boot_range (PyProof.Rows.callWith_type1 (thn (ha.run pos pins s σ H _ I h) fun us s1 ⟨vs, H1, I1, r1, q1⟩ => ?_) hs hpl))
  obtain ⟨i, j, k, n, e, ⟨c0, c1, c2, c3⟩, q⟩ := q1
  subst e
  cases r1 with
  | cons r rr =>
    cases rr with
    | cons r' rr =>
      cases rr with
      | cons r'' rr =>
        cases rr
        obtain ⟨t, rfl⟩ := r
        obtain ⟨t', rfl⟩ := r'
        obtain ⟨t'', rfl⟩ := r''
        refine call_range_3 c0 ?_ (.inl (PyProof.noPylong_of_log2 c1))
        refine wpAny_pyIter_range (IsRange.new ..) c2 ?_
        have I2 : Inv X pins σ H1 { s1 with heap := s1.heap.push { cls := .type "range", data := .fields #[.int i t, .int j t', .int k t''] } } := I1.kept (t' := s1.toks) fun b o e => Heap.get?_push_of_some _ e
        refine pi_one (tk := s1.toks) I2 _ (turn_rangeC _ i k n) ?_ q
        have e1 : i + ((0 : Nat) : Int) * k = i := by simp
        have e2 : (n : Int) - ((0 : Nat) : Int) = Builtin.Range.rangeSize i j k := by rw [c3]; simp
        show IsRangeIter _ _ (i + ((0 : Nat) : Int) * k) ((n : Int) - ((0 : Nat) : Int)) k
        rw [e1, e2]
        exact Heap.get?_push_size _ rfl
end
instance s_lcR35 {g : TG} {ta : TA} {tt : TT} {te : TE} {vs : List Nat} {σ : St} {H : Hp} {Q : VK} : Stp (tLc (iRng3B ta) g tt te vs σ H Q) (ta σ H fun ws H1 => ∃ (i j c : Int) (n : Nat), ws = [.int i, .int j, .int c] ∧ RgB i j c n ∧ LcW (Itc i c n) g tt te vs σ H1 Q) := ⟨fun h => h⟩
/-! ## K05a -/
local macro_rules | `(tactic| kbj_are) => `(tactic| (with_reducible refine q_len ?_; with_reducible refine i_lenT (sqT (by assumption)) ?_))
/-! ### k05: starts and covers asked with any values -/
structure K05K (K : PySem.W.Frag) (c : Cl) : Prop where
  bk : BvK K c
  pl : PlK K c
def Ty5 (H : Hp) (v : V) : Prop := ∃ n, Ty0 H v n
def Bad5 (c : Cl) (E : XK) (H : Hp) (p : Str) : Prop := ∀ b H', BadAt H' b (.str p) → Same H H' → E (.ref c.k_BadValue) (some b) H'
inductive Wr5 (v1 v2 : V) : Str → Prop where
  | size (h : vR 1 1000000000 v1 = false) : Wr5 v1 v2 "size"
  | align {z : Int} (e : v1 = .int z) (z0 : 1 ≤ z) (z1 : z ≤ 1000000000) (h : vA 1073741824 v2 = false) : Wr5 v1 v2 "align"
structure Ask5 (z al : Int) : Prop where
  z0 : 1 ≤ z
  z1 : z ≤ 1000000000
  ap : ∃ k : Nat, al = 2 ^ k
  a1 : al ≤ 1073741824
def oV : Option Int → V
  | none => .non
  | some i => .int i
def sp_check_wish (K : PySem.W.Frag) (c : Cl) : Sp := fun vs H Q E => ∃ (v1 v2 : V), vs = [v1, v2] ∧ Ty5 H v1 ∧ Ty5 H v2 ∧ BvC K c.k_BadValue ∧ ((∃ p, Wr5 v1 v2 p ∧ Bad5 c E H p) ∨ (∃ z al, v1 = .int z ∧ v2 = .int al ∧ Ask5 z al ∧ Q .non H))
def N_p_check_wish : List Str := ["size", "align"]
def t_p_check_wish (K : PySem.W.Frag) (c : Cl) (E : XK) : TS := (tSeq (tIfS (tNot (tB (tCall (sp_whole_between K) [] E0 (tCons (tVar 0) (tCons (tC (.int 1)) (tCons (tC (.int 1000000000)) tNil)))))) (tRz (tMkO c.k_BadValue (sp_init_BadValue K c.k_BadValue) [] (tCons (tC (.str "size")) tNil)) (fun cls d _ H => E cls d H)) tNext)
  (tIfS (tNot (tB (tCall (sp_is_align K) [] E0 (tCons (tVar 1) (tCons (tC (.int 1073741824)) tNil))))) (tRz (tMkO c.k_BadValue (sp_init_BadValue K c.k_BadValue) [] (tCons (tC (.str "align")) tNil)) (fun cls d _ H => E cls d H)) tNext))
theorem pure_check_wish {K : PySem.W.Frag} {c : Cl} {vs : List V} {H : Hp} {Q : VK} {E : XK} (h : sp_check_wish K c vs H Q E) : t_p_check_wish K c E { nx := fun _ H' => Q .non H', rt := Q } (start N_p_check_wish vs) H := by
  obtain ⟨v1, v2, rfl, ⟨n1, t1⟩, ⟨n2, t2⟩, BV, h⟩ := h
  show t_p_check_wish K c E _ [some v1, some v2] H
  unfold t_p_check_wish
  fold_lay
  fold_depth
  refine c_whole_between t1 ?_
  rcases h with ⟨p, w, k⟩ | ⟨z, al, rfl, rfl, ⟨a1, a2, a3, a4⟩, k⟩
  · cases w with
    | size h =>
      rw [h]
      fold_lay
      exact c_bad BV k
    | align e z0 z1 h =>
      subst e
      rw [vR_yes7 z0 z1]
      fold_lay
      refine c_is_align t2 ?_
      rw [h]
      fold_lay
      exact c_bad BV k
  · rw [vR_yes7 a1 a2]
    fold_lay
    refine c_is_align (.int _) ?_
    rw [vA_yes a3 a4]
    fold_lay
    exact k
def sp_start_within (K : PySem.W.Frag) : Sp := fun vs H Q _ => ∃ (t : Addr) (p : PR) (z al : Int), vs = [.ref t, .int z, .int al] ∧ H t = some (.tup [.int p.1, .int p.2]) ∧ 0 ≤ p.1 ∧ p.1 + p.2 ≤ 1000000000 ∧ 1 ≤ p.2 ∧ Ask5 z al ∧ (Fit z al p → Q (.int (upA p.1 al)) H) ∧ (¬ Fit z al p → Q .non H)
def N_p_start_within : List Str := ["span", "size", "align", "start"]
def t_p_start_within (K : PySem.W.Frag) : TS := (tSeq (tAsg (tCall sp_align_up [] E0 (tCons (tOp (rIxT K) (tVar 0) (tC (.int 0))) (tCons (tVar 2) tNil))) (gName 3))
  (tSeq (tIfS (tTest (tOp oGt (tOp oAdd (tVar 3) (tVar 1)) (tOp oAdd (tOp (rIxT K) (tVar 0) (tC (.int 0))) (tOp (rIxT K) (tVar 0) (tC (.int 1)))))) (tRet (tC .non)) tNext)
  (tRet (tVar 3))))
theorem pure_start_within {K : PySem.W.Frag} {vs : List V} {H : Hp} {Q : VK} {E : XK} (h : sp_start_within K vs H Q E) : t_p_start_within K { nx := fun _ H' => Q .non H', rt := Q } (start N_p_start_within vs) H := by
  obtain ⟨t, p, z, al, rfl, ht, h0, h1, h2, ⟨a1, a2, a3, a4⟩, kY, kN⟩ := h
  show t_p_start_within K _ [some (.ref t), some (.int z), some (.int al), none] H
  unfold t_p_start_within
  fold_lay
  refine c_align_up h0 (by omega) a3 a4 ?_
  fold_lay
  fold_depth
  refine i_ifd (fun e => ?_) (fun e => ?_)
  · fold_lay
    refine kN fun f => ?_
    unfold Fit upA at f
    omega
  · fold_lay
    refine kY ?_
    unfold Fit upA
    omega
theorem stay_false {z al : Int} {u y : Int} : ∀ l : List PR, l.foldl (stepD false z al) (some u, y) = (some u, y)
  | [] => rfl
  | p :: l => by
    rw [List.foldl_cons]
    have : stepD false z al (some u, y) p = (some u, y) := by
      unfold stepD
      rw [if_neg]
      rintro ⟨_, h | h⟩
      · cases h
      · cases h.1
    rw [this]
    exact stay_false l
def sp_first_start (K : PySem.W.Frag) (c : Cl) : Sp := fun vs H Q E => ∃ (g : Addr) (v1 v2 : V), vs = [.ref g, v1, v2] ∧ Ty5 H v1 ∧ Ty5 H v2 ∧ K05K K c ∧ ((∃ p, Wr5 v1 v2 p ∧ Bad5 c E H p) ∨ (∃ z al rs, v1 = .int z ∧ v2 = .int al ∧ Ask5 z al ∧ PlO c H g rs ∧ RunsL rs ∧ Q (oV (dueF false z al rs)) H))
def N_c_Places_first_start : List Str := ["self", "size", "align", "span", "start"]
def t_c_Places_first_start (K : PySem.W.Frag) (c : Cl) (E : XK) : TS := (tSeq (tDrop (tCall (sp_check_wish K c) [] E (tCons (tVar 1) (tCons (tVar 2) tNil))))
  (tSeq (tFor (iTup K (tFld K (tVar 0) "parts")) (gName 3) (tSeq (tAsg (tCall (sp_start_within K) [] E0 (tCons (tVar 3) (tCons (tVar 1) (tCons (tVar 2) tNil)))) (gName 4))
  (tIfS (tTest (tOp oNotN (tVar 4) (tC .non))) (tRet (tVar 4)) tNext)))
  (tRet (tC .non))))
theorem pure_first_start {K : PySem.W.Frag} {c : Cl} {vs : List V} {H : Hp} {Q : VK} {E : XK} (h : sp_first_start K c vs H Q E) : t_c_Places_first_start K c E { nx := fun _ H' => Q .non H', rt := Q } (start N_c_Places_first_start vs) H := by
  obtain ⟨g, v1, v2, rfl, t1, t2, kk, h⟩ := h
  show t_c_Places_first_start K c E _ [some (.ref g), some v1, some v2, none, none] H
  unfold t_c_Places_first_start
  fold_lay
  rcases h with ⟨p, w, k⟩ | ⟨z, al, rs, rfl, rfl, A, hP, rn, k⟩
  · exact ⟨v1, v2, rfl, t1, t2, kk.bk.bv, .inl ⟨p, w, k⟩⟩
  refine ⟨_, _, rfl, t1, t2, kk.bk.bv, .inr ⟨z, al, rfl, rfl, A, ?_⟩⟩
  obtain ⟨dx, tp, fs, h1, h2, h3⟩ := hP.ex
  have R := kk.pl
  fold_lay
  fold_depth
  refine ⟨g, c.k_Places, dx, _, .ref tp, rfl, h1, R.cl, R.na, rfl, ?_⟩
  refine f_tup (sqT h2) (l_tup (xs := fs) (fun i σ' H' => H' = H ∧ (rs.take i).foldl (stepD false z al) (none, 0) = (none, 0) ∧ ∃ y3 y4, σ' = [some (.ref g), some (.int z), some (.int al), y3, y4]) ⟨rfl, rfl, _, _, rfl⟩ (fun i σ' H' _ h => by rw [h.1]; exact sqT h2) ?_ ?_)
  · rintro i x σ' H' hx ⟨rfl, fo, y3, y4, rfl⟩
    obtain ⟨p, t, ep, rfl, ht⟩ := h3.at hx
    obtain ⟨o1, o2, o3⟩ := rn.ok p (List.mem_of_getElem? ep)
    have il := (List.getElem?_eq_some_iff.mp ep).1
    have tk : rs.take (i + 1) = rs.take i ++ [p] := by rw [List.take_add_one, ep]; rfl
    have dr : rs = rs.take (i + 1) ++ rs.drop (i + 1) := (List.take_append_drop _ _).symm
    fold_lay
    refine ⟨t, p, z, al, rfl, ht, o1, o3, o2, A, fun f => ?_, fun f => ?_⟩
    · fold_lay
      have e : dueF false z al rs = some (upA p.1 al) := by
        unfold dueF
        rw [dr, List.foldl_append, tk, List.foldl_append, fo]
        have s1 : [p].foldl (stepD false z al) (none, 0) = (some (upA p.1 al), p.2) := by
          show stepD false z al (none, 0) p = _
          unfold stepD
          rw [if_pos ⟨f, .inl rfl⟩]
        rw [s1, stay_false]
      rw [e] at k
      first | exact k | (rw [if_pos (show (!decide (V.int (upA p.1 al) = V.non)) = true by simp)]; fold_lay; exact k)
    · fold_lay
      refine ⟨rfl, ?_, _, _, rfl⟩
      rw [tk, List.foldl_append, fo]
      show stepD false z al (none, 0) p = _
      unfold stepD
      rw [if_neg fun z => f z.1]
  · rintro σ' H' ⟨rfl, fo, y3, y4, rfl⟩
    rw [h3.len, List.take_length] at fo
    fold_lay
    have e : dueF false z al rs = none := by
      unfold dueF
      rw [fo]
    rw [e] at k
    exact k
def sp_best_start (K : PySem.W.Frag) (c : Cl) : Sp := fun vs H Q E => ∃ (g : Addr) (v1 v2 : V), vs = [.ref g, v1, v2] ∧ Ty5 H v1 ∧ Ty5 H v2 ∧ K05K K c ∧ ((∃ p, Wr5 v1 v2 p ∧ Bad5 c E H p) ∨ (∃ z al rs, v1 = .int z ∧ v2 = .int al ∧ Ask5 z al ∧ PlO c H g rs ∧ RunsL rs ∧ Q (oV (dueF true z al rs)) H))
def N_c_Places_best_start : List Str := ["self", "size", "align", "best", "fewest", "span", "start"]
def t_c_Places_best_start (K : PySem.W.Frag) (c : Cl) (E : XK) : TS := (tSeq (tDrop (tCall (sp_check_wish K c) [] E (tCons (tVar 1) (tCons (tVar 2) tNil))))
  (tSeq (tAsg (tC .non) (gName 3))
  (tSeq (tAsg (tC (.int 0)) (gName 4))
  (tSeq (tFor (iTup K (tFld K (tVar 0) "parts")) (gName 5) (tSeq (tAsg (tCall (sp_start_within K) [] E0 (tCons (tVar 5) (tCons (tVar 1) (tCons (tVar 2) tNil)))) (gName 6))
  (tIfS (tAnd (tTest (tOp oNotN (tVar 6) (tC .non))) (tOr (tTest (tOp oIsN (tVar 3) (tC .non))) (tTest (tOp oLt (tOp (rIxT K) (tVar 5) (tC (.int 1))) (tVar 4))))) (tSeq (tAsg (tVar 6) (gName 3))
  (tAsg (tOp (rIxT K) (tVar 5) (tC (.int 1))) (gName 4))) tNext)))
  (tRet (tVar 3))))))
theorem pure_best_start {K : PySem.W.Frag} {c : Cl} {vs : List V} {H : Hp} {Q : VK} {E : XK} (h : sp_best_start K c vs H Q E) : t_c_Places_best_start K c E { nx := fun _ H' => Q .non H', rt := Q } (start N_c_Places_best_start vs) H := by
  obtain ⟨g, v1, v2, rfl, t1, t2, kk, h⟩ := h
  show t_c_Places_best_start K c E _ [some (.ref g), some v1, some v2, none, none, none, none] H
  unfold t_c_Places_best_start
  fold_lay
  rcases h with ⟨p, w, k⟩ | ⟨z, al, rs, rfl, rfl, A, hP, rn, k⟩
  · exact ⟨v1, v2, rfl, t1, t2, kk.bk.bv, .inl ⟨p, w, k⟩⟩
  refine ⟨_, _, rfl, t1, t2, kk.bk.bv, .inr ⟨z, al, rfl, rfl, A, ?_⟩⟩
  obtain ⟨dx, tp, fs, h1, h2, h3⟩ := hP.ex
  have R := kk.pl
  fold_lay
  fold_depth
  refine ⟨g, c.k_Places, dx, _, .ref tp, rfl, h1, R.cl, R.na, rfl, ?_⟩
  refine f_tup (sqT h2) (l_tup (xs := fs) (fun i σ' H' => H' = H ∧ ∃ y5 y6 fd ls, (rs.take i).foldl (stepD true z al) (none, 0) = (fd, ls) ∧ σ' = [some (.ref g), some (.int z), some (.int al), some (oV fd), some (.int ls), y5, y6]) ⟨rfl, _, _, none, 0, rfl, rfl⟩ (fun i σ' H' _ h => by rw [h.1]; exact sqT h2) ?_ ?_)
  · rintro i x σ' H' hx ⟨rfl, y5, y6, fd, ls, fo, rfl⟩
    obtain ⟨p, t, ep, rfl, ht⟩ := h3.at hx
    obtain ⟨o1, o2, o3⟩ := rn.ok p (List.mem_of_getElem? ep)
    have tk : rs.take (i + 1) = rs.take i ++ [p] := by rw [List.take_add_one, ep]; rfl
    have go : ∀ s, stepD true z al (fd, ls) p = s → (rs.take (i + 1)).foldl (stepD true z al) (none, 0) = s := fun s e => by
      rw [tk, List.foldl_append, fo]
      exact e
    fold_lay
    refine ⟨t, p, z, al, rfl, ht, o1, o3, o2, A, fun f => ?_, fun f => ?_⟩
    · have put : (fd = none ∨ p.2 < ls) → stepD true z al (fd, ls) p = (some (upA p.1 al), p.2) := fun c => by
        unfold stepD
        rw [if_pos ⟨f, c.imp id fun l => ⟨rfl, l⟩⟩]
      cases fd with
      | none =>
        fold_lay
        rw [if_pos (show (!decide (V.int (upA p.1 al) = V.non)) = true by simp)]
        fold_lay
        rw [if_pos (show decide (oV none = V.non) = true from rfl)]
        fold_lay
        refine ⟨rfl, _, _, some (upA p.1 al), p.2, go _ (put (.inl rfl)), rfl⟩
      | some u =>
        fold_lay
        rw [if_pos (show (!decide (V.int (upA p.1 al) = V.non)) = true by simp)]
        fold_lay
        rw [if_neg (show ¬ decide (oV (some u) = V.non) = true by simp [oV])]
        fold_lay
        refine i_ifd (fun e => ?_) (fun e => ?_)
        · fold_lay
          exact ⟨rfl, _, _, some (upA p.1 al), p.2, go _ (put (.inr e)), rfl⟩
        · fold_lay
          refine ⟨rfl, _, _, some u, ls, go _ ?_, rfl⟩
          unfold stepD
          rw [if_neg]
          rintro ⟨_, c | c⟩
          · cases c
          · exact e c.2
    · fold_lay
      rw [if_neg (show ¬ (!decide (V.non = V.non)) = true by simp)]
      fold_lay
      refine ⟨rfl, _, _, fd, ls, go _ ?_, rfl⟩
      unfold stepD
      rw [if_neg fun z => f z.1]
  · rintro σ' H' ⟨rfl, y5, y6, fd, ls, fo, rfl⟩
    rw [h3.len, List.take_length] at fo
    fold_lay
    have e : dueF true z al rs = fd := by
      unfold dueF
      rw [fo]
    rw [e] at k
    exact k
def sp_covers (K : PySem.W.Frag) (c : Cl) : Sp := fun vs H Q E => ∃ (g : Addr) (v : V) (d : Dt), vs = [.ref g, v] ∧ At H v d ∧ K05K K c ∧ ((isSpan d = false ∧ Bad5 c E H "span") ∨ (∃ a n rs, d = spanD a n ∧ 0 ≤ a ∧ 1 ≤ n ∧ a + n ≤ 1000000000 ∧ PlO c H g rs ∧ RunsL rs ∧ rs.length ≤ 100000 ∧ ∀ b : Bool, (b = true ↔ ∃ p ∈ rs, p.1 ≤ a ∧ a + n ≤ p.1 + p.2) → Q (.bl b) H))
def N_c_Places_covers : List Str := ["self", "span", "found"]
def t_c_Places_covers (K : PySem.W.Frag) (c : Cl) (E : XK) : TS := (tSeq (tIfS (tNot (tB (tCall (sp_is_span K) [] E0 (tCons (tVar 1) tNil)))) (tRz (tMkO c.k_BadValue (sp_init_BadValue K c.k_BadValue) [] (tCons (tC (.str "span")) tNil)) (fun cls d _ H => E cls d H)) tNext)
  (tSeq (tAsg (tCall (sp_span_from K) [] E0 (tCons (tFld K (tVar 0) "parts") (tCons (tOp (rIxT K) (tVar 1) (tC (.int 0))) tNil))) (gName 2))
  (tRet (tAndV (tOp oNotN (tVar 2) (tC .non)) (tOp oLe (tOp oAdd (tOp (rIxT K) (tVar 1) (tC (.int 0))) (tOp (rIxT K) (tVar 1) (tC (.int 1)))) (tOp oAdd (tOp (rIxT K) (tVar 2) (tC (.int 0))) (tOp (rIxT K) (tVar 2) (tC (.int 1)))))))))
theorem pure_covers {K : PySem.W.Frag} {c : Cl} {vs : List V} {H : Hp} {Q : VK} {E : XK} (h : sp_covers K c vs H Q E) : t_c_Places_covers K c E { nx := fun _ H' => Q .non H', rt := Q } (start N_c_Places_covers vs) H := by
  obtain ⟨g, v, d, rfl, hv, kk, h⟩ := h
  show t_c_Places_covers K c E _ [some (.ref g), some v, none] H
  unfold t_c_Places_covers
  fold_lay
  fold_depth
  refine c_is_span hv ?_
  rcases h with ⟨no, k⟩ | ⟨a, n, rs, rfl, a0, n0, an, hP, rn, rl, k⟩
  · rw [no]
    fold_lay
    exact c_bad kk.bk.bv k
  have e : isSpan (spanD a n) = true := okS_iff.mpr ⟨a0, n0, an⟩
  rw [e]
  obtain ⟨dx, tp, fs, h1, h2, h3⟩ := hP.ex
  have R := kk.pl
  obtain ⟨t, rfl, ht⟩ : ∃ t, v = .ref t ∧ H t = some (.tup [.int a, .int n]) := by
    cases hv with
    | tup h r =>
      cases r with
      | cons h1 r =>
        cases h1
        cases r with
        | cons h2 r =>
          cases h2
          cases r
          exact ⟨_, rfl, h⟩
  fold_lay
  refine ⟨g, c.k_Places, dx, _, .ref tp, rfl, h1, R.cl, R.na, rfl, ?_⟩
  fold_lay
  refine ⟨tp, fs, rs, a, rfl, h2, h3, runs_asc rn, rl, fun no => ?_, fun q t mq ht lq mx => ?_⟩
  · fold_lay
    refine k false ⟨fun z => (by cases z), ?_⟩
    rintro ⟨p, m, p1, _⟩
    have := no p m
    omega
  · fold_lay
    rw [if_pos (show (!decide (V.ref t = V.non)) = true by simp)]
    fold_lay
    refine k _ ?_
    rw [decide_eq_true_eq]
    constructor
    · intro l
      exact ⟨q, mq, lq, l⟩
    · rintro ⟨p, m, p1, p2⟩
      have := mx p m p1
      rcases Int.lt_or_eq_of_le this with l | l
      · have := runs_ord rn m mq l
        omega
      · have := runs_eq rn m mq l
        subst this
        exact p2
/-! ## K05b -/
local macro_rules | `(tactic| kbj_are) => `(tactic| (with_reducible refine q_len ?_; with_reducible refine i_lenT (sqT (by assumption)) ?_))
/-! ### k05: the runs between the cuts -/
def sp_held5 (K : PySem.W.Frag) : Sp := fun vs H Q _ => ∃ (r : Addr) (xs : List V) (ps : List PR) (x : Int), vs = [.int x, .ref r] ∧ H r = some (.lst xs) ∧ Prs H xs ps ∧ ∀ b : Bool, (b = true ↔ inSp ps x) → Q (.bl b) H
def N_l_held : List Str := ["_law_place", "_law_spans_here", "_law_start", "_law_size_here"]
def t_l_held (K : PySem.W.Frag) : TS := (tSeq (tFor (iList K (tVar 1)) (gTup K 2 (gCons (gName 2) (gCons (gName 3) gNil))) (tIfS (tTest (tChain oLe oLt (tVar 2) (tVar 0) (tOp oAdd (tVar 2) (tVar 3)))) (tRet (tC (.bl true))) tNext))
  (tRet (tC (.bl false))))
theorem pure_held5 {K : PySem.W.Frag} {vs : List V} {H : Hp} {Q : VK} {E : XK} (h : sp_held5 K vs H Q E) : t_l_held K { nx := fun _ H' => Q .non H', rt := Q } (start N_l_held vs) H := by
  obtain ⟨r, xs, ps, x, rfl, hr, hp, k⟩ := h
  show t_l_held K _ [some (.int x), some (.ref r), none, none] H
  unfold t_l_held
  fold_lay
  fold_depth
  refine f_lst (sqL hr) (l_lst (xs := xs) (fun i σ' H' => H' = H ∧ ¬ inSp (ps.take i) x ∧ ∃ y2 y3, σ' = [some (.int x), some (.ref r), y2, y3]) ⟨rfl, inS_nil, _, _, rfl⟩ (fun i σ' H' _ h => by rw [h.1]; exact sqL hr) ?_ ?_)
  · rintro i y σ' H' hy ⟨rfl, no, y2, y3, rfl⟩
    obtain ⟨p, t, ep, rfl, ht⟩ := hp.at hy
    have tk : ps.take (i + 1) = ps.take i ++ [p] := by rw [List.take_add_one, ep]; rfl
    have stay : ¬ (p.1 ≤ x ∧ x < p.1 + p.2) → ¬ inSp (ps.take (i + 1)) x := fun n => by
      rw [tk, inS_app, inS_one]
      exact fun c => c.elim no n
    fold_lay
    refine i_ifd (fun e1 => ?_) (fun e1 => ?_)
    rotate_left
    · fold_lay
      exact ⟨rfl, stay fun c => e1 c.1, _, _, rfl⟩
    fold_lay
    refine i_ifd (fun e2 => ?_) (fun e2 => ?_)
    · fold_lay
      exact k true ⟨fun _ => ⟨p, List.mem_of_getElem? ep, e1, e2⟩, fun _ => rfl⟩
    · fold_lay
      exact ⟨rfl, stay fun c => e2 c.2, _, _, rfl⟩
  · rintro σ' H' ⟨rfl, no, y2, y3, rfl⟩
    rw [hp.len, List.take_length] at no
    fold_lay
    exact k false ⟨fun z => (by cases z), fun z => absurd z no⟩
def sp_cuts_of (K : PySem.W.Frag) : Sp := fun vs H Q _ => ∃ (r : Addr) (xs : List V) (ps : List PR), vs = [.ref r] ∧ H r = some (.lst xs) ∧ Prs H xs ps ∧ ps.length ≤ 60 ∧ ∀ (l : Addr) (cs : List Int) H', H l = none → H' l = some (.lst (cs.map V.int)) → Cuts ps cs → cs.length ≤ 120 → Same H H' → Q (.ref l) H'
def N_l_cuts_of : List Str := ["_law_spans_here", "_law_cuts", "_law_start", "_law_size_here"]
def t_l_cuts_of (K : PySem.W.Frag) : TS := (tSeq (tAsg tDNewK (gName 1))
  (tSeq (tFor (iList K (tVar 0)) (gTup K 2 (gCons (gName 2) (gCons (gName 3) gNil))) (tSeq (sDPut (tVar 1) (tVar 2) (tC (.bl true)))
  (sDPut (tVar 1) (tOp oAdd (tVar 2) (tVar 3)) (tC (.bl true)))))
  (tRet (tCB (rSortedI K) (tCons (tCB rListDk (tCons (tVar 1) tNil)) tNil)))))
theorem pure_cuts_of {K : PySem.W.Frag} {vs : List V} {H : Hp} {Q : VK} {E : XK} (h : sp_cuts_of K vs H Q E) : t_l_cuts_of K { nx := fun _ H' => Q .non H', rt := Q } (start N_l_cuts_of vs) H := by
  obtain ⟨r, xs, ps, rfl, hr, hp, pl, k⟩ := h
  show t_l_cuts_of K _ [some (.ref r), none, none, none] H
  have xl := hp.len
  unfold t_l_cuts_of
  fold_lay
  intro D hD
  fold_lay
  fold_depth
  refine f_lst (sqL (same_new hD _ _ hr)) (l_lst (xs := xs) (fun i σ' H' => Same H H' ∧ KS H' D (2 * i) (fun x => ∃ p ∈ ps.take i, x = p.1 ∨ x = p.1 + p.2) ∧ ∃ y2 y3, σ' = [some (.ref r), some (.ref D), y2, y3]) ⟨same_new hD, ⟨[], [], upd_same, rfl, .nil, Nat.le_refl _, fun p => ⟨fun m => (by cases m), fun ⟨_, m, _⟩ => (by cases m)⟩⟩, _, _, rfl⟩ (fun i σ' H' _ h => sqL (h.1 _ _ hr)) ?_ ?_)
  · rintro i x σ' H1 hx ⟨s1, ks, y2, y3, rfl⟩
    have il := (List.getElem?_eq_some_iff.mp hx).1
    obtain ⟨q, t, eq, rfl, ht⟩ := hp.at hx
    have ht := s1 _ _ ht
    have et : ps.take (i + 1) = ps.take i ++ [q] := by rw [List.take_add_one, eq]; rfl
    obtain ⟨kvs, hk, kl, put⟩ := ks.put q.1
    fold_lay
    fold_depth
    refine ⟨D, _, rfl, DPut.k (k := Sum.inl q.1) hk (szl (by omega)), ?_⟩
    have ks1 := put (.bl true)
    have s2 : Same H (upd H1 D (.dK (putK kvs (Sum.inl q.1) (.bl true)))) := same_step hD s1
    generalize upd H1 D (.dK (putK kvs (Sum.inl q.1) (.bl true))) = H2 at *
    obtain ⟨kvs2, hk2, kl2, put2⟩ := ks1.put (q.1 + q.2)
    fold_lay
    refine ⟨D, _, rfl, DPut.k (k := Sum.inl (q.1 + q.2)) hk2 (szl (by omega)), same_step hD s2, (put2 (.bl true)).eq (by omega) fun p => ?_, _, _, rfl⟩
    rw [et]
    constructor
    · rintro ((⟨a, m, h⟩ | h) | h)
      · exact ⟨a, List.mem_append_left _ m, h⟩
      · exact ⟨q, List.mem_append_right _ List.mem_cons_self, .inl h⟩
      · exact ⟨q, List.mem_append_right _ List.mem_cons_self, .inr h⟩
    · rintro ⟨a, m, h⟩
      rcases List.mem_append.mp m with m | m
      · exact .inl (.inl ⟨a, m, h⟩)
      · rw [List.mem_singleton.mp m] at h
        rcases h with h | h
        · exact .inl (.inr h)
        · exact .inr h
  · rintro σ' H1 ⟨s1, ⟨kvs, ks, h1, h2, h3, h4, h5⟩, y2, y3, rfl⟩
    rw [xl, List.take_length] at h5
    have kl : ks.length ≤ 120 := by
      have := congrArg List.length h2
      rw [List.length_map, List.length_map] at this
      omega
    fold_lay
    refine ⟨D, kvs, rfl, .inl h1, fun u hu => ?_⟩
    have eu : (kvs.map fun kv => kV kv.1) = ks.map V.int := by
      have : (kvs.map (·.1)).map kV = (ks.map Sum.inl).map kV := by rw [h2]
      rw [List.map_map, List.map_map] at this
      exact this
    rw [eu]
    have su := same_new (o := .lst (ks.map V.int)) hu
    refine ⟨u, ks, rfl, sqL upd_same, fun ys l py sy hl => ?_⟩
    have s12 := s1.trans (su.trans (same_new (o := .lst (ys.map V.int)) hl))
    have nd : ys.Nodup := py.nodup_iff.mpr h3
    exact k l ys _ (free2 hl (s1.trans su)) upd_same ⟨List.Pairwise.imp₂ (fun a b l n => by omega) sy nd, fun x => py.mem_iff.trans (h5 x)⟩ (by rw [py.length_eq]; exact kl) s12
def sp_glued (K : PySem.W.Frag) : Sp := fun vs H Q _ => ∃ (r : Addr) (xs : List V) (R : List PR) (lo hi : Int), vs = [.ref r, .int lo, .int hi] ∧ H r = some (.lst xs) ∧ Prs H xs R ∧ R.length ≤ 1000 ∧
  ∀ xs' R' H', H' r = some (.lst xs') → Prs H' xs' R' → Out [r] H H' → ((∃ R0 q, R = R0 ++ [q] ∧ q.1 + q.2 = lo ∧ R' = R0 ++ [(q.1, hi - q.1)]) ∨ ((∀ R0 q, R = R0 ++ [q] → q.1 + q.2 ≠ lo) ∧ R' = R ++ [(lo, hi - lo)])) → Q .non H'
def N_l_glued : List Str := ["_law_row", "_law_low", "_law_high"]
def t_l_glued (K : PySem.W.Frag) : TS := (tIfS (tAnd (tTest (tOp oGt (tCB (rLen K) (tCons (tVar 0) tNil)) (tC (.int 0)))) (tTest (tOp rEq (tOp oAdd (tOp (rIxT K) (tOp (rIxL K) (tVar 0) (tUn oNeg (tC (.int 1)))) (tC (.int 0))) (tOp (rIxT K) (tOp (rIxL K) (tVar 0) (tUn oNeg (tC (.int 1)))) (tC (.int 1)))) (tVar 1)))) (tAsg (tTup (tCons (tOp (rIxT K) (tOp (rIxL K) (tVar 0) (tUn oNeg (tC (.int 1)))) (tC (.int 0))) (tCons (tOp oSub (tVar 2) (tOp (rIxT K) (tOp (rIxL K) (tVar 0) (tUn oNeg (tC (.int 1)))) (tC (.int 0)))) tNil))) (gSub (tVar 0) (tUn oNeg (tC (.int 1))) rSetL)) (tDrop (tBM K "list" rAppend (tVar 0) (tCons (tTup (tCons (tVar 1) (tCons (tOp oSub (tVar 2) (tVar 1)) tNil))) tNil))))
theorem out_set5 {r : Addr} {H H' : Hp} {o : HO} (s : Same H H') : Out [r] H (upd H' r o) := fun b u n e => upd_off (by simpa using n) (s _ _ e)
theorem pure_glued {K : PySem.W.Frag} {vs : List V} {H : Hp} {Q : VK} {E : XK} (h : sp_glued K vs H Q E) : t_l_glued K { nx := fun _ H' => Q .non H', rt := Q } (start N_l_glued vs) H := by
  obtain ⟨r, xs, R, lo, hi, rfl, hr, hp, rl, k⟩ := h
  have xl := hp.len
  have hr : H r = some (.lst xs) := hr
  show t_l_glued K _ [some (.ref r), some (.int lo), some (.int hi)] H
  unfold t_l_glued
  have new : (∀ R0 q, R = R0 ++ [q] → q.1 + q.2 ≠ lo) → tDrop (tBM K "list" rAppend (tVar 0) (tCons (tTup (tCons (tVar 1) (tCons (tOp oSub (tVar 2) (tVar 1)) tNil))) tNil)) { nx := fun _ H' => Q .non H', rt := Q } [some (.ref r), some (.int lo), some (.int hi)] H := fun no => by
    fold_lay
    rename_i u hu
    have su := same_new (o := .tup [.int lo, .int (hi - lo)]) hu
    have gu : upd H u (.tup [.int lo, .int (hi - lo)]) u = some (.tup [.int lo, .int (hi - lo)]) := upd_same
    generalize upd H u (.tup [.int lo, .int (hi - lo)]) = H1 at *
    refine i_put (su _ _ hr) (by omega) ?_
    have tk := tupK_upd7 (o := .lst (xs ++ [.ref u])) (su _ _ hr)
    exact k _ _ _ upd_same (((hp.mono su).tupK tk).app (.cons (tk _ _ gu) .nil)) (out_set5 su) (.inr ⟨no, rfl⟩)
  fold_lay
  refine i_ifd (fun e1 => ?_) (fun e1 => ?_)
  · have ne : R ≠ [] := fun e => by
      rw [e] at xl
      rw [xl] at e1
      exact absurd e1 (by decide)
    obtain ⟨R0, q, rfl⟩ : ∃ R0 q, R = R0 ++ [q] := ⟨R.dropLast, R.getLast ne, (List.dropLast_concat_getLast ne).symm⟩
    obtain ⟨gs, w, rfl, h8, hw⟩ := hp.last
    fold_lay
    refine i_ixLast hr ?_
    fold_lay
    refine i_ixLast hr ?_
    fold_lay
    refine i_ifd (fun e2 => ?_) (fun e2 => ?_)
    · fold_lay
      refine i_ixLast hr ?_
      fold_lay
      refine i_ixLast hr ?_
      fold_lay
      rename_i u hu
      have su := same_new (o := .tup [.int q.1, .int (hi - q.1)]) hu
      have gu : upd H u (.tup [.int q.1, .int (hi - q.1)]) u = some (.tup [.int q.1, .int (hi - q.1)]) := upd_same
      generalize upd H u (.tup [.int q.1, .int (hi - q.1)]) = H1 at *
      refine i_setLast (su _ _ hr) ?_
      have tk := tupK_upd7 (o := .lst (gs ++ [.ref u])) (su _ _ hr)
      refine k _ _ _ upd_same (((h8.mono su).tupK tk).app (.cons (tk _ _ gu) .nil)) (out_set5 su) (.inl ⟨R0, q, rfl, e2, rfl⟩)
    · refine new fun R1 q1 e => ?_
      have := List.append_inj_right' e rfl
      cases this
      exact e2
  · rw [if_neg (by decide)]
    refine new fun R1 q1 e => ?_
    subst e
    rw [List.length_append] at xl
    simp only [List.length_cons, List.length_nil] at xl
    exact absurd (show (0 : Int) < xs.length by omega) e1
/-! ## K05c -/
local macro_rules | `(tactic| kbj_are) => `(tactic| (with_reducible refine q_len ?_; with_reducible refine i_lenT (sqT (by assumption)) ?_))
/-! ### k05: the runs due, the start due -/
def sp_normal_of (K : PySem.W.Frag) : Sp := fun vs H Q _ => ∃ (r : Addr) (xs : List V) (ps : List PR), vs = [.ref r] ∧ H r = some (.lst xs) ∧ Prs H xs ps ∧ OkS ps ∧ ps.length ≤ 60 ∧
  ∀ (l : Addr) (zs : List V) (R : List PR) H', H l = none → H' l = some (.lst zs) → Prs H' zs R → RunsL R → (∀ x, inSp R x ↔ inSp ps x) → R.length ≤ 120 → Same H H' → Q (.ref l) H'
def N_l_normal_of : List Str := ["_law_spans_here", "_law_cuts", "_law_row", "_law_k"]
def t_l_normal_of (K : PySem.W.Frag) : TS := (tSeq (tAsg (tCall (sp_cuts_of K) [] E0 (tCons (tVar 0) tNil)) (gName 1))
  (tSeq (tAsg (tLst tNil) (gName 2))
  (tSeq (tFor (iRng1 (tCons (tOp oSub (tCB (rLen K) (tCons (tVar 1) tNil)) (tC (.int 1))) tNil)) (gName 3) (tIfS (tB (tCall (sp_held5 K) [] E0 (tCons (tOp (rIxL K) (tVar 1) (tVar 3)) (tCons (tVar 0) tNil)))) (tDrop (tCall (sp_glued K) [] E0 (tCons (tVar 2) (tCons (tOp (rIxL K) (tVar 1) (tVar 3)) (tCons (tOp (rIxL K) (tVar 1) (tOp oAdd (tVar 3) (tC (.int 1)))) tNil))))) tNext))
  (tRet (tVar 2)))))
theorem pure_normal_of {K : PySem.W.Frag} {vs : List V} {H : Hp} {Q : VK} {E : XK} (h : sp_normal_of K vs H Q E) : t_l_normal_of K { nx := fun _ H' => Q .non H', rt := Q } (start N_l_normal_of vs) H := by
  obtain ⟨r, xs, ps, rfl, hr, hp, ok, pl, k⟩ := h
  show t_l_normal_of K _ [some (.ref r), none, none, none] H
  unfold t_l_normal_of
  fold_lay
  refine ⟨r, xs, ps, rfl, hr, hp, pl, fun cu cs H1 hcu hcu1 C cl s1 => ?_⟩
  fold_lay
  rename_i l hl
  have s2 := same_new (o := .lst []) hl
  have gl : upd H1 l (.lst []) l = some (.lst []) := upd_same
  have lH := free2 hl s1
  generalize hH2 : upd H1 l (.lst []) = H2 at *
  have s12 := s1.trans s2
  have hcu2 := s2 _ _ hcu1
  have ncl : cu ≠ l := fun e => by rw [e, hl] at hcu1; cases hcu1
  fold_lay
  fold_depth
  rw [List.length_map]
  refine f_rng1 (by omega) (by omega) (l_rng (fun i σ' H' => Same H1 H' ∧ ∃ (zs : List V) (R : List PR), H' l = some (.lst zs) ∧ Prs H' zs R ∧ R.length ≤ i ∧ (∀ a, cs[i]? = some a → NrmI ps a R) ∧ (cs = [] → R = []) ∧ ∃ y3, σ' = [some (.ref r), some (.ref cu), some (.ref l), y3]) ⟨s2, [], [], gl, .nil, Nat.le_refl _, fun a e => nrm_first C ok e, fun _ => rfl, _, rfl⟩ ?_ ?_)
  · rintro i σ' H3 hi ⟨s3, zs, R, g3, p3, rl, nI, nE, y3, rfl⟩
    have i1 : i + 1 < cs.length := by omega
    obtain ⟨a, ea⟩ : ∃ a, cs[i]? = some a := ⟨_, List.getElem?_eq_getElem (by omega)⟩
    obtain ⟨b, eb⟩ : ∃ b, cs[i + 1]? = some b := ⟨_, List.getElem?_eq_getElem i1⟩
    have hcu3 := s3 _ _ hcu1
    have N := nI a ea
    have aA : atI (cs.map V.int) (0 + (i : Int)) = some (.int a) := at_of (j := i) (by omega) (by rw [List.getElem?_map, ea]; rfl)
    have aB : atI (cs.map V.int) (0 + (i : Int) + 1) = some (.int b) := at_of (j := i + 1) (by omega) (by rw [List.getElem?_map, eb]; rfl)
    have hr3 := (s1.trans s3) _ _ hr
    have hp3 := hp.mono (s1.trans s3)
    have nx : ∀ {R' : List PR}, NrmI ps b R' → ∀ c, cs[i + 1]? = some c → NrmI ps c R' := fun h c e => by
      rw [eb] at e
      cases e
      exact h
    have nemp : cs ≠ [] := fun e => by rw [e] at i1; cases i1
    fold_lay
    refine i_ixL (sqL hcu3) aA ?_
    fold_lay
    refine ⟨r, xs, ps, a, rfl, hr3, hp3, fun bb hb => ?_⟩
    cases bb with
    | false =>
      fold_lay
      refine ⟨s3, zs, R, g3, p3, by omega, nx (nrm_stay C ea eb N fun c => ?_), fun e => absurd e nemp, _, rfl⟩
      have := hb.mpr c
      cases this
    | true =>
      have ins := hb.mp rfl
      fold_lay
      refine i_ixL (sqL hcu3) aA ?_
      fold_lay
      refine i_ixL (sqL hcu3) aB ?_
      fold_lay
      refine ⟨l, zs, R, a, b, rfl, g3, p3, by omega, fun xs' R' H4 g4 p4 o4 w => ?_⟩
      have s4 : Same H1 H4 := fun q o e => o4 q o (by simpa using ne_of_none e hl) (s3 _ _ e)
      fold_lay
      rcases w with ⟨R0, q, rfl, e1, rfl⟩ | ⟨no, rfl⟩
      · exact ⟨s4, xs', _, g4, p4, by rw [List.length_append] at *; simp only [List.length_cons, List.length_nil] at *; omega, nx (nrm_glue C ok ea eb N ins e1), fun e => absurd e nemp, _, rfl⟩
      · refine ⟨s4, xs', _, g4, p4, by rw [List.length_append]; exact Nat.succ_le_succ rl, nx (nrm_new C ok ea eb N ins fun p m e => ?_), fun e => absurd e nemp, _, rfl⟩
        have nR : R ≠ [] := List.ne_nil_of_mem m
        have eR := (List.dropLast_concat_getLast nR).symm
        have last := no _ _ eR
        have mL := List.getLast_mem nR
        rcases Int.lt_trichotomy p.1 (R.getLast nR).1 with c | c | c
        · have := runs_ord N.rn m mL c
          have := (N.rn.ok _ mL).2.1
          have := N.low _ mL
          omega
        · have := runs_eq N.rn m mL c
          rw [← this] at last
          exact last e
        · have pw := N.rn.ap
          rw [eR] at pw m
          rcases List.mem_append.mp m with m | m
          · have := (List.pairwise_append.mp pw).2.2 p m _ List.mem_cons_self
            have := (N.rn.ok p (by rw [eR]; exact List.mem_append_left _ m)).2.1
            omega
          · rw [List.mem_singleton.mp m] at c
            omega
  · rintro σ' H3 ⟨s3, zs, R, g3, p3, rl, nI, nE, y3, rfl⟩
    fold_lay
    have fin : RunsL R ∧ ∀ x, inSp R x ↔ inSp ps x := by
      cases cs with
      | nil =>
        rw [nE rfl, cuts_nil C rfl]
        exact ⟨⟨.nil, fun _ m => by cases m⟩, fun _ => Iff.rfl⟩
      | cons c0 cs' =>
        have en : (((c0 :: cs').length : Int) - 1).toNat = cs'.length := by
          rw [List.length_cons]
          omega
        rw [en] at nI
        obtain ⟨a, ea⟩ : ∃ a, (c0 :: cs')[cs'.length]? = some a := ⟨_, List.getElem?_eq_getElem (by rw [List.length_cons]; omega)⟩
        have N := nI a ea
        exact ⟨N.rn, nrm_last C (by rw [List.length_cons]) ea N⟩
    exact k l zs R H3 lH g3 p3 fin.1 fin.2 (by omega) (s1.trans s3)
def sp_start_due (K : PySem.W.Frag) : Sp := fun vs H Q _ => ∃ (r : Addr) (xs : List V) (rs : List PR) (z al : Int) (b : Bool), vs = [.ref r, .int z, .int al, .bl b] ∧ H r = some (.lst xs) ∧ Prs H xs rs ∧ OkS rs ∧ 1 ≤ al ∧ al ≤ 1073741824 ∧ Q (oV (dueF b z al rs)) H
def N_l_start_due : List Str := ["_law_spans_here", "_law_size_here", "_law_alignment_here", "_law_best", "_law_found", "_law_least", "_law_start", "_law_count_here", "_law_one"]
def t_l_start_due (K : PySem.W.Frag) : TS := (tSeq (tAsg (tC .non) (gName 4))
  (tSeq (tAsg (tC (.int 0)) (gName 5))
  (tSeq (tFor (iList K (tVar 0)) (gTup K 2 (gCons (gName 6) (gCons (gName 7) gNil))) (tSeq (tAsg (tCall sp_up7 [] E0 (tCons (tVar 6) (tCons (tVar 2) tNil))) (gName 8))
  (tIfS (tAnd (tTest (tOp oLe (tOp oAdd (tVar 8) (tVar 1)) (tOp oAdd (tVar 6) (tVar 7)))) (tOr (tTest (tOp oIsN (tVar 4) (tC .non))) (tAnd (tB (tVar 3)) (tTest (tOp oLt (tVar 7) (tVar 5)))))) (tSeq (tAsg (tVar 8) (gName 4))
  (tAsg (tVar 7) (gName 5))) tNext)))
  (tRet (tVar 4)))))
theorem pure_start_due {K : PySem.W.Frag} {vs : List V} {H : Hp} {Q : VK} {E : XK} (h : sp_start_due K vs H Q E) : t_l_start_due K { nx := fun _ H' => Q .non H', rt := Q } (start N_l_start_due vs) H := by
  obtain ⟨r, xs, rs, z, al, b, rfl, hr, hp, ok, a0, a1, k⟩ := h
  show t_l_start_due K _ [some (.ref r), some (.int z), some (.int al), some (.bl b), none, none, none, none, none] H
  unfold t_l_start_due
  fold_lay
  fold_depth
  refine f_lst (sqL hr) (l_lst (xs := xs) (fun i σ' H' => H' = H ∧ ∃ y6 y7 y8 fd ls, (rs.take i).foldl (stepD b z al) (none, 0) = (fd, ls) ∧ σ' = [some (.ref r), some (.int z), some (.int al), some (.bl b), some (oV fd), some (.int ls), y6, y7, y8]) ⟨rfl, _, _, _, none, 0, rfl, rfl⟩ (fun i σ' H' _ h => by rw [h.1]; exact sqL hr) ?_ ?_)
  · rintro i x σ' H' hx ⟨rfl, y6, y7, y8, fd, ls, fo, rfl⟩
    obtain ⟨p, t, ep, rfl, ht⟩ := hp.at hx
    obtain ⟨o1, o2, o3⟩ := ok p (List.mem_of_getElem? ep)
    have tk : rs.take (i + 1) = rs.take i ++ [p] := by rw [List.take_add_one, ep]; rfl
    have go : ∀ s, stepD b z al (fd, ls) p = s → (rs.take (i + 1)).foldl (stepD b z al) (none, 0) = s := fun s e => by
      rw [tk, List.foldl_append, fo]
      exact e
    fold_lay
    refine ⟨p.1, al, rfl, o1, by omega, a0, a1, ?_⟩
    fold_lay
    refine i_ifd (fun f => ?_) (fun f => ?_)
    · have f : Fit z al p := f
      cases fd with
      | none =>
        fold_lay
        rw [if_pos (show decide (oV none = V.non) = true from rfl)]
        fold_lay
        refine ⟨rfl, _, _, _, some (upA p.1 al), p.2, go _ ?_, rfl⟩
        unfold stepD
        rw [if_pos ⟨f, .inl rfl⟩]
      | some u =>
        fold_lay
        rw [if_neg (show ¬ decide (oV (some u) = V.non) = true by simp [oV])]
        fold_lay
        cases b with
        | false =>
          fold_lay
          refine ⟨rfl, _, _, _, some u, ls, go _ ?_, rfl⟩
          unfold stepD
          rw [if_neg]
          rintro ⟨_, c | c⟩
          · cases c
          · cases c.1
        | true =>
          fold_lay
          refine i_ifd (fun e => ?_) (fun e => ?_)
          · fold_lay
            refine ⟨rfl, _, _, _, some (upA p.1 al), p.2, go _ ?_, rfl⟩
            unfold stepD
            rw [if_pos ⟨f, .inr ⟨rfl, e⟩⟩]
          · fold_lay
            refine ⟨rfl, _, _, _, some u, ls, go _ ?_, rfl⟩
            unfold stepD
            rw [if_neg]
            rintro ⟨_, c | c⟩
            · cases c
            · exact e c.2
    · have f : ¬ Fit z al p := f
      fold_lay
      refine ⟨rfl, _, _, _, fd, ls, go _ ?_, rfl⟩
      unfold stepD
      rw [if_neg fun z => f z.1]
  · rintro σ' H' ⟨rfl, y6, y7, y8, fd, ls, fo, rfl⟩
    rw [hp.len, List.take_length] at fo
    fold_lay
    have e : dueF b z al rs = fd := by
      unfold dueF
      rw [fo]
    rw [e] at k
    exact k
/-! ## K05d -/
local macro_rules | `(tactic| kbj_are) => `(tactic| (with_reducible refine q_len ?_; with_reducible refine i_lenT (sqT (by assumption)) ?_))
/-! ### k05: small worlds walked -/
instance s_dnin5 {td ty : TE} {σ : St} {H : Hp} {Q : VK} : Stp (tDNotIn ty td σ H Q) (ty σ H fun y H1 => td σ H1 fun x H2 => ∃ a o, x = .ref a ∧ DGet H2 a y o ∧ Q (.bl (!o.isSome)) H2) := ⟨fun h => h⟩
theorem int_at5 {l : List Int} {i : Nat} {x : V} (h : (l.map V.int)[i]? = some x) : ∃ s, l[i]? = some s ∧ x = .int s := by
  rw [List.getElem?_map] at h
  obtain ⟨s, e, e2⟩ := Option.map_eq_some_iff.mp h
  exact ⟨s, e, e2.symm⟩
theorem KS.has {H : Hp} {D : Addr} {n : Nat} {P : Int → Prop} (h : KS H D n P) (p : Int) : ∃ kvs, H D = some (.dK kvs) ∧ ((valV kvs (Sum.inl p)).isSome = true ↔ P p) := by
  obtain ⟨kvs, ks, h1, h2, h3, h4, h5⟩ := h
  refine ⟨kvs, h1, ?_⟩
  rw [← h5 p, ← valV_any, List.any_eq_true]
  constructor
  · rintro ⟨kv, mk, ek⟩
    have : kv.1 ∈ kvs.map (·.1) := List.mem_map.mpr ⟨kv, mk, rfl⟩
    rw [h2] at this
    obtain ⟨x, hx, ex⟩ := List.mem_map.mp this
    have ek := of_decide_eq_true ek
    rw [← ex] at ek
    rw [← Sum.inl.inj ek]
    exact hx
  · intro m
    have : (Sum.inl p : Key) ∈ kvs.map (·.1) := by
      rw [h2]
      exact List.mem_map.mpr ⟨p, m, rfl⟩
    obtain ⟨kv, mk, ek⟩ := List.mem_map.mp this
    exact ⟨kv, mk, decide_eq_true ek⟩
theorem KS.mono {H H' : Hp} {D : Addr} {n : Nat} {P : Int → Prop} (h : KS H D n P) (k : Same H H') : KS H' D n P := by
  obtain ⟨kvs, ks, h1, h2⟩ := h
  exact ⟨kvs, ks, k _ _ h1, h2⟩
def sp_all_inside (K : PySem.W.Frag) : Sp := fun vs H Q _ => ∃ (D : Addr) (n : Nat) (P : Int → Prop) (a m : Int), vs = [.ref D, .int a, .int m] ∧ KS H D n P ∧ 0 ≤ a ∧ a ≤ 1000 ∧ 0 ≤ m ∧ m ≤ 1000 ∧ ∀ b : Bool, (b = true ↔ ∀ x, a ≤ x → x < a + m → P x) → Q (.bl b) H
def N_l_all_inside : List Str := ["_law_inside", "_law_start", "_law_size_here", "_law_place"]
def t_l_all_inside (K : PySem.W.Frag) : TS := (tSeq (tFor (iRng2 (tCons (tVar 1) (tCons (tOp oAdd (tVar 1) (tVar 2)) tNil))) (gName 3) (tIfS (tB (tDNotIn (tVar 3) (tVar 0))) (tRet (tC (.bl false))) tNext))
  (tRet (tC (.bl true))))
theorem pure_all_inside {K : PySem.W.Frag} {vs : List V} {H : Hp} {Q : VK} {E : XK} (h : sp_all_inside K vs H Q E) : t_l_all_inside K { nx := fun _ H' => Q .non H', rt := Q } (start N_l_all_inside vs) H := by
  obtain ⟨D, n, P, a, m, rfl, ks, a0, a1, m0, m1, k⟩ := h
  show t_l_all_inside K _ [some (.ref D), some (.int a), some (.int m), none] H
  unfold t_l_all_inside
  fold_lay
  fold_depth
  refine f_rng2 (by omega) (by omega) (by omega) (by omega) (l_rng (fun i σ' H' => H' = H ∧ (∀ x, a ≤ x → x < a + i → P x) ∧ ∃ y3, σ' = [some (.ref D), some (.int a), some (.int m), y3]) ⟨rfl, fun x h1 h2 => by omega, _, rfl⟩ ?_ ?_)
  · rintro i σ' H' hi ⟨rfl, all, y3, rfl⟩
    obtain ⟨kvs, hk, iff⟩ := ks.has (a + i)
    fold_lay
    refine ⟨D, _, rfl, DGet.k (k := Sum.inl (a + i)) hk, ?_⟩
    cases e : (valV kvs (Sum.inl (a + (i : Int)))).isSome with
    | false =>
      fold_lay
      refine k false ⟨fun z => (by cases z), fun z => ?_⟩
      have := iff.mpr (z (a + i) (by omega) (by omega))
      rw [e] at this
      cases this
    | true =>
      fold_lay
      refine ⟨rfl, fun x h1 h2 => ?_, _, rfl⟩
      by_cases c : x < a + i
      · exact all x h1 c
      · rw [show x = a + i by omega]
        exact iff.mp e
  · rintro σ' H' ⟨rfl, all, y3, rfl⟩
    fold_lay
    exact k true ⟨fun _ x h1 h2 => all x h1 (by omega), fun _ => rfl⟩
theorem lc_range3 {lo c : Int} {n : Nat} {g : TG} {tt : TT} {te : TE} {vs : List Nat} {σ : St} {H1 : Hp} {D : Addr} {Qd : Hp → Prop} (Pv : Nat → Hp → Prop) (h0 : Pv 0 (upd H1 D (.lst [])))
    (hs : ∀ i H, i < n → Pv i H → g (.int (lo + (i : Nat) * c)) (wipe σ vs) H fun σ2 H2 => wipe σ2 vs = wipe σ vs ∧ tt σ2 H2 fun b H3 =>
      if b = true then te σ2 H3 fun y H4 => ∃ acc, H4 D = some (.lst acc) ∧ acc.length < sizeLine ∧ Pv (i + 1) (upd H4 D (.lst (acc ++ [y]))) else Pv (i + 1) H3) (hd : ∀ H, Pv n H → Qd H) :
    ∃ W : Nat → Nat → Hp → Prop, (∃ m, W 0 m (upd H1 D (.lst []))) ∧ ∀ i m H, W i m H →
      ((Itc lo c n).stop i H ∧ Qd H) ∨ ((Itc lo c n).go i H ∧ ∃ Nx : Hp → Prop, (∀ H', Nx H' → ∃ m', m' < m ∧ W (i + 1) m' H') ∧ ∀ x H', (Itc lo c n).yld i H x H' → g x (wipe σ vs) H' fun σ2 H2 => wipe σ2 vs = wipe σ vs ∧ tt σ2 H2 fun b H3 =>
        if b = true then te σ2 H3 fun y H4 => ∃ acc, H4 D = some (.lst acc) ∧ acc.length < sizeLine ∧ Nx (upd H4 D (.lst (acc ++ [y]))) else Nx H3) := by
  refine ⟨fun i m H => m = n - i ∧ i ≤ n ∧ Pv i H, ⟨n, by simp, Nat.zero_le _, h0⟩, ?_⟩
  rintro i m H ⟨rfl, hi, p⟩
  by_cases hlt : i < n
  · refine .inr ⟨hlt, Pv (i + 1), fun H' p' => ⟨n - (i + 1), by omega, rfl, hlt, p'⟩, fun x H' y => ?_⟩
    obtain ⟨e, y⟩ := y
    subst e y
    exact hs i _ hlt p
  · have e : i = n := by omega
    subst e
    exact .inl ⟨Nat.le_refl _, hd _ p⟩
theorem m_rng3 {lo c : Int} {n : Nat} {g : TG} {tt : TT} {te : TE} {vs : List Nat} {σ : St} {H : Hp} {Q : VK} (Pv : Addr → Nat → Hp → Prop) (h0 : ∀ D, H D = none → Pv D 0 (upd H D (.lst [])))
    (hs : ∀ D i H', i < n → Pv D i H' → g (.int (lo + (i : Nat) * c)) (wipe σ vs) H' fun σ2 H2 => wipe σ2 vs = wipe σ vs ∧ tt σ2 H2 fun b H3 => if b = true then te σ2 H3 fun y H4 => ∃ acc, H4 D = some (.lst acc) ∧ acc.length < sizeLine ∧ Pv D (i + 1) (upd H4 D (.lst (acc ++ [y]))) else Pv D (i + 1) H3)
    (hd : ∀ D H', Pv D n H' → Q (.ref D) H') : LcW (Itc lo c n) g tt te vs σ H Q := fun D hD => lc_range3 (Pv D) (h0 D hD) (hs D) (hd D)
theorem rg60 {al : Int} (h2 : 1 ≤ al) (h3 : al ≤ 1073741824) : RgB 0 60 al (59 / al + 1).toNat ∧ (59 / al + 1).toNat ≤ 60 := by
  have q : 0 ≤ (59 : Int) / al ∧ 59 / al ≤ 59 := ⟨Int.ediv_nonneg (by omega) (by omega), Int.ediv_le_self al (by omega)⟩
  have rs : Builtin.Range.rangeSize 0 60 al = (((59 / al + 1).toNat : Nat) : Int) := by
    unfold Builtin.Range.rangeSize
    rw [if_pos (by omega), if_pos (by omega)]
    show (60 - 0 - 1) / al + 1 = _
    rw [show (60 : Int) - 0 - 1 = 59 by omega]
    omega
  have lg : al.natAbs.log2 < 9000 := by
    have : al.natAbs.log2 < 31 := (Nat.log2_lt (by omega)).mpr (by omega)
    omega
  refine ⟨⟨by omega, lg, ?_, rs⟩, by omega⟩
  unfold Builtin.Range.small
  rw [rs]
  simp only [Builtin.Range.rangeFitsLong, Bool.and_eq_true, Bool.or_eq_true, decide_eq_true_eq, beq_iff_eq, if_pos (show al > 0 by omega)]
  refine ⟨⟨⟨⟨?_, ?_⟩, ?_⟩, ?_⟩, ?_⟩ <;> omega
theorem mul60 {al a : Int} (h : 1 ≤ al) : (0 ≤ a ∧ a < 60 ∧ a % al = 0) ↔ ∃ j : Nat, j < (59 / al + 1).toNat ∧ a = j * al := by
  constructor
  · rintro ⟨a0, a1, a2⟩
    obtain ⟨q, rfl⟩ := Int.dvd_of_emod_eq_zero a2
    rw [Int.mul_comm] at *
    have q0 : 0 ≤ q := by
      rcases Int.lt_or_le q 0 with c | c
      · have := Int.mul_le_mul_of_nonneg_right (show q ≤ -1 by omega) (show 0 ≤ al by omega)
        omega
      · exact c
    have := Int.le_ediv_of_mul_le (show 0 < al by omega) (show q * al ≤ 59 by omega)
    exact ⟨q.toNat, by omega, by rw [show ((q.toNat : Nat) : Int) = q by omega]⟩
  · rintro ⟨j, hj, rfl⟩
    have b : (j : Int) ≤ 59 / al := by omega
    have := Int.mul_le_mul_of_nonneg_right b (show 0 ≤ al by omega)
    have e := Int.ediv_mul_le 59 (show al ≠ 0 by omega)
    have := Int.mul_nonneg (show 0 ≤ (j : Int) by omega) (show 0 ≤ al by omega)
    exact ⟨this, by omega, Int.mul_emod_left _ _⟩
def sp_walked (K : PySem.W.Frag) : Sp := fun vs H Q _ => ∃ (r : Addr) (xs : List V) (ps rs : List PR) (z al : Int) (b : Bool), vs = [.ref r, .int z, .int al, .bl b] ∧ H r = some (.lst xs) ∧ Prs H xs ps ∧ OkS ps ∧ ps.length ≤ 60 ∧ (∀ p ∈ ps, p.1 + p.2 ≤ 60) ∧ RunsL rs ∧ (∀ x, inSp rs x ↔ inSp ps x) ∧ Ask5 z al ∧ ∀ H', Same H H' → Q (oV (dueF b z al rs)) H'
def N_l_walked : List Str := ["_law_spans_here", "_law_size_here", "_law_alignment_here", "_law_best", "_law_inside", "_law_run", "_law_place", "_law_starts", "_law_rows", "_law_one"]
def t_l_walked (K : PySem.W.Frag) : TS := (tSeq (tAsg tDNewK (gName 4))
  (tSeq (tFor (iList K (tVar 0)) (gName 5) (tFor (iRng2 (tCons (tOp (rIxT K) (tVar 5) (tC (.int 0))) (tCons (tOp oAdd (tOp (rIxT K) (tVar 5) (tC (.int 0))) (tOp (rIxT K) (tVar 5) (tC (.int 1)))) tNil))) (gName 6) (sDPut (tVar 4) (tVar 6) (tC (.bl true)))))
  (tSeq (tAsg (tLc (iRng3B (tCons (tC (.int 0)) (tCons (tC (.int 60)) (tCons (tVar 2) tNil)))) (gName 9) (tB (tCall (sp_all_inside K) [] E0 (tCons (tVar 4) (tCons (tVar 9) (tCons (tCB rMin2 (tCons (tVar 1) (tCons (tC (.int 61)) tNil))) tNil))))) (tVar 9) [9]) (gName 7))
  (tSeq (tIfS (tTest (tOp rEq (tCB (rLen K) (tCons (tVar 7) tNil)) (tC (.int 0)))) (tRet (tC .non)) tNext)
  (tSeq (tIfS (tNot (tB (tVar 3))) (tRet (tCB (rMin K) (tCons (tVar 7) tNil))) tNext)
  (tSeq (tAsg (tLst tNil) (gName 8))
  (tSeq (tFor (iList K (tCall (sp_normal_of K) [] E0 (tCons (tVar 0) tNil))) (gName 5) (tAsg (tOp rCat (tVar 8) (tLc (iList K (tVar 7)) (gName 9) (tTest (tChain oLe oLt (tOp (rIxT K) (tVar 5) (tC (.int 0))) (tVar 9) (tOp oAdd (tOp (rIxT K) (tVar 5) (tC (.int 0))) (tOp (rIxT K) (tVar 5) (tC (.int 1)))))) (tTup (tCons (tOp (rIxT K) (tVar 5) (tC (.int 1))) (tCons (tVar 9) tNil))) [9])) (gName 8)))
  (tRet (tOp (rIxT K) (tCB (rMinP K) (tCons (tVar 8) tNil)) (tC (.int 1)))))))))))
theorem pure_walked {K : PySem.W.Frag} {vs : List V} {H : Hp} {Q : VK} {E : XK} (h : sp_walked K vs H Q E) : t_l_walked K { nx := fun _ H' => Q .non H', rt := Q } (start N_l_walked vs) H := by
  obtain ⟨r, xs, ps, rs, z, al, b, rfl, hr, hp, ok, pl, sm, rn, same, ⟨z0, z1, ap, a1⟩, k⟩ := h
  have al1 := pow1 ap
  have xl := hp.len
  show t_l_walked K _ [some (.ref r), some (.int z), some (.int al), some (.bl b), none, none, none, none, none, none] H
  unfold t_l_walked
  fold_lay
  intro D hD
  fold_lay
  refine i_cut (fun σ' H' => Same H H' ∧ KS H' D 3600 (fun x => inSp ps x) ∧ ∃ y5 y6, σ' = [some (.ref r), some (.int z), some (.int al), some (.bl b), some (.ref D), y5, y6, none, none, none]) ?_ (fun nx key => ?_)
  rotate_left
  · fold_lay
    refine f_lst (sqL (same_new hD _ _ hr)) (l_lst (xs := xs) (fun i σ' H' => Same H H' ∧ KS H' D (60 * i) (fun x => inSp (ps.take i) x) ∧ ∃ y5 y6, σ' = [some (.ref r), some (.int z), some (.int al), some (.bl b), some (.ref D), y5, y6, none, none, none]) ⟨same_new hD, ⟨[], [], upd_same, rfl, .nil, Nat.le_refl _, fun p => ⟨fun m => (by cases m), fun m => absurd m inS_nil⟩⟩, _, _, rfl⟩ (fun i σ' H' _ h => sqL (h.1 _ _ hr)) ?_ ?_)
    · rintro i x σ' H1 hx ⟨s1, ks, y5, y6, rfl⟩
      have il := (List.getElem?_eq_some_iff.mp hx).1
      obtain ⟨q, t, eq, rfl, ht⟩ := hp.at hx
      obtain ⟨q1, q2, q3⟩ := ok q (List.mem_of_getElem? eq)
      have q4 := sm q (List.mem_of_getElem? eq)
      have ht := s1 _ _ ht
      have et : ps.take (i + 1) = ps.take i ++ [q] := by rw [List.take_add_one, eq]; rfl
      fold_lay
      refine f_rng2 (by omega) (by omega) (by omega) (by omega) (l_rng (fun j σ' H' => Same H H' ∧ KS H' D (60 * i + j) (fun x => inSp (ps.take i) x ∨ (q.1 ≤ x ∧ x < q.1 + j)) ∧ ∃ y6, σ' = [some (.ref r), some (.int z), some (.int al), some (.bl b), some (.ref D), some (.ref t), y6, none, none, none]) ⟨s1, ks.eq (Nat.le_refl _) fun p => ⟨.inl, fun z => z.elim id fun z => by omega⟩, _, rfl⟩ ?_ ?_)
      · rintro j σ' H2 hj ⟨s2, ks2, y4, rfl⟩
        obtain ⟨kvs, hk, kl, put⟩ := ks2.put (q.1 + j)
        fold_lay
        refine ⟨D, _, rfl, DPut.k (k := Sum.inl (q.1 + j)) hk (szl (by omega)), same_step hD s2, (put _).eq (by omega) fun p => ?_, _, rfl⟩
        constructor
        · rintro ((z | z) | z)
          · exact .inl z
          · exact .inr ⟨z.1, by omega⟩
          · exact .inr ⟨by omega, by omega⟩
        · rintro (z | z)
          · exact .inl (.inl z)
          · by_cases e : p = q.1 + j
            · exact .inr e
            · exact .inl (.inr ⟨z.1, by omega⟩)
      · rintro σ' H2 ⟨s2, ks2, y4, rfl⟩
        refine ⟨s2, ks2.eq (by omega) fun p => ?_, _, _, rfl⟩
        rw [et, inS_app, inS_one]
        constructor
        · rintro (z | z)
          · exact .inl z
          · exact .inr ⟨z.1, by omega⟩
        · rintro (z | z)
          · exact .inl z
          · exact .inr ⟨z.1, by omega⟩
    · rintro σ' H1 ⟨s1, ks, y5, y6, rfl⟩
      rw [xl, List.take_length] at ks
      exact key _ _ ⟨s1, ks.eq (by omega) fun _ => Iff.rfl, _, _, rfl⟩
  rintro σ' H1 ⟨s1, ks, y5, y6, rfl⟩
  obtain ⟨rg, nl⟩ := rg60 al1 a1
  fold_lay
  refine ⟨0, 60, al, (59 / al + 1).toNat, rfl, rg, m_rng3 (fun S i H' => Same H1 H' ∧ H1 S = none ∧ ∃ acc : List Int, H' S = some (.lst (acc.map V.int)) ∧ acc.length ≤ i ∧ ∀ a, a ∈ acc ↔ ∃ j : Nat, j < i ∧ a = j * al ∧ ∀ x, a ≤ x → x < a + (if (61 : Int) < z then 61 else z) → inSp ps x) (fun S hS => ⟨same_new hS, hS, [], upd_same, Nat.le_refl _, fun a => ⟨fun m => (by cases m), fun ⟨_, l, _⟩ => absurd l (Nat.not_lt_zero _)⟩⟩) ?_ ?_⟩
  · rintro S i H2 hi ⟨s2, S0, acc, g2, al2, mem⟩
    have ks2 := ks.mono s2
    have m60 := (mul60 (al := al) (a := 0 + (i : Int) * al) al1).mpr ⟨i, hi, by omega⟩
    fold_lay
    refine ⟨rfl, ?_⟩
    fold_lay
    refine ⟨D, 3600, _, 0 + (i : Int) * al, _, rfl, ks2, m60.1, by omega, by split <;> omega, by split <;> omega, fun bb hb => ?_⟩
    cases bb with
    | true =>
      fold_lay
      refine ⟨_, g2, szl (by rw [List.length_map]; omega), same_step S0 s2, S0, acc ++ [0 + (i : Int) * al], by rw [upd_same, List.map_append]; rfl, by rw [List.length_append]; exact Nat.succ_le_succ al2, fun a => ?_⟩
      rw [List.mem_append, List.mem_singleton, mem a]
      constructor
      · rintro (⟨j, j1, j2, j3⟩ | rfl)
        · exact ⟨j, by omega, j2, j3⟩
        · exact ⟨i, by omega, by omega, hb.mp rfl⟩
      · rintro ⟨j, j1, j2, j3⟩
        rcases Nat.lt_or_eq_of_le (show j ≤ i by omega) with c | c
        · exact .inl ⟨j, c, j2, j3⟩
        · subst c
          exact .inr (by omega)
    | false =>
      fold_lay
      refine ⟨s2, S0, acc, g2, by omega, fun a => ?_⟩
      rw [mem a]
      constructor
      · rintro ⟨j, j1, j2, j3⟩
        exact ⟨j, by omega, j2, j3⟩
      · rintro ⟨j, j1, j2, j3⟩
        rcases Nat.lt_or_eq_of_le (show j ≤ i by omega) with c | c
        · exact ⟨j, c, j2, j3⟩
        · subst c
          have := hb.mpr (by rw [show 0 + (j : Int) * al = a by omega]; exact j3)
          cases this
  · rintro S H2 ⟨s2, S0, ss, g2, sl, mem⟩
    have low60 : ∀ x, inSp ps x → x < 60 := fun x ⟨p, m, p1, p2⟩ => by
      have := sm p m
      omega
    have hs : ∀ a, a ∈ ss ↔ St5 z al rs a := fun a => by
      rw [mem a]
      constructor
      · rintro ⟨j, j1, j2, j3⟩
        obtain ⟨b0, b1, b2⟩ := (mul60 al1).mpr ⟨j, j1, j2⟩
        have zle : z ≤ 61 := Classical.byContradiction fun c => by
          rw [if_pos (by omega)] at j3
          have := low60 _ (j3 (a + 60) (by omega) (by omega))
          omega
        rw [if_neg (by omega)] at j3
        exact ⟨b0, b2, fun x h1 h2 => (same x).mpr (j3 x h1 h2)⟩
      · rintro ⟨b0, b2, b3⟩
        have a60 := low60 _ ((same _).mp (b3 a (by omega) (by omega)))
        obtain ⟨j, j1, j2⟩ := (mul60 al1).mp ⟨b0, a60, b2⟩
        refine ⟨j, j1, j2, fun x h1 h2 => (same x).mp (b3 x h1 ?_)⟩
        split at h2 <;> omega
    have s02 := s1.trans s2
    have hr2 := s02 _ _ hr
    have hp2 := hp.mono s02
    clear mem ks
    fold_lay
    fold_depth
    rw [List.length_map]
    refine i_ifd (fun e => ?_) (fun e => ?_)
    · fold_lay
      have en : ss = [] := List.eq_nil_of_length_eq_zero (by omega)
      have e : dueF b z al rs = none := by
        cases b with
        | false => exact (first_walk rn z0 al1 hs).1 en
        | true => exact (best_walk (rows := []) rn z0 al1 hs fun r => ⟨fun m => (by cases m), fun ⟨_, _, _, m, _⟩ => by rw [en] at m; cases m⟩).1 en
      have := k _ s02
      rw [e] at this
      exact this
    have ne : ss ≠ [] := fun c => e (by rw [c]; rfl)
    fold_lay
    fold_depth
    cases b with
    | false =>
      fold_lay
      refine ⟨S, ss, rfl, sqL g2, List.length_pos_iff.mpr ne, fun m mm low => ?_⟩
      have := k _ s02
      rw [(first_walk rn z0 al1 hs).2 m mm low] at this
      exact this
    | true =>
      fold_lay
      rename_i w hw
      have sw := same_new (o := .lst []) hw
      have gw : upd H2 w (.lst []) w = some (.lst []) := upd_same
      generalize upd H2 w (.lst []) = H3 at *
      fold_depth
      refine ⟨r, xs, ps, rfl, sw _ _ hr2, hp2.mono sw, ok, pl, fun l zs R H4 hl hl4 p4 rn4 same4 Rl s4 => ?_⟩
      obtain rfl : R = rs := runs_uniq rn4 rn fun x => (same4 x).trans (same x).symm
      have s24 := sw.trans s4
      have S4 := s24 _ _ g2
      have w4 := s4 _ _ gw
      refine f_lst (sqL hl4) (l_lst (xs := zs) (fun i σ' H' => Same H4 H' ∧ ∃ (q : Addr) (ws : List V) (rows : List PR) (y5 y6 : Option V), H' q = some (.lst ws) ∧ Prs H' ws rows ∧ rows.length ≤ 60 * i ∧ (∀ x : PR, x ∈ rows ↔ ∃ p ∈ R.take i, x.1 = p.2 ∧ x.2 ∈ ss ∧ p.1 ≤ x.2 ∧ x.2 < p.1 + p.2) ∧ σ' = [some (.ref r), some (.int z), some (.int al), some (.bl true), some (.ref D), y5, y6, some (.ref S), some (.ref q), none]) ⟨Same.refl _, w, [], [], _, _, w4, .nil, Nat.le_refl _, fun x => ⟨fun m => (by cases m), fun ⟨_, m, _⟩ => (by cases m)⟩, rfl⟩ (fun i σ' H' _ h => sqL (h.1 _ _ hl4)) ?_ ?_)
      · rintro i x σ' H5 hx ⟨s5, q, ws, rows, y5, y6, g5, p5, rl, mem, rfl⟩
        obtain ⟨p, t, ep, rfl, ht⟩ := p4.at hx
        have il := (List.getElem?_eq_some_iff.mp ep).1
        have ht5 := s5 _ _ ht
        have S5 := s5 _ _ S4
        have tk : R.take (i + 1) = R.take i ++ [p] := by rw [List.take_add_one, ep]; rfl
        fold_lay
        refine c_lst (sqL S5) (m_lst (xs := ss.map V.int) (fun D2 j H' => Same H5 H' ∧ H5 D2 = none ∧ ∃ (us : List V) (qs : List PR), H' D2 = some (.lst us) ∧ Prs H' us qs ∧ qs.length ≤ j ∧ ∀ x : PR, x ∈ qs ↔ x.1 = p.2 ∧ x.2 ∈ ss.take j ∧ p.1 ≤ x.2 ∧ x.2 < p.1 + p.2) (fun D2 hD2 => ⟨same_new hD2, hD2, [], [], upd_same, .nil, Nat.le_refl _, fun x => ⟨fun m => (by cases m), fun m => (by have := m.2.1; cases this)⟩⟩) (fun D2 j H' _ h => sqL (h.1 _ _ S5)) ?_ ?_)
        · rintro D2 j v H' hv ⟨u1, u2, us, qs, u3, u4, u5, u6⟩
          obtain ⟨y, ey, rfl⟩ := int_at5 hv
          have jl := (List.getElem?_eq_some_iff.mp ey).1
          have ht' := u1 _ _ ht5
          have tj : ss.take (j + 1) = ss.take j ++ [y] := by rw [List.take_add_one, ey]; rfl
          have stay : ¬ (p.1 ≤ y ∧ y < p.1 + p.2) → Same H5 H' ∧ H5 D2 = none ∧ ∃ (us : List V) (qs : List PR), H' D2 = some (.lst us) ∧ Prs H' us qs ∧ qs.length ≤ j + 1 ∧ ∀ x : PR, x ∈ qs ↔ x.1 = p.2 ∧ x.2 ∈ ss.take (j + 1) ∧ p.1 ≤ x.2 ∧ x.2 < p.1 + p.2 := fun n => by
            refine ⟨u1, u2, us, qs, u3, u4, by omega, fun x => ?_⟩
            rw [u6 x, tj, List.mem_append, List.mem_singleton]
            constructor
            · rintro ⟨q1, q2, q3⟩
              exact ⟨q1, .inl q2, q3⟩
            · rintro ⟨q1, q2 | q2, q3⟩
              · exact ⟨q1, q2, q3⟩
              · rw [q2] at q3
                exact absurd q3 n
          fold_lay
          refine ⟨rfl, ?_⟩
          fold_lay
          refine i_ifd (fun e1 => ?_) (fun e1 => ?_)
          rotate_left
          · fold_lay
            exact stay fun c => e1 c.1
          fold_lay
          refine i_ifd (fun e2 => ?_) (fun e2 => stay fun c => e2 c.2)
          fold_lay
          rename_i u hu
          have su := same_new (o := .tup [.int p.2, .int y]) hu
          have gu : upd H' u (.tup [.int p.2, .int y]) u = some (.tup [.int p.2, .int y]) := upd_same
          generalize upd H' u (.tup [.int p.2, .int y]) = H6 at *
          have tk6 := tupK_upd7 (o := .lst (us ++ [.ref u])) (su _ _ u3)
          have ul := u4.len
          refine ⟨us, su _ _ u3, szl (by omega), same_step u2 (u1.trans su), u2, _, qs ++ [(p.2, y)], upd_same, ((u4.mono su).tupK tk6).app (.cons (tk6 _ _ gu) .nil), by rw [List.length_append]; exact Nat.succ_le_succ u5, fun x => ?_⟩
          rw [List.mem_append, List.mem_singleton, u6 x, tj, List.mem_append, List.mem_singleton]
          constructor
          · rintro (⟨q1, q2, q3⟩ | rfl)
            · exact ⟨q1, .inl q2, q3⟩
            · exact ⟨rfl, .inr rfl, e1, e2⟩
          · rintro ⟨q1, q2 | q2, q3⟩
            · exact .inl ⟨q1, q2, q3⟩
            · refine .inr ?_
              obtain ⟨x1, x2⟩ := x
              simp only at q1 q2
              rw [q1, q2]
        · rintro D2 H6 ⟨u1, u2, us, qs, u3, u4, u5, u6⟩
          rw [List.length_map, List.take_length] at u6
          have ul := u4.len
          have wl := p5.len
          rw [List.length_map] at u5
          refine i_cat (u1 _ _ g5) u3 (by omega) fun q2 hq2 => ?_
          have s6 := same_new (o := .lst (ws ++ us)) hq2
          fold_lay
          refine ⟨s5.trans (u1.trans s6), q2, _, rows ++ qs, _, _, upd_same, ((p5.mono u1).mono s6).app (u4.mono s6), by rw [List.length_append]; omega, fun x => ?_, rfl⟩
          rw [List.mem_append, mem x, u6 x, tk]
          constructor
          · rintro (⟨a, m, h⟩ | h)
            · exact ⟨a, List.mem_append_left _ m, h⟩
            · exact ⟨p, List.mem_append_right _ List.mem_cons_self, h⟩
          · rintro ⟨a, m, h⟩
            rcases List.mem_append.mp m with m | m
            · exact .inl ⟨a, m, h⟩
            · rw [List.mem_singleton.mp m] at h
              exact .inr h
      · rintro σ' H5 ⟨s5, q, ws, rows, y5, y6, g5, p5, rl, mem, rfl⟩
        rw [p4.len, List.take_length] at mem
        obtain ⟨b1, b2, b3⟩ := best_walk rn z0 al1 hs mem
        fold_lay
        refine ⟨q, ws, rows, rfl, sqL g5, p5, b2 ne, fun t p mp ht low => ?_⟩
        have := k _ (s02.trans (s24.trans s5))
        rw [b3 p mp low] at this
        fold_lay
        exact this
/-! ## K05e -/
local macro_rules | `(tactic| kbj_are) => `(tactic| (with_reducible refine q_len ?_; with_reducible refine i_lenT (sqT (by assumption)) ?_))
/-! ### k05: what is due; sizes and spans drawn -/
def sp_due5 (K : PySem.W.Frag) : Sp := fun vs H Q _ => ∃ (r : Addr) (xs : List V) (ps rs : List PR) (z al : Int) (b : Bool), vs = [.ref r, .int z, .int al, .bl b] ∧ H r = some (.lst xs) ∧ Prs H xs ps ∧ OkS ps ∧ ps.length ≤ 60 ∧ RunsL rs ∧ (∀ x, inSp rs x ↔ inSp ps x) ∧ Ask5 z al ∧ ∀ H', Same H H' → Q (oV (dueF b z al rs)) H'
def N_l_due : List Str := ["_law_spans_here", "_law_size_here", "_law_alignment_here", "_law_best", "_law_one"]
def t_l_due (K : PySem.W.Frag) : TS := (tSeq (tIfS (tTest (tOp oLe (tCB (rMax K) (tCons (tOp rCat (tLst (tCons (tC (.int 0)) tNil)) (tLc (iList K (tVar 0)) (gName 4) tYes (tOp oAdd (tOp (rIxT K) (tVar 4) (tC (.int 0))) (tOp (rIxT K) (tVar 4) (tC (.int 1)))) [4])) tNil)) (tC (.int 60)))) (tRet (tCall (sp_walked K) [] E0 (tCons (tVar 0) (tCons (tVar 1) (tCons (tVar 2) (tCons (tVar 3) tNil)))))) tNext)
  (tRet (tCall (sp_start_due K) [] E0 (tCons (tCall (sp_normal_of K) [] E0 (tCons (tVar 0) tNil)) (tCons (tVar 1) (tCons (tVar 2) (tCons (tVar 3) tNil)))))))
theorem pure_due5 {K : PySem.W.Frag} {vs : List V} {H : Hp} {Q : VK} {E : XK} (h : sp_due5 K vs H Q E) : t_l_due K { nx := fun _ H' => Q .non H', rt := Q } (start N_l_due vs) H := by
  obtain ⟨r, xs, ps, rs, z, al, b, rfl, hr, hp, ok, pl, rn, same, A, k⟩ := h
  have al1 := pow1 A.ap
  have xl := hp.len
  show t_l_due K _ [some (.ref r), some (.int z), some (.int al), some (.bl b), none] H
  unfold t_l_due
  fold_lay
  fold_depth
  rename_i l0 hl0
  have s0 := same_new (o := .lst [.int 0]) hl0
  have g0 : upd H l0 (.lst [.int 0]) l0 = some (.lst [.int 0]) := upd_same
  generalize upd H l0 (.lst [.int 0]) = H0 at *
  have hr0 := s0 _ _ hr
  have hp0 := hp.mono s0
  refine c_lst (sqL hr0) (m_lst (xs := xs) (fun D i H' => Same H0 H' ∧ H0 D = none ∧ H' D = some (.lst (((ps.take i).map fun p => p.1 + p.2).map V.int))) (fun D hD => ⟨same_new hD, hD, upd_same⟩) (fun D i H' _ h => sqL (h.1 _ _ hr0)) ?_ ?_)
  · rintro D i y H' hy ⟨u1, u2, u3⟩
    obtain ⟨p, t, ep, rfl, ht⟩ := hp0.at hy
    have il := (List.getElem?_eq_some_iff.mp ep).1
    have ht := u1 _ _ ht
    fold_lay
    refine ⟨rfl, ?_⟩
    fold_lay
    refine ⟨_, u3, szl (by rw [List.length_map, List.length_map, List.length_take]; omega), same_step u2 u1, u2, ?_⟩
    rw [upd_same, List.take_add_one, ep, List.map_append, List.map_append]
    rfl
  rintro D H1 ⟨u1, u2, u3⟩
  rw [xl, List.take_length] at u3
  refine i_cat (u1 _ _ g0) u3 (by rw [List.length_map, List.length_map]; simp only [List.length_cons, List.length_nil]; omega) fun q hq => ?_
  have e : [V.int 0] ++ (ps.map fun p => p.1 + p.2).map V.int = (0 :: ps.map fun p => p.1 + p.2).map V.int := rfl
  rw [e]
  have s2 := same_new (o := .lst ((0 :: ps.map fun p => p.1 + p.2).map V.int)) hq
  have g2 : upd H1 q (.lst ((0 :: ps.map fun p => p.1 + p.2).map V.int)) q = some (.lst ((0 :: ps.map fun p => p.1 + p.2).map V.int)) := upd_same
  generalize upd H1 q (.lst ((0 :: ps.map fun p => p.1 + p.2).map V.int)) = H2 at *
  have s02 := s0.trans (u1.trans s2)
  have hr2 := s02 _ _ hr
  have hp2 := hp.mono s02
  clear u1 u2 u3 s2 s0 g0 hr0 hp0 hl0
  fold_lay
  refine ⟨q, _, rfl, sqL g2, by rw [List.length_cons]; omega, fun m mm up => ?_⟩
  fold_lay
  refine i_ifd (fun e => ?_) (fun e => ?_)
  · fold_lay
    exact ⟨r, xs, ps, rs, z, al, b, rfl, hr2, hp2, ok, pl, fun p mp => by have := up _ (List.mem_cons_of_mem _ (List.mem_map.mpr ⟨p, mp, rfl⟩)); omega, rn, same, A, fun H3 s3 => k H3 (s02.trans s3)⟩
  · fold_lay
    refine ⟨r, xs, ps, rfl, hr2, hp2, ok, pl, fun l zs R H3 hl hl3 p3 rn3 same3 Rl s3 => ?_⟩
    obtain rfl : R = rs := runs_uniq rn3 rn fun x => (same3 x).trans (same x).symm
    fold_lay
    exact ⟨l, zs, R, z, al, b, rfl, hl3, p3, rn.ok, al1, A.a1, k H3 (s02.trans s3)⟩
def sp_size5 (K : PySem.W.Frag) : Sp := fun vs H Q _ => ∃ (d s r : Addr) (xs : List V) (R : List PR), vs = [.ref d, .ref r] ∧ Dr d s H ∧ H r = some (.lst xs) ∧ r ≠ s ∧ Prs H xs R ∧ OkS R ∧ R.length ≤ 120 ∧ ∀ z H', 1 ≤ z → z ≤ 1000000000 → Dr d s H' → Same (hid s H) (hid s H') → Q (.int z) H'
def N_l_size : List Str := ["_law_draws_here", "_law_due_here"]
def t_l_size (K : PySem.W.Frag) : TS := (tSeq (tIfS (tAnd (tTest (tOp oGt (tCB (rLen K) (tCons (tVar 1) tNil)) (tC (.int 0)))) (tTest (tOp oGt (tCall sp_take [] E0 (tCons (tVar 0) (tCons (tC (.int 4)) tNil))) (tC (.int 0))))) (tRet (tCB rMax2 (tCons (tC (.int 1)) (tCons (tCB rMin2 (tCons (tOp oPow (tC (.int 10)) (tC (.int 9))) (tCons (tOp oAdd (tOp oSub (tOp (rIxT K) (tCall (sp_among K) [] E0 (tCons (tVar 0) (tCons (tVar 1) tNil))) (tC (.int 1))) (tCall sp_take [] E0 (tCons (tVar 0) (tCons (tC (.int 9)) tNil)))) (tOp oMul (tC (.int 2)) (tCall sp_take [] E0 (tCons (tVar 0) (tCons (tC (.int 2)) tNil))))) tNil))) tNil)))) tNext)
  (tRet (tCall sp_number [] E0 (tCons (tVar 0) (tCons (tC (.int 1)) (tCons (tOp oPow (tC (.int 10)) (tC (.int 9))) tNil))))))
theorem pure_size5 {K : PySem.W.Frag} {vs : List V} {H : Hp} {Q : VK} {E : XK} (h : sp_size5 K vs H Q E) : t_l_size K { nx := fun _ H' => Q .non H', rt := Q } (start N_l_size vs) H := by
  obtain ⟨d, s, r, xs, R, rfl, hD, hr, nrs, hp, ok, rl, k⟩ := h
  have xl := hp.len
  show t_l_size K _ [some (.ref d), some (.ref r)] H
  unfold t_l_size
  have num : ∀ H1, Dr d s H1 → Same (hid s H) (hid s H1) → sp_number [.ref d, .int 1, .int 1000000000] H1 Q E0 := fun H1 hD1 s1 => c_number hD1 (by omega) (by omega) fun v H2 v0 v1 hD2 s2 => k v H2 v0 v1 hD2 (s1.trans s2)
  fold_lay
  fold_depth
  refine i_ifd (fun e1 => ?_) (fun e1 => ?_)
  rotate_left
  · fold_lay
    exact num _ hD (Same.refl _)
  fold_lay
  refine c_take hD (by omega) fun v H1 v0 v1 hD1 s1 => ?_
  have hr1 := hget s1 nrs hr
  fold_lay
  refine i_ifd (fun e2 => ?_) (fun e2 => ?_)
  rotate_left
  · fold_lay
    exact num _ hD1 s1
  fold_lay
  refine c_among hD1 hr1 nrs (by omega) (by omega) fun y H2 my hD2 s2 => ?_
  obtain ⟨i, hi, ei⟩ := List.getElem_of_mem my
  obtain ⟨p, t, ep, rfl, ht⟩ := hp.at (i := i) (x := y) (by rw [List.getElem?_eq_getElem hi, ei])
  have ht2 := hidTup7 hD (s1.trans s2) _ _ ht
  have po := ok p (List.mem_of_getElem? ep)
  fold_lay
  refine c_take hD2 (by omega) fun a H3 a0 a1 hD3 s3 => ?_
  fold_lay
  refine c_take hD3 (by omega) fun b H4 b0 b1 hD4 s4 => ?_
  fold_lay
  have t9 : (10 : Int) ^ Int.toNat 9 = 1000000000 := by decide
  rw [t9]
  refine k _ _ ?_ ?_ hD4 (s1.trans (s2.trans (s3.trans s4)))
  · split <;> omega
  · split <;> (try split) <;> omega
def sp_tried_spans (K : PySem.W.Frag) : Sp := fun vs H Q _ => ∃ (d s r : Addr) (xs : List V) (R : List PR), vs = [.ref d, .ref r] ∧ Dr d s H ∧ H r = some (.lst xs) ∧ r ≠ s ∧ Prs H xs R ∧ OkS R ∧ R.length ≤ 120 ∧
  ∀ (l : Addr) (zs : List V) (qs : List PR) H', H' l = some (.lst zs) → Prs H' zs qs → OkS qs → qs.length ≤ 1000 → Dr d s H' → Same (hid s H) (hid s H') → Q (.ref l) H'
def N_l_tried_spans : List Str := ["_law_draws_here", "_law_due_here", "_law_row", "_law_start", "_law_size_here", "_law_part"]
def t_l_tried_spans (K : PySem.W.Frag) : TS := (tSeq (tAsg (tLst (tCons (tCall (sp_span7 K) [] E0 (tCons (tVar 0) (tCons (tC (.int 60)) tNil))) (tCons (tTup (tCons (tOp oSub (tOp oPow (tC (.int 10)) (tC (.int 9))) (tC (.int 1))) (tCons (tC (.int 1)) tNil))) tNil))) (gName 2))
  (tSeq (tFor (iList K (tSl (rSlL K) (tVar 1) tNoPart (tPart (tC (.int 6))))) (gTup K 2 (gCons (gName 3) (gCons (gName 4) gNil))) (tSeq (tAsg (tCall sp_between [] E0 (tCons (tVar 0) (tCons (tC (.int 0)) (tCons (tOp oSub (tVar 4) (tC (.int 1))) tNil)))) (gName 5))
  (tSeq (tAsg (tOp rCat (tVar 2) (tLst (tCons (tTup (tCons (tVar 3) (tCons (tVar 4) tNil))) (tCons (tTup (tCons (tOp oAdd (tVar 3) (tVar 5)) (tCons (tOp oSub (tVar 4) (tVar 5)) tNil))) (tCons (tTup (tCons (tVar 3) (tCons (tOp oAdd (tVar 5) (tC (.int 1))) tNil))) tNil))))) (gName 2))
  (tAsg (tOp rCat (tVar 2) (tLst (tCons (tTup (tCons (tCB rMax2 (tCons (tC (.int 0)) (tCons (tOp oSub (tVar 3) (tC (.int 1))) tNil))) (tCons (tVar 4) tNil))) (tCons (tTup (tCons (tVar 3) (tCons (tCB rMin2 (tCons (tOp oAdd (tVar 4) (tC (.int 1))) (tCons (tOp oSub (tOp oPow (tC (.int 10)) (tC (.int 9))) (tVar 3)) tNil))) tNil))) tNil)))) (gName 2)))))
  (tRet (tVar 2))))
theorem pure_tried_spans {K : PySem.W.Frag} {vs : List V} {H : Hp} {Q : VK} {E : XK} (h : sp_tried_spans K vs H Q E) : t_l_tried_spans K { nx := fun _ H' => Q .non H', rt := Q } (start N_l_tried_spans vs) H := by
  obtain ⟨d, s, r, xs, R, rfl, hD, hr, nrs, hp, ok, rl, k⟩ := h
  have xl := hp.len
  show t_l_tried_spans K _ [some (.ref d), some (.ref r), none, none, none, none] H
  unfold t_l_tried_spans
  fold_lay
  refine ⟨d, s, 60, rfl, hD, by omega, by omega, fun p0 a0 n0 H1 sp1 hp0 b0 b1 b2 hD1 s1 => ?_⟩
  have t9 : (10 : Int) ^ Int.toNat 9 = 1000000000 := by decide
  fold_lay
  rw [t9] at *
  rename_i u1 hu1 q0 hq0
  have S1 := same_new (o := .tup [.int (1000000000 - 1), .int 1]) hu1
  have G1 : upd H1 u1 (.tup [.int (1000000000 - 1), .int 1]) u1 = some (.tup [.int (1000000000 - 1), .int 1]) := upd_same
  generalize upd H1 u1 (.tup [.int (1000000000 - 1), .int 1]) = H2 at *
  have S2 := same_new (o := .lst [.ref p0, .ref u1]) hq0
  have G2 : upd H2 q0 (.lst [.ref p0, .ref u1]) q0 = some (.lst [.ref p0, .ref u1]) := upd_same
  generalize upd H2 q0 (.lst [.ref p0, .ref u1]) = H3 at *
  have S12 := S1.trans S2
  have nqs := (hD1.same S1).ne hq0
  have hD3 := hD1.same S12
  have s03 := s1.trans (hid_mono S12)
  have pr3 : Prs H3 [.ref p0, .ref u1] [(a0, n0), (1000000000 - 1, 1)] := .cons (S12 _ _ sp1) (.cons (S2 _ _ G1) .nil)
  have ok3 : OkS [(a0, n0), (1000000000 - 1, 1)] := fun p m => by
    simp only [List.mem_cons, List.not_mem_nil, or_false] at m
    rcases m with rfl | rfl
    · exact ⟨b0, b1, by show a0 + n0 ≤ _; omega⟩
    · exact ⟨by decide, by decide, by decide⟩
  have hr3 := hget s03 nrs hr
  clear S1 S2 S12 G1 sp1 hu1 hq0
  fold_depth
  refine ⟨_, rfl, i_slL7 (sqL hr3) fun w hw => ?_⟩
  rw [cut_to7 (by omega)]
  have S4 := same_new (o := .lst (xs.take (6 : Int).toNat)) hw
  have G4 : upd H3 w (.lst (xs.take (6 : Int).toNat)) w = some (.lst (xs.take (6 : Int).toNat)) := upd_same
  have nws := hD3.ne hw
  generalize upd H3 w (.lst (xs.take (6 : Int).toNat)) = H4 at *
  have hD4 := hD3.same S4
  have s04 := s03.trans (hid_mono S4)
  have wl : (xs.take (6 : Int).toNat).length ≤ 6 := by rw [List.length_take]; exact Nat.min_le_left _ _
  refine f_lst (sqL G4) (l_lst (xs := xs.take (6 : Int).toNat) (fun i σ' H' => Dr d s H' ∧ Same (hid s H4) (hid s H') ∧ ∃ (q : Addr) (zs : List V) (qs : List PR) (y3 y4 y5 : Option V), q ≠ s ∧ H' q = some (.lst zs) ∧ Prs H' zs qs ∧ OkS qs ∧ qs.length = 2 + 5 * i ∧ σ' = [some (.ref d), some (.ref r), some (.ref q), y3, y4, y5]) ⟨hD4, Same.refl _, q0, _, _, _, _, _, nqs, S4 _ _ G2, pr3.mono S4, ok3, rfl, rfl⟩ (fun i σ' H' _ h => sqL (hget h.2.1 nws G4)) ?_ ?_)
  · rintro i x σ' H5 hx ⟨hD5, s5, q, zs, qs, y3, y4, y5, nq, g5, p5, o5, l5, rfl⟩
    have il := (List.getElem?_eq_some_iff.mp hx).1
    have hx' : xs[i]? = some x := by
      rw [List.getElem?_take_of_lt (by omega)] at hx
      exact hx
    obtain ⟨p, t, ep, rfl, ht⟩ := hp.at hx'
    obtain ⟨o1, o2, o3⟩ := ok p (List.mem_of_getElem? ep)
    have ht5 := hidTup7 hD (s04.trans s5) _ _ ht
    fold_lay
    refine c_between hD5 (by omega) fun v H6 v0 v1 hD6 s6 => ?_
    have g6 := hget s6 nq g5
    have p6 := p5.tupK (hidTup7 hD5 s6)
    have s46 := s5.trans s6
    have zl := p6.len
    clear g5 p5 s5 s6 hD5
    fold_lay
    rename_i e1 k1 e2 k2 e3 k3 e4 k4
    have Sa := same_new (o := .tup [.int p.1, .int p.2]) k1
    have Ga : upd H6 e1 (.tup [.int p.1, .int p.2]) e1 = some (.tup [.int p.1, .int p.2]) := upd_same
    generalize upd H6 e1 (.tup [.int p.1, .int p.2]) = A1 at *
    have Sb := same_new (o := .tup [.int (p.1 + v), .int (p.2 - v)]) k2
    have Gb : upd A1 e2 (.tup [.int (p.1 + v), .int (p.2 - v)]) e2 = some (.tup [.int (p.1 + v), .int (p.2 - v)]) := upd_same
    generalize upd A1 e2 (.tup [.int (p.1 + v), .int (p.2 - v)]) = A2 at *
    have Sc := same_new (o := .tup [.int p.1, .int (v + 1)]) k3
    have Gc : upd A2 e3 (.tup [.int p.1, .int (v + 1)]) e3 = some (.tup [.int p.1, .int (v + 1)]) := upd_same
    generalize upd A2 e3 (.tup [.int p.1, .int (v + 1)]) = A3 at *
    have Sd := same_new (o := .lst [.ref e1, .ref e2, .ref e3]) k4
    have Gd : upd A3 e4 (.lst [.ref e1, .ref e2, .ref e3]) e4 = some (.lst [.ref e1, .ref e2, .ref e3]) := upd_same
    generalize upd A3 e4 (.lst [.ref e1, .ref e2, .ref e3]) = A4 at *
    have s64 := Sa.trans (Sb.trans (Sc.trans Sd))
    refine i_cat (s64 _ _ g6) Gd (by rw [zl, l5]; simp only [List.length_cons, List.length_nil]; omega) fun e5 k5 => ?_
    have Se := same_new (o := .lst (zs ++ [.ref e1, .ref e2, .ref e3])) k5
    have Ge : upd A4 e5 (.lst (zs ++ [.ref e1, .ref e2, .ref e3])) e5 = some (.lst (zs ++ [.ref e1, .ref e2, .ref e3])) := upd_same
    generalize upd A4 e5 (.lst (zs ++ [.ref e1, .ref e2, .ref e3])) = A5 at *
    have s65 := s64.trans Se
    have p7 : Prs A5 (zs ++ [.ref e1, .ref e2, .ref e3]) (qs ++ [(p.1, p.2), (p.1 + v, p.2 - v), (p.1, v + 1)]) := (p6.mono s65).app (.cons ((Sb.trans (Sc.trans (Sd.trans Se))) _ _ Ga) (.cons ((Sc.trans (Sd.trans Se)) _ _ Gb) (.cons ((Sd.trans Se) _ _ Gc) .nil)))
    have o7 : OkS (qs ++ [(p.1, p.2), (p.1 + v, p.2 - v), (p.1, v + 1)]) := fun x m => by
      rcases List.mem_append.mp m with m | m
      · exact o5 x m
      · simp only [List.mem_cons, List.not_mem_nil, or_false] at m
        rcases m with rfl | rfl | rfl
        · exact ⟨o1, o2, o3⟩
        · exact ⟨by show 0 ≤ p.1 + v; omega, by show 1 ≤ p.2 - v; omega, by show p.1 + v + (p.2 - v) ≤ _; omega⟩
        · exact ⟨o1, by show 1 ≤ v + 1; omega, by show p.1 + (v + 1) ≤ _; omega⟩
    have l7 : (qs ++ [(p.1, p.2), (p.1 + v, p.2 - v), (p.1, v + 1)]).length = 5 + 5 * i := by rw [List.length_append, l5]; simp only [List.length_cons, List.length_nil]; omega
    have hD7 := hD6.same s65
    have s47 := s46.trans (hid_mono s65)
    have Ge' := Ge
    clear s64 s65 Sa Sb Sc Sd Se Ge Ga Gb Gc Gd k1 k2 k3 k4 k5 g6 p6 zl hD6 s46
    generalize qs ++ [(p.1, p.2), (p.1 + v, p.2 - v), (p.1, v + 1)] = qs7 at *
    generalize zs ++ [V.ref e1, .ref e2, .ref e3] = zs7 at *
    have zl := p7.len
    fold_lay
    rename_i e6 k6 e7 k7 e8 k8
    have Sa := same_new (o := .tup [.int (if p.1 - 1 > 0 then p.1 - 1 else 0), .int p.2]) k6
    have Ga : upd A5 e6 (.tup [.int (if p.1 - 1 > 0 then p.1 - 1 else 0), .int p.2]) e6 = some (.tup [.int (if p.1 - 1 > 0 then p.1 - 1 else 0), .int p.2]) := upd_same
    generalize upd A5 e6 (.tup [.int (if p.1 - 1 > 0 then p.1 - 1 else 0), .int p.2]) = B1 at *
    have Sb := same_new (o := .tup [.int p.1, .int (if (10 : Int) ^ Int.toNat 9 - p.1 < p.2 + 1 then (10 : Int) ^ Int.toNat 9 - p.1 else p.2 + 1)]) k7
    have Gb : upd B1 e7 (.tup [.int p.1, .int (if (10 : Int) ^ Int.toNat 9 - p.1 < p.2 + 1 then (10 : Int) ^ Int.toNat 9 - p.1 else p.2 + 1)]) e7 = some (.tup [.int p.1, .int (if (10 : Int) ^ Int.toNat 9 - p.1 < p.2 + 1 then (10 : Int) ^ Int.toNat 9 - p.1 else p.2 + 1)]) := upd_same
    generalize upd B1 e7 (.tup [.int p.1, .int (if (10 : Int) ^ Int.toNat 9 - p.1 < p.2 + 1 then (10 : Int) ^ Int.toNat 9 - p.1 else p.2 + 1)]) = B2 at *
    rw [show (10 : Int) ^ Int.toNat 9 = 1000000000 by decide] at Gb
    have Sc := same_new (o := .lst [.ref e6, .ref e7]) k8
    have Gc : upd B2 e8 (.lst [.ref e6, .ref e7]) e8 = some (.lst [.ref e6, .ref e7]) := upd_same
    generalize upd B2 e8 (.lst [.ref e6, .ref e7]) = B3 at *
    have s73 := Sa.trans (Sb.trans Sc)
    refine i_cat (s73 _ _ Ge') Gc (by rw [zl, l7]; simp only [List.length_cons, List.length_nil]; omega) fun e9 k9 => ?_
    have n9 := (hD7.same s73).ne k9
    have Sd := same_new (o := .lst (zs7 ++ [.ref e6, .ref e7])) k9
    have Gd : upd B3 e9 (.lst (zs7 ++ [.ref e6, .ref e7])) e9 = some (.lst (zs7 ++ [.ref e6, .ref e7])) := upd_same
    generalize upd B3 e9 (.lst (zs7 ++ [.ref e6, .ref e7])) = B4 at *
    have s74 := s73.trans Sd
    fold_lay
    refine ⟨hD7.same s74, s47.trans (hid_mono s74), e9, _, qs7 ++ [((if p.1 - 1 > 0 then p.1 - 1 else 0), p.2), (p.1, (if 1000000000 - p.1 < p.2 + 1 then 1000000000 - p.1 else p.2 + 1))], _, _, _, n9, Gd, (p7.mono s74).app (.cons ((Sb.trans (Sc.trans Sd)) _ _ Ga) (.cons ((Sc.trans Sd) _ _ Gb) .nil)), fun x m => ?_, by rw [List.length_append, l7]; simp only [List.length_cons, List.length_nil]; omega, rfl⟩
    rcases List.mem_append.mp m with m | m
    · exact o7 x m
    · simp only [List.mem_cons, List.not_mem_nil, or_false] at m
      rcases m with rfl | rfl
      · refine ⟨?_, o2, ?_⟩
        · show 0 ≤ (if p.1 - 1 > 0 then p.1 - 1 else 0)
          split <;> omega
        · show (if p.1 - 1 > 0 then p.1 - 1 else 0) + p.2 ≤ 1000000000
          split <;> omega
      · refine ⟨o1, ?_, ?_⟩
        · show 1 ≤ (if 1000000000 - p.1 < p.2 + 1 then 1000000000 - p.1 else p.2 + 1)
          split <;> omega
        · show p.1 + (if 1000000000 - p.1 < p.2 + 1 then 1000000000 - p.1 else p.2 + 1) ≤ 1000000000
          split <;> omega
  · rintro σ' H5 ⟨hD5, s5, q, zs, qs, y3, y4, y5, nq, g5, p5, o5, l5, rfl⟩
    fold_lay
    exact k q zs qs H5 g5 p5 o5 (by omega) hD5 (s04.trans s5)
/-! ## K05f -/
local macro_rules | `(tactic| kbj_are) => `(tactic| (with_reducible refine q_len ?_; with_reducible refine i_lenT (sqT (by assumption)) ?_))
/-! ### k05: what is asked, and how it is told -/
instance s_mthS5 {C : Addr} {m : Str} {sp : Sp} {E : St → XK} {ta : TE} {t : TA} {σ : St} {H : Hp} {Q : VK} : Stp (tMthS C m sp E ta t σ H Q) (ta σ H fun x H1 => ∃ a dx fs, x = .ref a ∧ H1 a = some (.ins C dx fs) ∧ fs.lookup m = none ∧ t σ H1 fun vs H2 => sp (x :: vs) H2 Q (E σ)) := ⟨fun h => h⟩
def Tells5 (Q : VK) (H : Hp) (D : Dt) : Prop := ∀ v H', Same H H' → At H' v D → Q v H'
def badD5 (t : Str) : Dt := refD2 "BadValue" (.tup [.str t])
def Done5 (Q : VK) (H : Hp) (v : V) : Prop := ∀ p H', H' p = some (.lst [.str "done", v]) → Same H H' → Q (.ref p) H'
def sp_asked5 (K : PySem.W.Frag) (c : Cl) : Sp := fun vs H Q _ => ∃ (g : Addr) (t : Str) (v1 v2 : V), vs = [.ref g, .str t, v1, v2] ∧ K05K K c ∧ (∃ rs, PlO c H g rs) ∧
  (((t = "first" ∨ t = "best") ∧ Ty5 H v1 ∧ Ty5 H v2 ∧ ∃ p, Wr5 v1 v2 p ∧ Tells5 Q H (badD5 p)) ∨
   (t = "covers" ∧ ∃ d, At H v1 d ∧ isSpan d = false ∧ Tells5 Q H (badD5 "span")) ∨
   (∃ b z al rs, v1 = .int z ∧ ((t = "first" ∧ b = false ∧ v2 = .int al) ∨ (t = "best" ∧ b = true ∧ v2 = .int al) ∨ (t = "first alone" ∧ b = false ∧ al = 1) ∨ (t = "best alone" ∧ b = true ∧ al = 1)) ∧ Ask5 z al ∧ PlO c H g rs ∧ RunsL rs ∧ Done5 Q H (oV (dueF b z al rs))) ∨
   (t = "covers" ∧ ∃ a n rs, At H v1 (spanD a n) ∧ 0 ≤ a ∧ 1 ≤ n ∧ a + n ≤ 1000000000 ∧ PlO c H g rs ∧ RunsL rs ∧ rs.length ≤ 100000 ∧ ∀ b : Bool, (b = true ↔ ∃ p ∈ rs, p.1 ≤ a ∧ a + n ≤ p.1 + p.2) → Done5 Q H (.bl b)))
def N_l_asked5 : List Str := ["_law_places", "_law_title", "_law_size_here", "_law_alignment_here", "e"]
def t_l_asked5 (K : PySem.W.Frag) (c : Cl) : TS := (tTryT K (.ref c.k_BadValue) 4 (fun W => (tSeq (tIfS (tTest (tOp rEq (tVar 1) (tC (.str "covers")))) (tRet (tLst (tCons (tC (.str "done")) (tCons (tMthS c.k_Places "covers" (sp_covers K c) (WE W) (tVar 0) (tCons (tVar 2) tNil)) tNil)))) tNext)
  (tSeq (tIfS (tTest (tOp rEq (tVar 1) (tC (.str "first alone")))) (tRet (tLst (tCons (tC (.str "done")) (tCons (tMthDS c.k_Places "first_start" (sp_first_start K c) [(.int 1)] (WE W) (tVar 0) (tCons (tVar 2) tNil)) tNil)))) tNext)
  (tSeq (tIfS (tTest (tOp rEq (tVar 1) (tC (.str "best alone")))) (tRet (tLst (tCons (tC (.str "done")) (tCons (tMthDS c.k_Places "best_start" (sp_best_start K c) [(.int 1)] (WE W) (tVar 0) (tCons (tVar 2) tNil)) tNil)))) tNext)
  (tSeq (tIfS (tTest (tOp rEq (tVar 1) (tC (.str "first")))) (tRet (tLst (tCons (tC (.str "done")) (tCons (tMthNS c.k_Places "first_start" 1 1 (sp_first_start K c) (WE W) (tVar 0) (tCons (tVar 2) tNil) (tCons (tVar 3) tNil)) tNil)))) tNext)
  (tRet (tLst (tCons (tC (.str "done")) (tCons (tMthNS c.k_Places "best_start" 1 1 (sp_best_start K c) (WE W) (tVar 0) (tCons (tVar 2) tNil) (tCons (tVar 3) tNil)) tNil))))))))) (tRet (tLst (tCons (tC (.str "refused")) (tCons (tXt K "told" (tVar 4)) (tCons (tTup (tCons (tXt K "parameter" (tVar 4)) tNil)) (tCons (tCall (sp_kinds K c) [] E0 (tCons (tVar 4) tNil)) tNil)))))) (fun _ _ _ _ => False))
theorem pure_asked5 {K : PySem.W.Frag} {c : Cl} {vs : List V} {H : Hp} {Q : VK} {E : XK} (h : sp_asked5 K c vs H Q E) : t_l_asked5 K c { nx := fun _ H' => Q .non H', rt := Q } (start N_l_asked5 vs) H := by
  obtain ⟨g, t, v1, v2, rfl, kk, ⟨rs0, hP0⟩, h⟩ := h
  have R := kk.bk
  have P := kk.pl
  obtain ⟨dx, tp, fs, x1, x2, x3⟩ := hP0.ex
  have bad : ∀ p : Str, Tells5 Q H (badD5 p) → Bad5 c (WE (wAsT K (.ref c.k_BadValue) 4 (tRefu K c 4) (fun _ _ _ _ => False) { nx := fun _ H' => Q .non H', rt := Q }) [some (.ref g), some (.str t), some v1, some v2, none]) H p := fun p k b H' hB hS =>
    ⟨true, R.ht, (fun q => nomatch q), fun _ e he => refu R rfl he hB fun v H2 hv h2 => k v H2 (hS.trans h2) hv⟩
  have don : ∀ v, Done5 Q H v → ∀ p, H p = none → Q (.ref p) (upd H p (.lst [.str "done", v])) := fun v k p hp => k p _ upd_same (same_new hp)
  show t_l_asked5 K c _ [some (.ref g), some (.str t), some v1, some v2, none] H
  unfold t_l_asked5
  fold_lay
  fold_depth
  rcases h with ⟨w, t1, t2, p, wr, tl⟩ | ⟨rfl, d, hd, no, tl⟩ | ⟨b, z, al, rs, rfl, w, A, hP, rn, q⟩ | ⟨rfl, a, n, rs, hd, a0, n0, an, hP, rn, rl, q⟩
  · rcases w with rfl | rfl
    · refine i_no (by decide) ?_
      fold_lay
      fold_depth
      refine i_no (by decide) ?_
      fold_lay
      fold_depth
      refine i_no (by decide) ?_
      fold_lay
      fold_depth
      refine i_yes rfl ?_
      fold_lay
      refine ⟨g, dx, _, rfl, x1, rfl, ?_⟩
      fold_lay
      exact ⟨rfl, rfl, g, v1, v2, rfl, t1, t2, kk, .inl ⟨p, wr, bad p tl⟩⟩
    · refine i_no (by decide) ?_
      fold_lay
      fold_depth
      refine i_no (by decide) ?_
      fold_lay
      fold_depth
      refine i_no (by decide) ?_
      fold_lay
      fold_depth
      refine i_no (by decide) ?_
      fold_lay
      refine ⟨g, dx, _, rfl, x1, rfl, ?_⟩
      fold_lay
      exact ⟨rfl, rfl, g, v1, v2, rfl, t1, t2, kk, .inl ⟨p, wr, bad p tl⟩⟩
  · refine i_yes rfl ?_
    fold_lay
    refine ⟨g, dx, _, rfl, x1, rfl, ?_⟩
    fold_lay
    exact ⟨g, v1, d, rfl, hd, kk, .inl ⟨no, bad "span" tl⟩⟩
  · have T : ∀ i : Int, Ty5 H (.int i) := fun i => ⟨_, .int i⟩
    rcases w with ⟨rfl, rfl, rfl⟩ | ⟨rfl, rfl, rfl⟩ | ⟨rfl, rfl, rfl⟩ | ⟨rfl, rfl, rfl⟩
    · refine i_no (by decide) ?_
      fold_lay
      fold_depth
      refine i_no (by decide) ?_
      fold_lay
      fold_depth
      refine i_no (by decide) ?_
      fold_lay
      fold_depth
      refine i_yes rfl ?_
      fold_lay
      refine ⟨g, dx, _, rfl, x1, rfl, ?_⟩
      fold_lay
      refine ⟨rfl, rfl, g, _, _, rfl, T _, T _, kk, .inr ⟨z, al, rs, rfl, rfl, A, hP, rn, ?_⟩⟩
      fold_lay
      rename_i p hp
      exact don _ q p hp
    · refine i_no (by decide) ?_
      fold_lay
      fold_depth
      refine i_no (by decide) ?_
      fold_lay
      fold_depth
      refine i_no (by decide) ?_
      fold_lay
      fold_depth
      refine i_no (by decide) ?_
      fold_lay
      refine ⟨g, dx, _, rfl, x1, rfl, ?_⟩
      fold_lay
      refine ⟨rfl, rfl, g, _, _, rfl, T _, T _, kk, .inr ⟨z, al, rs, rfl, rfl, A, hP, rn, ?_⟩⟩
      fold_lay
      rename_i p hp
      exact don _ q p hp
    · refine i_no (by decide) ?_
      fold_lay
      fold_depth
      refine i_yes rfl ?_
      fold_lay
      refine ⟨g, dx, _, rfl, x1, rfl, ?_⟩
      fold_lay
      refine ⟨g, _, _, rfl, T _, T _, kk, .inr ⟨z, 1, rs, rfl, rfl, A, hP, rn, ?_⟩⟩
      fold_lay
      rename_i p hp
      exact don _ q p hp
    · refine i_no (by decide) ?_
      fold_lay
      fold_depth
      refine i_no (by decide) ?_
      fold_lay
      fold_depth
      refine i_yes rfl ?_
      fold_lay
      refine ⟨g, dx, _, rfl, x1, rfl, ?_⟩
      fold_lay
      refine ⟨g, _, _, rfl, T _, T _, kk, .inr ⟨z, 1, rs, rfl, rfl, A, hP, rn, ?_⟩⟩
      fold_lay
      rename_i p hp
      exact don _ q p hp
  · refine i_yes rfl ?_
    fold_lay
    refine ⟨g, dx, _, rfl, x1, rfl, ?_⟩
    fold_lay
    refine ⟨g, v1, _, rfl, hd, kk, .inr ⟨a, n, rs, rfl, a0, n0, an, hP, rn, rl, fun b hb => ?_⟩⟩
    fold_lay
    rename_i p hp
    exact don _ (q b hb) p hp
theorem i_intB5 {H : Hp} {Q : VK} {b : Bool} (q : Q (.int (if b = true then 1 else 0)) H) : rInt1 [.bl b] H Q := .inr ⟨b, rfl, q⟩
def sp_starts_right5 (K : PySem.W.Frag) (c : Cl) : Sp := fun vs H Q _ => ∃ (g r : Addr) (xs : List V) (ps rs : List PR) (z al : Int), vs = [.ref g, .ref r, .int z, .int al] ∧ PlO c H g rs ∧ RunsL rs ∧ K05K K c ∧ H r = some (.lst xs) ∧ Prs H xs ps ∧ OkS ps ∧ ps.length ≤ 60 ∧ (∀ x, inSp rs x ↔ inSp ps x) ∧ Ask5 z al ∧ ∀ H', Same H H' → Q (.bl true) H'
def N_l_starts_right : List Str := ["_law_places", "_law_spans_here", "_law_size_here", "_law_alignment_here", "_law_best", "_law_title"]
def t_l_starts_right (K : PySem.W.Frag) (c : Cl) : TS := (tSeq (tFor (iList K (tLst (tCons (tC (.bl false)) (tCons (tC (.bl true)) tNil)))) (gName 4) (tSeq (tAsg (tOp (rIxL K) (tLst (tCons (tC (.str "first")) (tCons (tC (.str "best")) tNil))) (tCB rInt1 (tCons (tVar 4) tNil))) (gName 5))
  (tSeq (tIfS (tNot (tB (tCall (sp_same 6) [] E0 (tCons (tCall (sp_asked5 K c) [] E0 (tCons (tVar 0) (tCons (tVar 5) (tCons (tVar 2) (tCons (tVar 3) tNil))))) (tCons (tLst (tCons (tC (.str "done")) (tCons (tCall (sp_due5 K) [] E0 (tCons (tVar 1) (tCons (tVar 2) (tCons (tVar 3) (tCons (tVar 4) tNil))))) tNil))) tNil))))) (tRet (tC (.bl false))) tNext)
  (tIfS (tNot (tB (tCall (sp_same 6) [] E0 (tCons (tCall (sp_asked5 K c) [] E0 (tCons (tVar 0) (tCons (tOp oAddS (tVar 5) (tC (.str " alone"))) (tCons (tVar 2) (tCons (tC .non) tNil))))) (tCons (tLst (tCons (tC (.str "done")) (tCons (tCall (sp_due5 K) [] E0 (tCons (tVar 1) (tCons (tVar 2) (tCons (tC (.int 1)) (tCons (tVar 4) tNil))))) tNil))) tNil))))) (tRet (tC (.bl false))) tNext))))
  (tRet (tC (.bl true))))
theorem doneO5 (o : Option Int) {H : Hp} {p : Addr} (h : H p = some (.lst [.str "done", oV o])) : ∃ d, At H (.ref p) d ∧ (d.dep ≤ 5 ∧ d.okd = true) ∧ ∀ H' q, H' q = some (.lst [.str "done", oV o]) → At H' (.ref q) d := by
  cases o with
  | none => exact ⟨_, .lst h (.cons (.str _) (.cons .non .nil)), ⟨by decide, by decide⟩, fun H' q e => .lst e (.cons (.str _) (.cons .non .nil))⟩
  | some i => exact ⟨_, .lst h (.cons (.str _) (.cons (.int i) .nil)), ⟨by simp [Dt.dep, Dt.depL], rfl⟩, fun H' q e => .lst e (.cons (.str _) (.cons (.int i) .nil))⟩
theorem Ask5.one {z al : Int} (h : Ask5 z al) : Ask5 z 1 := ⟨h.z0, h.z1, ⟨0, rfl⟩, by omega⟩
theorem pure_starts_right5 {K : PySem.W.Frag} {c : Cl} {vs : List V} {H : Hp} {Q : VK} {E : XK} (h : sp_starts_right5 K c vs H Q E) : t_l_starts_right K c { nx := fun _ H' => Q .non H', rt := Q } (start N_l_starts_right vs) H := by
  obtain ⟨g, r, xs, ps, rs, z, al, rfl, hP, rn, kk, hr, hp, ok, pl, same, A, k⟩ := h
  show t_l_starts_right K c _ [some (.ref g), some (.ref r), some (.int z), some (.int al), none, none] H
  unfold t_l_starts_right
  fold_lay
  fold_depth
  rename_i l hl
  have s0 := same_new (o := .lst [.bl false, .bl true]) hl
  have g0 : upd H l (.lst [.bl false, .bl true]) l = some (.lst [.bl false, .bl true]) := upd_same
  generalize upd H l (.lst [.bl false, .bl true]) = H0 at *
  refine f_lst (sqL g0) (l_lst (xs := [.bl false, .bl true]) (fun i σ' H' => Same H0 H' ∧ ∃ y4 y5, σ' = [some (.ref g), some (.ref r), some (.int z), some (.int al), y4, y5]) ⟨Same.refl _, _, _, rfl⟩ (fun i σ' H' _ h => sqL (h.1 _ _ g0)) ?_ ?_)
  · rintro i y σ' H1 hy ⟨s1, y4, y5, rfl⟩
    obtain ⟨b, rfl⟩ : ∃ b, y = .bl b := by
      have m := List.mem_of_getElem? hy
      simp only [List.mem_cons, List.not_mem_nil, or_false] at m
      rcases m with rfl | rfl
      · exact ⟨_, rfl⟩
      · exact ⟨_, rfl⟩
    have u1 := s0.trans s1
    fold_lay
    rename_i l2 hl2
    have s2 := same_new (o := .lst [.str "first", .str "best"]) hl2
    have g2 : upd H1 l2 (.lst [.str "first", .str "best"]) l2 = some (.lst [.str "first", .str "best"]) := upd_same
    generalize upd H1 l2 (.lst [.str "first", .str "best"]) = H2 at *
    have u2 := u1.trans s2
    have s02 := s1.trans s2
    refine i_intB5 ?_
    refine i_ixL (sqL g2) (v := .str (if b = true then "best" else "first")) (by cases b <;> rfl) ?_
    have hP2 := hP.mono u2
    have hr2 := u2 _ _ hr
    have hp2 := hp.mono u2
    fold_lay
    fold_depth
    refine ⟨g, _, .int z, .int al, rfl, kk, ⟨rs, hP2⟩, .inr (.inr (.inl ⟨b, z, al, rs, rfl, ?_, A, hP2, rn, fun p H3 gp s3 => ?_⟩))⟩
    · cases b
      · exact .inl ⟨rfl, rfl, rfl⟩
      · exact .inr (.inl ⟨rfl, rfl, rfl⟩)
    have u3 := u2.trans s3
    have hP3 := hP2.mono s3
    have hr3 := s3 _ _ hr2
    have hp3 := hp2.mono s3
    have s03 := s02.trans s3
    fold_lay
    refine ⟨r, xs, ps, rs, z, al, b, rfl, hr3, hp3, ok, pl, rn, same, A, fun H4 s4 => ?_⟩
    have gp4 := s4 _ _ gp
    fold_lay
    rename_i q hq
    have s5 := same_new (o := .lst [.str "done", oV (dueF b z al rs)]) hq
    obtain ⟨d, ad, ⟨d1, d2⟩, dk⟩ := doneO5 _ (s5 _ _ gp4)
    refine c_same (E := E0) ad (dk _ q upd_same) d1 d2 fun H6 s6 => ?_
    have s36 := s4.trans (s5.trans s6)
    have u6 := u3.trans s36
    have hP6 := hP3.mono s36
    have hr6 := s36 _ _ hr3
    have hp6 := hp3.mono s36
    have s06 := s03.trans s36
    clear hP2 hr2 hp2 hP3 hr3 hp3 s3 s4 s5 s6 s36 gp gp4 hq ad dk u3 s03 s2 g2 hl2 u2 s02
    fold_lay
    refine ⟨_, _, rfl, rfl, by cases b <;> decide, ?_⟩
    fold_lay
    refine ⟨g, _, .int z, .non, rfl, kk, ⟨rs, hP6⟩, .inr (.inr (.inl ⟨b, z, 1, rs, rfl, ?_, A.one, hP6, rn, fun p H7 gp s7 => ?_⟩))⟩
    · cases b
      · exact .inr (.inr (.inl ⟨rfl, rfl, rfl⟩))
      · exact .inr (.inr (.inr ⟨rfl, rfl, rfl⟩))
    have hr7 := s7 _ _ hr6
    have hp7 := hp6.mono s7
    fold_lay
    refine ⟨r, xs, ps, rs, z, 1, b, rfl, hr7, hp7, ok, pl, rn, same, A.one, fun H8 s8 => ?_⟩
    have gp8 := s8 _ _ gp
    fold_lay
    rename_i q hq
    have s9 := same_new (o := .lst [.str "done", oV (dueF b z 1 rs)]) hq
    obtain ⟨d, ad, ⟨d1, d2⟩, dk⟩ := doneO5 _ (s9 _ _ gp8)
    refine c_same (E := E0) ad (dk _ q upd_same) d1 d2 fun H10 s10 => ?_
    fold_lay
    exact ⟨s06.trans (s7.trans (s8.trans (s9.trans s10))), _, _, rfl⟩
  · rintro σ' H1 ⟨s1, y4, y5, rfl⟩
    fold_lay
    exact k _ (s0.trans s1)
def sp_covers_right5 (K : PySem.W.Frag) (c : Cl) : Sp := fun vs H Q _ => ∃ (g r t : Addr) (xs ts : List V) (rs qs : List PR), vs = [.ref g, .ref r, .ref t] ∧ PlO c H g rs ∧ RunsL rs ∧ rs.length ≤ 100000 ∧ K05K K c ∧ H r = some (.lst xs) ∧ Prs H xs rs ∧ H t = some (.lst ts) ∧ Prs H ts qs ∧ OkS qs ∧ ∀ H', Same H H' → Q (.bl true) H'
def N_l_covers_right : List Str := ["_law_places", "_law_due_here", "_law_tried", "_law_start", "_law_size_here", "_law_inside", "_law_one"]
def t_l_covers_right (K : PySem.W.Frag) (c : Cl) : TS := (tSeq (tFor (iList K (tVar 2)) (gTup K 2 (gCons (gName 3) (gCons (gName 4) gNil))) (tSeq (tAsg (tLc (iList K (tVar 1)) (gName 6) (tAnd (tTest (tOp oLe (tOp (rIxT K) (tVar 6) (tC (.int 0))) (tVar 3))) (tTest (tOp oLe (tOp oAdd (tVar 3) (tVar 4)) (tOp oAdd (tOp (rIxT K) (tVar 6) (tC (.int 0))) (tOp (rIxT K) (tVar 6) (tC (.int 1))))))) (tVar 6) [6]) (gName 5))
  (tIfS (tNot (tB (tCall (sp_same 6) [] E0 (tCons (tCall (sp_asked5 K c) [] E0 (tCons (tVar 0) (tCons (tC (.str "covers")) (tCons (tTup (tCons (tVar 3) (tCons (tVar 4) tNil))) (tCons (tC .non) tNil))))) (tCons (tLst (tCons (tC (.str "done")) (tCons (tOp rEq (tCB (rLen K) (tCons (tVar 5) tNil)) (tC (.int 1))) tNil))) tNil))))) (tRet (tC (.bl false))) tNext)))
  (tRet (tC (.bl true))))
theorem one_holds {rs : List PR} (h : RunsL rs) (a n : Int) (hn : 1 ≤ n) : (rs.filter fun p => decide (p.1 ≤ a ∧ a + n ≤ p.1 + p.2)).length ≤ 1 := by
  have sub := List.filter_sublist (p := fun p : PR => decide (p.1 ≤ a ∧ a + n ≤ p.1 + p.2)) (l := rs)
  have mem : ∀ p ∈ rs.filter fun p => decide (p.1 ≤ a ∧ a + n ≤ p.1 + p.2), p ∈ rs ∧ p.1 ≤ a ∧ a + n ≤ p.1 + p.2 := fun p m => by
    rw [List.mem_filter, decide_eq_true_eq] at m
    exact m
  have pw := h.ap.sublist sub
  generalize (rs.filter fun p => decide (p.1 ≤ a ∧ a + n ≤ p.1 + p.2)) = l at *
  match l, pw, mem with
  | [], _, _ => exact Nat.zero_le _
  | [_], _, _ => exact Nat.le_refl _
  | p :: q :: l, pw, mem =>
    have := (List.pairwise_cons.mp pw).1 q List.mem_cons_self
    have m1 := mem p List.mem_cons_self
    have m2 := mem q (List.mem_cons_of_mem _ List.mem_cons_self)
    omega
theorem pure_covers_right5 {K : PySem.W.Frag} {c : Cl} {vs : List V} {H : Hp} {Q : VK} {E : XK} (h : sp_covers_right5 K c vs H Q E) : t_l_covers_right K c { nx := fun _ H' => Q .non H', rt := Q } (start N_l_covers_right vs) H := by
  obtain ⟨g, r, t, xs, ts, rs, qs, rfl, hP, rn, rl, kk, hr, hp, ht, hq, okq, k⟩ := h
  have xl := hp.len
  show t_l_covers_right K c _ [some (.ref g), some (.ref r), some (.ref t), none, none, none, none] H
  unfold t_l_covers_right
  fold_lay
  fold_depth
  refine f_lst (sqL ht) (l_lst (xs := ts) (fun i σ' H' => Same H H' ∧ ∃ y3 y4 y5, σ' = [some (.ref g), some (.ref r), some (.ref t), y3, y4, y5, none]) ⟨Same.refl _, _, _, _, rfl⟩ (fun i σ' H' _ h => sqL (h.1 _ _ ht)) ?_ ?_)
  · rintro i y σ' H1 hy ⟨s1, y3, y4, y5, rfl⟩
    obtain ⟨q, tt, eq, rfl, htt⟩ := hq.at hy
    obtain ⟨o1, o2, o3⟩ := okq q (List.mem_of_getElem? eq)
    have htt := s1 _ _ htt
    have hr1 := s1 _ _ hr
    have hp1 := hp.mono s1
    fold_lay
    refine c_lst (sqL hr1) (m_lst (xs := xs) (fun D j H' => Same H1 H' ∧ H1 D = none ∧ ∃ us : List V, H' D = some (.lst us) ∧ us.length = ((rs.take j).filter fun p => decide (p.1 ≤ q.1 ∧ q.1 + q.2 ≤ p.1 + p.2)).length) (fun D hD => ⟨same_new hD, hD, [], upd_same, rfl⟩) (fun D j H' _ h => sqL (h.1 _ _ hr1)) ?_ ?_)
    · rintro D j x H' hx ⟨u1, u2, us, u3, u4⟩
      obtain ⟨p, w, ep, rfl, hw⟩ := hp1.at hx
      have jl := (List.getElem?_eq_some_iff.mp ep).1
      have hw := u1 _ _ hw
      have tj : rs.take (j + 1) = rs.take j ++ [p] := by rw [List.take_add_one, ep]; rfl
      have fl := List.length_filter_le (fun p : PR => decide (p.1 ≤ q.1 ∧ q.1 + q.2 ≤ p.1 + p.2)) (rs.take j)
      rw [List.length_take] at fl
      have nope : ¬ (p.1 ≤ q.1 ∧ q.1 + q.2 ≤ p.1 + p.2) → Same H1 H' ∧ H1 D = none ∧ ∃ us : List V, H' D = some (.lst us) ∧ us.length = ((rs.take (j + 1)).filter fun p => decide (p.1 ≤ q.1 ∧ q.1 + q.2 ≤ p.1 + p.2)).length := fun n => by
        refine ⟨u1, u2, us, u3, ?_⟩
        rw [tj, List.filter_append, List.length_append, u4, List.filter_cons, if_neg (by rw [decide_eq_false n]; decide)]
        rfl
      fold_lay
      refine ⟨rfl, ?_⟩
      fold_lay
      refine i_ifd (fun e1 => ?_) (fun e1 => ?_)
      rotate_left
      · fold_lay
        exact nope fun c => e1 c.1
      fold_lay
      refine i_ifd (fun e2 => ?_) (fun e2 => nope fun c => e2 c.2)
      fold_lay
      refine ⟨us, u3, szl (by omega), same_step u2 u1, u2, _, upd_same, ?_⟩
      rw [tj, List.filter_append, List.length_append, List.length_append, u4, List.filter_cons, if_pos (decide_eq_true ⟨e1, e2⟩)]
      rfl
    rintro D H2 ⟨u1, u2, us, u3, u4⟩
    rw [xl, List.take_length] at u4
    have ol := one_holds rn q.1 q.2 o2
    have iff : (us.length = 1) ↔ ∃ p ∈ rs, p.1 ≤ q.1 ∧ q.1 + q.2 ≤ p.1 + p.2 := by
      rw [u4]
      constructor
      · intro e
        obtain ⟨p, m⟩ := List.exists_mem_of_length_pos (l := rs.filter fun p => decide (p.1 ≤ q.1 ∧ q.1 + q.2 ≤ p.1 + p.2)) (by omega)
        rw [List.mem_filter, decide_eq_true_eq] at m
        exact ⟨p, m⟩
      · rintro ⟨p, m, h⟩
        have : p ∈ rs.filter fun p => decide (p.1 ≤ q.1 ∧ q.1 + q.2 ≤ p.1 + p.2) := by
          rw [List.mem_filter, decide_eq_true_eq]
          exact ⟨m, h⟩
        have := List.length_pos_of_mem this
        omega
    have s2 := s1.trans u1
    have hP2 := hP.mono s2
    fold_lay
    rename_i w hw
    have s3 := same_new (o := .tup [.int q.1, .int q.2]) hw
    have g3 : upd H2 w (.tup [.int q.1, .int q.2]) w = some (.tup [.int q.1, .int q.2]) := upd_same
    generalize upd H2 w (.tup [.int q.1, .int q.2]) = H3 at *
    have hP3 := hP2.mono s3
    have u33 := s3 _ _ u3
    refine ⟨g, _, .ref w, .non, rfl, kk, ⟨rs, hP3⟩, .inr (.inr (.inr ⟨rfl, q.1, q.2, rs, .tup g3 (.cons (.int _) (.cons (.int _) .nil)), o1, o2, o3, hP3, rn, rl, fun b hb p H4 gp s4 => ?_⟩))⟩
    have u34 := s4 _ _ u33
    fold_lay
    rename_i e1 he1
    have eb : decide ((us.length : Int) = 1) = b := by
      rw [Bool.eq_iff_iff, decide_eq_true_eq, hb, ← iff]
      omega
    rw [eb]
    have s5 := same_new (o := .lst [.str "done", .bl b]) he1
    refine c_same (E := E0) (d := .lst [.str "done", .bl b]) (.lst (s5 _ _ gp) (.cons (.str _) (.cons (.bl _) .nil))) (.lst upd_same (.cons (.str _) (.cons (.bl _) .nil))) (by simp [Dt.dep, Dt.depL]) rfl fun H6 s6 => ?_
    fold_lay
    exact ⟨s2.trans (s3.trans (s4.trans (s5.trans s6))), _, _, _, rfl⟩
  · rintro σ' H1 ⟨s1, y3, y4, y5, rfl⟩
    fold_lay
    exact k _ s1
/-! ## K05g -/
local macro_rules | `(tactic| kbj_are) => `(tactic| (with_reducible refine q_len ?_; with_reducible refine i_lenT (sqT (by assumption)) ?_))
/-! ### k05: what is refused; the law -/
theorem vR_out5 {H : Hp} {v : V} {d : Dt} {lo hi : Int} (h : At H v d) (n : ¬ d.inR lo hi) : vR lo hi v = false := by
  cases h with
  | int i =>
    cases e : vR lo hi (.int i) with
    | false => rfl
    | true =>
      simp only [vR, Bool.and_eq_true, decide_eq_true_eq] at e
      exact absurd e n
  | _ => rfl
theorem vA_out5 {H : Hp} {v : V} {d : Dt} {m : Int} (h : At H v d) (n : ¬ d.isAl m) : vA m v = false := by
  cases h with
  | int i =>
    cases e : vA m (.int i) with
    | false => rfl
    | true => exact absurd (vA_iff.mp e) n
  | _ => rfl
theorem atH5 {d s : Addr} {H H' : Hp} {v : V} {dt : Dt} (hD : Dr d s H) (a : At (nw H H') v dt) : At (hid s H') v dt := a.mono fun b o e => hid_to (nw_of e).2 (hD.ne (nw_of e).1)
def sp_refused_right5 (K : PySem.W.Frag) (c : Cl) : Sp := fun vs H Q _ => ∃ (d s g : Addr) (rs : List PR) (z al : Int), vs = [.ref d, .ref g, .int z, .int al] ∧ Dr d s H ∧ PlO c H g rs ∧ K05K K c ∧ Ask5 z al ∧ ∀ H', Dr d s H' → Same (hid s H) (hid s H') → Q (.bl true) H'
def N_l_refused_right5 : List Str := ["_law_draws_here", "_law_places", "_law_size_here", "_law_alignment_here", "_law_few", "_law_odd", "_law_wrong", "_law_kept", "_law_title"]
def t_l_refused_right5 (K : PySem.W.Frag) (c : Cl) : TS := (tSeq (tAsg (tCall sp_not_within [] E0 (tCons (tVar 0) (tCons (tC (.int 1)) (tCons (tOp oPow (tC (.int 10)) (tC (.int 9))) tNil)))) (gName 4))
  (tSeq (tAsg (tCall sp_not_alignment [] E0 (tCons (tVar 0) (tCons (tOp oPow (tC (.int 2)) (tC (.int 30))) tNil))) (gName 5))
  (tSeq (tAsg (tCall (sp_among K) [] E0 (tCons (tVar 0) (tCons (tLst (tCons (tLst (tCons (tC (.int 3)) (tCons (tC (.int 4)) tNil))) (tCons (tTup (tCons (tC (.int 3)) (tCons (tC (.int 4)) (tCons (tC (.int 1)) tNil)))) (tCons (tTup (tCons (tC (.int 3)) tNil)) (tCons (tTup (tCons (tC (.int 3)) (tCons (tC (.int 0)) tNil))) (tCons (tTup (tCons (tUn oNeg (tC (.int 1))) (tCons (tC (.int 4)) tNil))) (tCons (tTup (tCons (tC (.int 3)) (tCons (tUn oNeg (tC (.int 4))) tNil))) (tCons (tTup (tCons (tC (.int 4)) (tCons (tOp oSub (tOp oPow (tC (.int 10)) (tC (.int 9))) (tC (.int 3))) tNil))) (tCons (tTup (tCons (tC (.bl true)) (tCons (tC (.int 4)) tNil))) (tCons (tC .non) tNil)))))))))) tNil))) (gName 6))
  (tSeq (tAsg (tCall (sp_copy 6) [] E0 (tCons (tLst (tCons (tVar 4) (tCons (tVar 5) (tCons (tVar 6) tNil)))) tNil)) (gName 7))
  (tSeq (tFor (iList K (tLst (tCons (tC (.str "first")) (tCons (tC (.str "best")) tNil)))) (gName 8) (tSeq (tIfS (tNot (tB (tCall (sp_same 6) [] E0 (tCons (tCall (sp_asked5 K c) [] E0 (tCons (tVar 1) (tCons (tVar 8) (tCons (tVar 4) (tCons (tVar 3) tNil))))) (tCons (tCall sp_refused [] E0 (tCons (tC (.str "BadValue")) (tCons (tTup (tCons (tC (.str "size")) tNil)) tNil))) tNil))))) (tRet (tC (.bl false))) tNext)
  (tSeq (tIfS (tNot (tB (tCall (sp_same 6) [] E0 (tCons (tCall (sp_asked5 K c) [] E0 (tCons (tVar 1) (tCons (tVar 8) (tCons (tVar 2) (tCons (tVar 5) tNil))))) (tCons (tCall sp_refused [] E0 (tCons (tC (.str "BadValue")) (tCons (tTup (tCons (tC (.str "align")) tNil)) tNil))) tNil))))) (tRet (tC (.bl false))) tNext)
  (tIfS (tNot (tB (tCall (sp_same 6) [] E0 (tCons (tCall (sp_asked5 K c) [] E0 (tCons (tVar 1) (tCons (tVar 8) (tCons (tVar 4) (tCons (tVar 5) tNil))))) (tCons (tCall sp_refused [] E0 (tCons (tC (.str "BadValue")) (tCons (tTup (tCons (tC (.str "size")) tNil)) tNil))) tNil))))) (tRet (tC (.bl false))) tNext))))
  (tSeq (tIfS (tNot (tB (tCall (sp_same 6) [] E0 (tCons (tCall (sp_asked5 K c) [] E0 (tCons (tVar 1) (tCons (tC (.str "covers")) (tCons (tVar 6) (tCons (tC .non) tNil))))) (tCons (tCall sp_refused [] E0 (tCons (tC (.str "BadValue")) (tCons (tTup (tCons (tC (.str "span")) tNil)) tNil))) tNil))))) (tRet (tC (.bl false))) tNext)
  (tRet (tCall (sp_same 6) [] E0 (tCons (tLst (tCons (tVar 4) (tCons (tVar 5) (tCons (tVar 6) tNil)))) (tCons (tVar 7) tNil))))))))))
theorem PlO.hid5 {c : Cl} {d s g : Addr} {H H' : Hp} {rs : List PR} (h : PlO c H g rs) (D : Dr d s H) (k : Same (hid s H) (hid s H')) : PlO c H' g rs := by
  obtain ⟨dx, tp, fs, g1, g2, g3⟩ := h.ex
  exact ⟨dx, tp, fs, hget k (D.neI7 g1) g1, hidTup7 D k _ _ g2, g3.tupK (hidTup7 D k)⟩
theorem pure_refused_right5 {K : PySem.W.Frag} {c : Cl} {vs : List V} {H : Hp} {Q : VK} {E : XK} (h : sp_refused_right5 K c vs H Q E) : t_l_refused_right5 K c { nx := fun _ H' => Q .non H', rt := Q } (start N_l_refused_right5 vs) H := by
  obtain ⟨d, s, g, rs, z, al, rfl, hD, hP, kk, A, k⟩ := h
  have t9 : (10 : Int) ^ Int.toNat 9 = 1000000000 := by decide
  have t30 : (2 : Int) ^ Int.toNat 30 = 1073741824 := by decide
  show t_l_refused_right5 K c _ [some (.ref d), some (.ref g), some (.int z), some (.int al), none, none, none, none, none] H
  unfold t_l_refused_right5
  fold_lay
  rw [t9]
  refine c_not_within hD (by omega) (by omega) (by omega) fun w1 d1 H1 a1 b1 c1 hD1 s1 => ?_
  have a1 := atH5 hD a1
  fold_lay
  rw [t30]
  refine c_not_alignment hD1 (by omega) (by omega) fun w2 d2 H2 a2 b2 c2 hD2 s2 => ?_
  have a2 := atH5 hD1 a2
  have a1 := a1.mono s2
  have s02 := s1.trans s2
  clear s1 s2 hD1
  fold_lay
  rename_i p1 h1 p2 h2 p3 h3 p4 h4 p5 h5 p6 h6 p7 h7 p8 h8 p9 h9
  have S1 := same_new (o := .lst [.int 3, .int 4]) h1
  have G1 : upd H2 p1 (.lst [.int 3, .int 4]) p1 = some (.lst [.int 3, .int 4]) := upd_same
  have N1 := hD2.ne h1
  generalize upd H2 p1 (.lst [.int 3, .int 4]) = A1 at *
  have D1 := hD2.same S1
  have S2 := same_new (o := .tup [.int 3, .int 4, .int 1]) h2
  have G2 : upd A1 p2 (.tup [.int 3, .int 4, .int 1]) p2 = some (.tup [.int 3, .int 4, .int 1]) := upd_same
  have N2 := D1.ne h2
  generalize upd A1 p2 (.tup [.int 3, .int 4, .int 1]) = A2 at *
  have D2 := D1.same S2
  have S3 := same_new (o := .tup [.int 3]) h3
  have G3 : upd A2 p3 (.tup [.int 3]) p3 = some (.tup [.int 3]) := upd_same
  have N3 := D2.ne h3
  generalize upd A2 p3 (.tup [.int 3]) = A3 at *
  have D3 := D2.same S3
  have S4 := same_new (o := .tup [.int 3, .int 0]) h4
  have G4 : upd A3 p4 (.tup [.int 3, .int 0]) p4 = some (.tup [.int 3, .int 0]) := upd_same
  have N4 := D3.ne h4
  generalize upd A3 p4 (.tup [.int 3, .int 0]) = A4 at *
  have D4 := D3.same S4
  have S5 := same_new (o := .tup [.int (-1), .int 4]) h5
  have G5 : upd A4 p5 (.tup [.int (-1), .int 4]) p5 = some (.tup [.int (-1), .int 4]) := upd_same
  have N5 := D4.ne h5
  generalize upd A4 p5 (.tup [.int (-1), .int 4]) = A5 at *
  have D5 := D4.same S5
  have S6 := same_new (o := .tup [.int 3, .int (-4)]) h6
  have G6 : upd A5 p6 (.tup [.int 3, .int (-4)]) p6 = some (.tup [.int 3, .int (-4)]) := upd_same
  have N6 := D5.ne h6
  generalize upd A5 p6 (.tup [.int 3, .int (-4)]) = A6 at *
  have D6 := D5.same S6
  have S7 := same_new (o := .tup [.int 4, .int ((10 : Int) ^ Int.toNat 9 - 3)]) h7
  have G7 : upd A6 p7 (.tup [.int 4, .int ((10 : Int) ^ Int.toNat 9 - 3)]) p7 = some (.tup [.int 4, .int ((10 : Int) ^ Int.toNat 9 - 3)]) := upd_same
  have N7 := D6.ne h7
  generalize upd A6 p7 (.tup [.int 4, .int ((10 : Int) ^ Int.toNat 9 - 3)]) = A7 at *
  have D7 := D6.same S7
  have S8 := same_new (o := .tup [.bl true, .int 4]) h8
  have G8 : upd A7 p8 (.tup [.bl true, .int 4]) p8 = some (.tup [.bl true, .int 4]) := upd_same
  have N8 := D7.ne h8
  generalize upd A7 p8 (.tup [.bl true, .int 4]) = A8 at *
  have D8 := D7.same S8
  have S9 := same_new (o := .lst [.ref p1, .ref p2, .ref p3, .ref p4, .ref p5, .ref p6, .ref p7, .ref p8, .non]) h9
  have G9 : upd A8 p9 (.lst [.ref p1, .ref p2, .ref p3, .ref p4, .ref p5, .ref p6, .ref p7, .ref p8, .non]) p9 = some (.lst [.ref p1, .ref p2, .ref p3, .ref p4, .ref p5, .ref p6, .ref p7, .ref p8, .non]) := upd_same
  have N9 := D8.ne h9
  generalize upd A8 p9 (.lst [.ref p1, .ref p2, .ref p3, .ref p4, .ref p5, .ref p6, .ref p7, .ref p8, .non]) = A9 at *
  have D9 := D8.same S9
  rw [t9] at G7
  have F1 := hid_to ((S2.trans (S3.trans (S4.trans (S5.trans (S6.trans (S7.trans (S8.trans (S9)))))))) _ _ G1) N1
  have F2 := hid_to ((S3.trans (S4.trans (S5.trans (S6.trans (S7.trans (S8.trans (S9))))))) _ _ G2) N2
  have F3 := hid_to ((S4.trans (S5.trans (S6.trans (S7.trans (S8.trans (S9)))))) _ _ G3) N3
  have F4 := hid_to ((S5.trans (S6.trans (S7.trans (S8.trans (S9))))) _ _ G4) N4
  have F5 := hid_to ((S6.trans (S7.trans (S8.trans (S9)))) _ _ G5) N5
  have F6 := hid_to ((S7.trans (S8.trans (S9))) _ _ G6) N6
  have F7 := hid_to ((S8.trans (S9)) _ _ G7) N7
  have F8 := hid_to ((S9) _ _ G8) N8
  have t29 : Same H2 A9 := S1.trans (S2.trans (S3.trans (S4.trans (S5.trans (S6.trans (S7.trans (S8.trans (S9))))))))
  have s09 := s02.trans (hid_mono t29)
  have a1 := a1.mono (hid_mono t29)
  have a2 := a2.mono (hid_mono t29)
  refine c_among D9 G9 N9 (by simp) (by simp) fun w3 H3 hv hD3 s3 => ?_
  obtain ⟨d3, a3, b3, c3⟩ : ∃ d3, At (hid s H3) w3 d3 ∧ isSpan d3 = false ∧ (d3.dep ≤ 2 ∧ d3.okd = true) := by
    simp only [List.mem_cons, List.not_mem_nil, or_false] at hv
    rcases hv with rfl | rfl | rfl | rfl | rfl | rfl | rfl | rfl | rfl
    · exact ⟨_, .lst (s3 _ _ F1) (.cons (.int _) (.cons (.int _) .nil)), by decide, by decide, by decide⟩
    · exact ⟨_, .tup (s3 _ _ F2) (.cons (.int _) (.cons (.int _) (.cons (.int _) .nil))), by decide, by decide, by decide⟩
    · exact ⟨_, .tup (s3 _ _ F3) (.cons (.int _) .nil), by decide, by decide, by decide⟩
    · exact ⟨_, .tup (s3 _ _ F4) (.cons (.int _) (.cons (.int _) .nil)), by decide, by decide, by decide⟩
    · exact ⟨_, .tup (s3 _ _ F5) (.cons (.int _) (.cons (.int _) .nil)), by decide, by decide, by decide⟩
    · exact ⟨_, .tup (s3 _ _ F6) (.cons (.int _) (.cons (.int _) .nil)), by decide, by decide, by decide⟩
    · exact ⟨_, .tup (s3 _ _ F7) (.cons (.int _) (.cons (.int _) .nil)), by decide, by decide, by decide⟩
    · exact ⟨_, .tup (s3 _ _ F8) (.cons (.bl _) (.cons (.int _) .nil)), by decide, by decide, by decide⟩
    · exact ⟨_, .non, by decide, by decide, by decide⟩
  have a1 : At H3 w1 d1 := (a1.mono s3).mono fun b o e => (hid_of e).1
  have a2 : At H3 w2 d2 := (a2.mono s3).mono fun b o e => (hid_of e).1
  have a3 : At H3 w3 d3 := a3.mono fun b o e => (hid_of e).1
  have s03 := s09.trans s3
  have hP3 := hP.hid5 hD s03
  clear hv F1 F2 F3 F4 F5 F6 F7 F8 G1 G2 G3 G4 G5 G6 G7 G8 G9 S1 S2 S3 S4 S5 S6 S7 S8 S9 N1 N2 N3 N4 N5 N6 N7 N8 N9 D1 D2 D3 D4 D5 D6 D7 D8 D9 h1 h2 h3 h4 h5 h6 h7 h8 h9 t29 s09 s3 s02
  have o1 := vR_out5 a1 b1
  have o2 := vA_out5 a2 b2
  fold_lay
  rename_i l hl
  have sl := same_new (o := .lst [w1, w2, w3]) hl
  have gl : upd H3 l (.lst [w1, w2, w3]) l = some (.lst [w1, w2, w3]) := upd_same
  generalize upd H3 l (.lst [w1, w2, w3]) = H4 at *
  have dp : (Dt.lst [d1, d2, d3]).dep ≤ 5 ∧ (Dt.lst [d1, d2, d3]).okd = true := ⟨by simp only [Dt.dep, Dt.depL]; omega, by simp [Dt.okd, Dt.okL, c1.2, c2.2, c3.2]⟩
  refine c_copy (d := .lst [d1, d2, d3]) (.lst gl (.cons (a1.mono sl) (.cons (a2.mono sl) (.cons (a3.mono sl) .nil)))) dp.1 dp.2 fun kv H5 ak s5 => ?_
  have ak : At H5 kv (.lst [d1, d2, d3]) := ak.mono fun b o e => (nw_of e).2
  have s35 := sl.trans s5
  have a1 := a1.mono s35
  have a2 := a2.mono s35
  have a3 := a3.mono s35
  have hP5 := hP3.mono s35
  have hD5 := hD3.same s35
  have s05 := s03.trans (hid_mono s35)
  clear sl gl hl s5 s35 hP3 hD3 s03
  have T1 : ∀ H', Same H5 H' → Ty5 H' w1 := fun H' u => ⟨_, (a1.mono u).ty⟩
  have T2 : ∀ H', Same H5 H' → Ty5 H' w2 := fun H' u => ⟨_, (a2.mono u).ty⟩
  have ref : ∀ t : Str, (badD5 t).dep ≤ 5 ∧ (badD5 t).okd = true := fun t => ⟨by simp [badD5, refD2, Dt.dep, Dt.depL, yes, titles], by simp [badD5, refD2, Dt.okd, Dt.okL, yes, titles]⟩
  fold_lay
  refine i_cut (fun σ' H' => Same H5 H' ∧ ∃ y8, σ' = [some (.ref d), some (.ref g), some (.int z), some (.int al), some w1, some w2, some w3, some kv, y8]) ?_ (fun nx key => ?_)
  rotate_left
  · fold_lay
    rename_i l hl
    have sl := same_new (o := .lst [.str "first", .str "best"]) hl
    have gl : upd H5 l (.lst [.str "first", .str "best"]) l = some (.lst [.str "first", .str "best"]) := upd_same
    generalize upd H5 l (.lst [.str "first", .str "best"]) = H6 at *
    refine f_lst (sqL gl) (l_lst (xs := [.str "first", .str "best"]) (fun i σ' H' => Same H6 H' ∧ ∃ y8, σ' = [some (.ref d), some (.ref g), some (.int z), some (.int al), some w1, some w2, some w3, some kv, y8]) ⟨Same.refl _, _, rfl⟩ (fun i σ' H' _ h => sqL (h.1 _ _ gl)) ?_ ?_)
    · rintro j x σ' H7 hx ⟨s7, y8, rfl⟩
      obtain ⟨tt, rfl, htt⟩ : ∃ tt : Str, x = .str tt ∧ (tt = "first" ∨ tt = "best") := by
        have m := List.mem_of_getElem? hx
        simp only [List.mem_cons, List.not_mem_nil, or_false] at m
        rcases m with rfl | rfl
        · exact ⟨_, rfl, .inl rfl⟩
        · exact ⟨_, rfl, .inr rfl⟩
      have u0 : Same H6 H7 := s7
      fold_lay
      fold_depth
      refine ⟨g, tt, w1, .int al, rfl, kk, ⟨rs, hP5.mono (sl.trans u0)⟩, .inl ⟨htt, T1 _ (sl.trans u0), ⟨_, .int _⟩, "size", .size o1, fun v Ha sa av => ?_⟩⟩
      fold_lay
      rename_i e he
      have sb := same_new (o := .tup [.str "size"]) he
      refine c_refused (fd := .tup [.str "size"]) (.tup upd_same (.cons (.str _) .nil)) fun due Hb adue sc => ?_
      have sbc := sb.trans sc
      fold_lay
      refine c_same (E := E0) (av.mono sbc) adue (ref "size").1 (ref "size").2 fun Hc sd => ?_
      have u1 := u0.trans (sa.trans (sbc.trans sd))
      clear av adue he sa sb sc sbc sd
      fold_lay
      fold_depth
      refine ⟨g, tt, .int z, w2, rfl, kk, ⟨rs, hP5.mono (sl.trans u1)⟩, .inl ⟨htt, ⟨_, .int _⟩, T2 _ (sl.trans u1), "align", .align rfl A.z0 A.z1 o2, fun v Ha sa av => ?_⟩⟩
      fold_lay
      rename_i e he
      have sb := same_new (o := .tup [.str "align"]) he
      refine c_refused (fd := .tup [.str "align"]) (.tup upd_same (.cons (.str _) .nil)) fun due Hb adue sc => ?_
      have sbc := sb.trans sc
      fold_lay
      refine c_same (E := E0) (av.mono sbc) adue (ref "align").1 (ref "align").2 fun Hc sd => ?_
      have u2 := u1.trans (sa.trans (sbc.trans sd))
      clear av adue he sa sb sc sbc sd
      fold_lay
      refine ⟨g, tt, w1, w2, rfl, kk, ⟨rs, hP5.mono (sl.trans u2)⟩, .inl ⟨htt, T1 _ (sl.trans u2), T2 _ (sl.trans u2), "size", .size o1, fun v Ha sa av => ?_⟩⟩
      fold_lay
      rename_i e he
      have sb := same_new (o := .tup [.str "size"]) he
      refine c_refused (fd := .tup [.str "size"]) (.tup upd_same (.cons (.str _) .nil)) fun due Hb adue sc => ?_
      have sbc := sb.trans sc
      fold_lay
      refine c_same (E := E0) (av.mono sbc) adue (ref "size").1 (ref "size").2 fun Hc sd => ?_
      have u3 := u2.trans (sa.trans (sbc.trans sd))
      clear av adue he sa sb sc sbc sd
      fold_lay
      exact ⟨u3, _, rfl⟩
    · rintro σ' H7 ⟨s7, y8, rfl⟩
      exact key _ _ ⟨sl.trans s7, _, rfl⟩
  rintro σ' H6 ⟨s6, y8, rfl⟩
  have hP6 := hP5.mono s6
  fold_lay
  fold_depth
  refine ⟨g, _, w3, .non, rfl, kk, ⟨rs, hP6⟩, .inr (.inl ⟨rfl, d3, a3.mono s6, b3, fun v Ha sa av => ?_⟩)⟩
  fold_lay
  rename_i e he
  have sb := same_new (o := .tup [.str "span"]) he
  refine c_refused (fd := .tup [.str "span"]) (.tup upd_same (.cons (.str _) .nil)) fun due Hb adue sc => ?_
  have sbc := sb.trans sc
  fold_lay
  refine c_same (E := E0) (av.mono sbc) adue (ref "span").1 (ref "span").2 fun Hc sd => ?_
  have u7 := s6.trans (sa.trans (sbc.trans sd))
  clear av adue he sa sb sc sbc sd
  fold_lay
  rename_i l hl
  have sl := same_new (o := .lst [w1, w2, w3]) hl
  have u8 := u7.trans sl
  refine c_same (E := E0) (d := .lst [d1, d2, d3]) (.lst upd_same (.cons (a1.mono u8) (.cons (a2.mono u8) (.cons (a3.mono u8) .nil)))) (ak.mono u8) dp.1 dp.2 fun He se => ?_
  have u9 := u8.trans se
  exact k _ (hD5.same u9) (s05.trans (hid_mono u9))
/-! ## K05h -/
local macro_rules | `(tactic| kbj_are) => `(tactic| (with_reducible refine q_len ?_; with_reducible refine i_lenT (sqT (by assumption)) ?_))
/-! ### k05: the law -/
theorem places_made5 {K : PySem.W.Frag} {c : Cl} {l x dx : Addr} {xs : List V} {ps : List PR} {H : Hp} {Q : VK} {E : XK} (P : PlK K c) (hl : H l = some (.lst xs)) (hp : Prs H xs ps) (ok : OkS ps) (pl : ps.length ≤ 20000) (hx : H x = none) (hdx : H dx = none) (n : dx ≠ x)
    (q : ∀ rs H', Same H H' → PlO c H' x rs → RunsL rs → (∀ y, inSp rs y ↔ inSp ps y) → rs.length ≤ ps.length → Q .non H') : sp_places_init7 K c [.ref x, .ref l] (upd (upd H dx (.own x)) x (.ins c.k_Places dx [])) Q E := by
  have kp : Same H (upd (upd H dx (.own x)) x (.ins c.k_Places dx [])) := fun b o e => upd_off (ne_of_none e hx) (upd_off (ne_of_none e hdx) e)
  refine ⟨x, dx, l, xs, ps, rfl, upd_same, kp _ _ hl, hp.mono kp, ok, pl, P, fun rs H' h1 h2 h3 h4 h5 => q rs H' (fun b o e => h5 b o (by simpa using ne_of_none e hx) (kp _ _ e)) h1 h2 h3 h4⟩
def N_l_span5 : List Str := ["_law_draws_here", "_law_most", "_law_size_here"]
def t_l_span5 (K : PySem.W.Frag) : TS := (tSeq (tAsg (tCall sp_between [] E0 (tCons (tVar 0) (tCons (tC (.int 1)) (tCons (tCB rMin2 (tCons (tVar 1) (tCons (tC (.int 6)) tNil))) tNil)))) (gName 2))
  (tSeq (tIfS (tTest (tOp rEq (tCall sp_take [] E0 (tCons (tVar 0) (tCons (tC (.int 4)) tNil))) (tC (.int 0)))) (tAsg (tCall sp_number [] E0 (tCons (tVar 0) (tCons (tC (.int 1)) (tCons (tVar 1) tNil)))) (gName 2)) tNext)
  (tRet (tTup (tCons (tCall sp_number [] E0 (tCons (tVar 0) (tCons (tC (.int 0)) (tCons (tOp oSub (tVar 1) (tVar 2)) tNil)))) (tCons (tVar 2) tNil))))))
theorem pure_span5 {K : PySem.W.Frag} {vs : List V} {H : Hp} {Q : VK} {E : XK} (h : sp_span7 K vs H Q E) : t_l_span5 K { nx := fun _ H' => Q .non H', rt := Q } (start N_l_span5 vs) H := by
  obtain ⟨d, s, m, rfl, hD, m1, m2, k⟩ := h
  unfold t_l_span5
  fold_lay
  refine c_between hD (by split <;> omega) fun z H1 z1 z2 hD1 s1 => ?_
  have z3 : z ≤ m := by split at z2 <;> omega
  fold_lay
  refine i_cut (fun σ' H' => ∃ z, 1 ≤ z ∧ z ≤ m ∧ σ' = [some (.ref d), some (.int m), some (.int z)] ∧ Dr d s H' ∧ Same (hid s H) (hid s H')) ?_ (fun nx key => ?_)
  rotate_left
  · fold_lay
    refine c_take hD1 (by omega) fun v H2 _ _ hD2 s2 => ?_
    fold_lay
    refine i_ifd (fun _ => ?_) (fun _ => ?_)
    · fold_lay
      refine c_number hD2 (by omega) (by omega) fun y H3 y1 y2 hD3 s3 => ?_
      fold_lay
      exact key _ _ ⟨y, y1, y2, rfl, hD3, by mem_news⟩
    · fold_lay
      exact key _ _ ⟨z, z1, z3, rfl, hD2, by mem_news⟩
  rintro σ' H2 ⟨z, z1, z3, rfl, hD2, s2⟩
  fold_lay
  refine c_number hD2 (by omega) (by omega) fun y H3 y1 y2 hD3 s3 => ?_
  fold_lay
  rename_i p hp
  exact k p y z _ upd_same (by nest_room) y1 z1 (by omega) (by leaf_len) (by mem_news)
structure Row5 (s : Addr) (H : Hp) (r : Addr) (ps : List PR) (n : Nat) : Prop where
  ex : ∃ xs, H r = some (.lst xs) ∧ Prs H xs ps
  ns : r ≠ s
  ok : OkS ps
  pl : ps.length ≤ n
theorem Row5.mono {s r : Addr} {H H' : Hp} {ps : List PR} {n : Nat} (h : Row5 s H r ps n) (k : Same H H') : Row5 s H' r ps n := by
  obtain ⟨⟨xs, h1, h2⟩, h3, h4, h5⟩ := h
  exact ⟨⟨xs, k _ _ h1, h2.mono k⟩, h3, h4, h5⟩
theorem Row5.hid {d s r : Addr} {H H' : Hp} {ps : List PR} {n : Nat} (h : Row5 s H r ps n) (D : Dr d s H) (k : Same (hid s H) (hid s H')) : Row5 s H' r ps n := by
  obtain ⟨⟨xs, h1, h2⟩, h3, h4, h5⟩ := h
  exact ⟨⟨xs, hget k h3 h1, h2.tupK (hidTup7 D k)⟩, h3, h4, h5⟩
theorem Row5.set {s r x : Addr} {H : Hp} {ps : List PR} {n : Nat} {ys : List V} {o : HO} (h : Row5 s H r ps n) (hx : H x = some (.lst ys)) (nx : r ≠ x) : Row5 s (upd H x o) r ps n := by
  obtain ⟨⟨xs, h1, h2⟩, h3, h4, h5⟩ := h
  exact ⟨⟨xs, upd_off nx h1, h2.tupK (tupK_upd7 hx)⟩, h3, h4, h5⟩
theorem PlO.set5 {c : Cl} {g x : Addr} {H : Hp} {rs : List PR} {ys : List V} {o : HO} (h : PlO c H g rs) (hx : H x = some (.lst ys)) : PlO c (upd H x o) g rs := by
  obtain ⟨dx, tp, fs, g1, g2, g3⟩ := h.ex
  exact ⟨dx, tp, fs, upd_off (fun z => by rw [z, hx] at g1; cases g1) g1, tupK_upd7 hx _ _ g2, g3.tupK (tupK_upd7 hx)⟩
def sp_law05 (K : PySem.W.Frag) (c : Cl) : Sp := fun vs H Q _ => ∃ (a : Addr) (ns : List Int), vs = [.ref a] ∧ SqL K H a (ns.map V.int) ∧ ns.length ≤ 63 ∧ K05K K c ∧ ∀ H', Q (.bl true) H'
def N_l_law : List Str := ["_law_script", "_law_draws_here", "_law_most", "_law_rows", "_law_dues", "_law_sets", "_law_size_here", "_law_alignment_here", "_law_turn", "_law_at", "_law_k", "_law_row"]
def t_l_law (K : PySem.W.Frag) (c : Cl) : TS := (tSeq (tAsg (tCall (sp_draws K) [] E0 (tCons (tVar 0) tNil)) (gName 1))
  (tSeq (tAsg (tCall (sp_among K) [] E0 (tCons (tVar 1) (tCons (tLst (tCons (tC (.int 24)) (tCons (tC (.int 60)) (tCons (tOp oPow (tC (.int 10)) (tC (.int 9))) tNil)))) tNil))) (gName 2))
  (tSeq (tAsg (tLc (iRng1 (tCons (tC (.int 2)) tNil)) (gName 10) tYes (tCall (sp_spans7 K) [] E0 (tCons (tVar 1) (tCons (tCall sp_count [] E0 (tCons (tVar 1) (tCons (tC (.int 8)) (tCons (tC (.int 20)) tNil)))) (tCons (tVar 2) tNil)))) [10]) (gName 3))
  (tSeq (tAsg (tLc (iList K (tVar 3)) (gName 11) tYes (tCall (sp_normal_of K) [] E0 (tCons (tVar 11) tNil)) [11]) (gName 4))
  (tSeq (tAsg (tLc (iList K (tVar 3)) (gName 11) tYes (tMake c.k_Places (sp_places_init7 K c) [] E0 (tCons (tCB (rListOf K) (tCons (tVar 11) tNil)) tNil)) [11]) (gName 5))
  (tSeq (tAsg (tC (.int 1)) (gName 6))
  (tSeq (tAsg (tC (.int 1)) (gName 7))
  (tSeq (tFor (iRng1 (tCons (tC (.int 3)) tNil)) (gName 8) (tSeq (tAsg (tOp oMod (tVar 8) (tC (.int 2))) (gName 9))
  (tSeq (tAsg (tCall (sp_size5 K) [] E0 (tCons (tVar 1) (tCons (tOp (rIxL K) (tVar 4) (tVar 9)) tNil))) (gName 6))
  (tSeq (tAsg (tCall sp_alignment [] E0 (tCons (tVar 1) (tCons (tOp oAdd (tC (.int 4)) (tOp oMul (tC (.int 26)) (tOp oDiv (tCall sp_take [] E0 (tCons (tVar 1) (tCons (tC (.int 8)) tNil))) (tC (.int 7))))) tNil))) (gName 7))
  (tSeq (tIfS (tNot (tB (tCall (sp_starts_right5 K c) [] E0 (tCons (tOp (rIxL K) (tVar 5) (tVar 9)) (tCons (tOp (rIxL K) (tVar 3) (tVar 9)) (tCons (tVar 6) (tCons (tVar 7) tNil))))))) (tRet (tC (.bl false))) tNext)
  (tSeq (tIfS (tNot (tB (tCall (sp_starts_right5 K c) [] E0 (tCons (tOp (rIxL K) (tVar 5) (tOp oSub (tC (.int 1)) (tVar 9))) (tCons (tOp (rIxL K) (tVar 3) (tOp oSub (tC (.int 1)) (tVar 9))) (tCons (tVar 6) (tCons (tVar 7) tNil))))))) (tRet (tC (.bl false))) tNext)
  (tIfS (tNot (tB (tCall (sp_covers_right5 K c) [] E0 (tCons (tOp (rIxL K) (tVar 5) (tVar 9)) (tCons (tOp (rIxL K) (tVar 4) (tVar 9)) (tCons (tCall (sp_tried_spans K) [] E0 (tCons (tVar 1) (tCons (tOp (rIxL K) (tVar 4) (tVar 9)) tNil))) tNil)))))) (tRet (tC (.bl false))) tNext)))))))
  (tSeq (tIfS (tNot (tB (tCall (sp_refused_right5 K c) [] E0 (tCons (tVar 1) (tCons (tOp (rIxL K) (tVar 5) (tC (.int 0))) (tCons (tVar 6) (tCons (tVar 7) tNil))))))) (tRet (tC (.bl false))) tNext)
  (tRet (tAndV (tCall (sp_starts_right5 K c) [] E0 (tCons (tOp (rIxL K) (tVar 5) (tC (.int 0))) (tCons (tOp (rIxL K) (tVar 3) (tC (.int 0))) (tCons (tVar 6) (tCons (tVar 7) tNil))))) (tCall (sp_same 6) [] E0 (tCons (tProp c.k_Places (sp_pspans K c) [] E0 (tOp (rIxL K) (tVar 5) (tC (.int 0)))) (tCons (tOp (rIxL K) (tVar 4) (tC (.int 0))) tNil))))))))))))))
structure W5 (c : Cl) (d s l3 l4 l5 r0 r1 u0 u1 g0 g1 : Addr) (p0 p1 q0 q1 : List PR) (H : Hp) : Prop where
  D : Dr d s H
  h3 : H l3 = some (.lst [.ref r0, .ref r1])
  h4 : H l4 = some (.lst [.ref u0, .ref u1])
  h5 : H l5 = some (.lst [.ref g0, .ref g1])
  R0 : Row5 s H r0 p0 60
  R1 : Row5 s H r1 p1 60
  U0 : Row5 s H u0 q0 120
  U1 : Row5 s H u1 q1 120
  G0 : PlO c H g0 q0
  G1 : PlO c H g1 q1
theorem W5.st {c : Cl} {d s l3 l4 l5 r0 r1 u0 u1 g0 g1 : Addr} {p0 p1 q0 q1 : List PR} {H H' : Hp} (n3 : l3 ≠ s) (n4 : l4 ≠ s) (n5 : l5 ≠ s) (w : W5 c d s l3 l4 l5 r0 r1 u0 u1 g0 g1 p0 p1 q0 q1 H) (D' : Dr d s H') (k : Same (hid s H) (hid s H')) : W5 c d s l3 l4 l5 r0 r1 u0 u1 g0 g1 p0 p1 q0 q1 H' := by
  obtain ⟨D, h3, h4, h5, R0, R1, U0, U1, G0, G1⟩ := w
  exact ⟨D', hget k n3 h3, hget k n4 h4, hget k n5 h5, R0.hid D k, R1.hid D k, U0.hid D k, U1.hid D k, G0.hid5 D k, G1.hid5 D k⟩
theorem W5.at {c : Cl} {d s l3 l4 l5 r0 r1 u0 u1 g0 g1 : Addr} {p0 p1 q0 q1 : List PR} {H : Hp} (w : W5 c d s l3 l4 l5 r0 r1 u0 u1 g0 g1 p0 p1 q0 q1 H) (e0 : RunsL q0) (e1 : RunsL q1) (f0 : ∀ x, inSp q0 x ↔ inSp p0 x) (f1 : ∀ x, inSp q1 x ↔ inSp p1 x) {k : Int} (h : k = 0 ∨ k = 1) :
    ∃ (r u g : Addr) (p q : List PR), atI [V.ref r0, .ref r1] k = some (.ref r) ∧ atI [V.ref u0, .ref u1] k = some (.ref u) ∧ atI [V.ref g0, .ref g1] k = some (.ref g) ∧ RunsL q ∧ (∀ x, inSp q x ↔ inSp p x) ∧ q.length ≤ 120 ∧ (∀ H', W5 c d s l3 l4 l5 r0 r1 u0 u1 g0 g1 p0 p1 q0 q1 H' → Row5 s H' r p 60 ∧ Row5 s H' u q 120 ∧ PlO c H' g q) := by
  rcases h with rfl | rfl
  · exact ⟨r0, u0, g0, p0, q0, rfl, rfl, rfl, e0, f0, w.U0.pl, fun H' w => ⟨w.R0, w.U0, w.G0⟩⟩
  · exact ⟨r1, u1, g1, p1, q1, rfl, rfl, rfl, e1, f1, w.U1.pl, fun H' w => ⟨w.R1, w.U1, w.G1⟩⟩
theorem spans_ok (q : List PR) (h : q.length ≤ 20000) : (Dt.lst (q.map fun p => spanD p.1 p.2)).dep ≤ 5 ∧ (Dt.lst (q.map fun p => spanD p.1 p.2)).okd = true := by
  have d : ∀ q : List PR, Dt.depL (q.map fun p => spanD p.1 p.2) ≤ 1 ∧ Dt.okL (q.map fun p => spanD p.1 p.2) = true := fun q => by
    induction q with
    | nil => exact ⟨Nat.zero_le _, rfl⟩
    | cons p q ih =>
      rw [List.map_cons]
      constructor
      · have e : (spanD p.1 p.2).dep = 1 := rfl
        rw [Dt.depL, e]
        have := ih.1
        omega
      · rw [Dt.okL, ih.2]
        rfl
  constructor
  · rw [Dt.dep]
    have := (d q).1
    omega
  · rw [Dt.okd, (d q).2, List.length_map, decide_eq_true h]
    rfl
theorem pure_law05 {K : PySem.W.Frag} {c : Cl} {vs : List V} {H : Hp} {Q : VK} {E : XK} (h : sp_law05 K c vs H Q E) : t_l_law K c { nx := fun _ H' => Q .non H', rt := Q } (start N_l_law vs) H := by
  obtain ⟨a, ns, rfl, ha, hl, kk, k⟩ := h
  show t_l_law K c _ [some (.ref a), none, none, none, none, none, none, none, none, none, none, none] H
  unfold t_l_law
  fold_lay
  refine ⟨a, ns, rfl, ha, by omega, fun d s H1 hD1 k1 _ _ => ?_⟩
  clear ha hl
  fold_lay
  rename_i l hl
  have sl := same_new (o := .lst [.int 24, .int 60, .int ((10 : Int) ^ Int.toNat 9)]) hl
  refine c_among (hD1.same sl) upd_same (hD1.ne hl) (by simp) (by simp) fun v H2 hv hD2 s2 => ?_
  obtain ⟨m, rfl, m0, m1⟩ : ∃ m, v = .int m ∧ 1 ≤ m ∧ m ≤ 1000000000 := by
    have t9 : (10 : Int) ^ Int.toNat 9 = 1000000000 := by decide
    rw [t9] at hv
    simp only [List.mem_cons, List.not_mem_nil, or_false] at hv
    rcases hv with rfl | rfl | rfl
    · exact ⟨_, rfl, by decide, by decide⟩
    · exact ⟨_, rfl, by decide, by decide⟩
    · exact ⟨_, rfl, by decide, by decide⟩
  clear hv s2 sl hl hD1 k1
  fold_lay
  refine c_rng1 (by omega) (by omega) (m_rng (fun D i H' => Dr d s H' ∧ Same (hid s H2) (hid s H') ∧ H2 D = none ∧ ∃ gs : List (Addr × List PR), gs.length = i ∧ H' D = some (.lst (gs.map fun g => V.ref g.1)) ∧ ∀ g ∈ gs, Row5 s H' g.1 g.2 60 ∧ g.1 ≠ D) (fun D hD => ⟨hD2.same (same_new hD), hid_mono (same_new hD), hD, [], rfl, upd_same, fun _ m => by cases m⟩) ?_ ?_)
  · rintro D i H3 hi ⟨hD3, s3, d0, gs, gl, g3, all3⟩
    have nDs := hD2.ne d0
    fold_lay
    refine ⟨rfl, ?_⟩
    fold_lay
    refine c_count hD3 (by omega) (by omega) (by omega) fun n H4 n0 n1 hD4 s4 => ?_
    have g4 := hget s4 nDs g3
    fold_lay
    refine ⟨d, s, n, m, rfl, hD4, n0, by omega, m0, m1, fun r xs ps H5 hr hr5 hp pl ok hD5 s5 => ?_⟩
    have g5 := hget s5 nDs g4
    have rD : r ≠ D := fun e => by rw [e, g4] at hr; cases hr
    have row : Row5 s H5 r ps 60 := ⟨⟨xs, hr5, hp⟩, hD4.ne hr, fun p mp => by have := ok p mp; omega, pl⟩
    have s35 := s3.trans (s4.trans s5)
    refine ⟨_, g5, szl (by rw [List.length_map]; omega), dr_upd7 hD2 d0 hD5 s35, setS7 s35 d0, d0, gs ++ [(r, ps)], by rw [List.length_append, gl]; rfl, by rw [upd_same, List.map_append]; rfl, fun g mg => ?_⟩
    rcases List.mem_append.mp mg with mg | mg
    · obtain ⟨q1, q2⟩ := all3 g mg
      exact ⟨((q1.hid hD3 s4).hid hD4 s5).set g5 q2, q2⟩
    · rw [List.mem_singleton.mp mg]
      exact ⟨row.set g5 rD, rD⟩
  rintro l3 H3 ⟨hD3, s3, d0, gs, gl, h3, all3⟩
  obtain ⟨⟨r0, p0⟩, ⟨r1, p1⟩, rfl⟩ : ∃ g1 g2, gs = [g1, g2] := match gs, gl with
    | [g1, g2], _ => ⟨g1, g2, rfl⟩
  have n3 := hD2.ne d0
  have R0 := (all3 (r0, p0) List.mem_cons_self).1
  have R1 := (all3 (r1, p1) (List.mem_cons_of_mem _ List.mem_cons_self)).1
  have h3 : H3 l3 = some (.lst [.ref r0, .ref r1]) := h3
  clear all3 s3 hD2 d0 gl
  fold_lay
  have pick : ∀ {i : Nat} {y : V}, [V.ref r0, V.ref r1][i]? = some y → ∃ r p, y = .ref r ∧ [p0, p1][i]? = some p ∧ ∀ H', Same H3 H' → Row5 s H' r p 60 := fun {i y} e => match i, e with
    | 0, e => ⟨r0, p0, (Option.some.inj e).symm, rfl, fun _ k => R0.mono k⟩
    | 1, e => ⟨r1, p1, (Option.some.inj e).symm, rfl, fun _ k => R1.mono k⟩
  refine c_lst (sqL h3) (m_lst (xs := [.ref r0, .ref r1]) (fun D i H' => Same H3 H' ∧ H3 D = none ∧ ∃ gs : List (Addr × List PR), gs.length = i ∧ H' D = some (.lst (gs.map fun g => V.ref g.1)) ∧ ∀ (j : Nat) g p, gs[j]? = some g → [p0, p1][j]? = some p → Row5 s H' g.1 g.2 120 ∧ g.1 ≠ D ∧ RunsL g.2 ∧ ∀ x, inSp g.2 x ↔ inSp p x) (fun D hD => ⟨same_new hD, hD, [], rfl, upd_same, fun _ _ _ e => by cases e⟩) (fun D i H' _ h => sqL (h.1 _ _ h3)) ?_ ?_)
  · rintro D i y H' hy ⟨u1, u2, gs, gl, u3, u4⟩
    obtain ⟨r, p, rfl, ep, R⟩ := pick hy
    obtain ⟨⟨xs, e1, e2⟩, e3, e4, e5⟩ := R H' u1
    have il := (List.getElem?_eq_some_iff.mp hy).1
    simp only [List.length_cons, List.length_nil] at il
    fold_lay
    refine ⟨rfl, ?_⟩
    fold_lay
    refine ⟨r, xs, p, rfl, e1, e2, e4, e5, fun u zs q H4 hu hu4 pq rn same ql s4 => ?_⟩
    have g4 := s4 _ _ u3
    have uD : u ≠ D := fun e => by rw [e, u3] at hu; cases hu
    have us : u ≠ s := (hD3.same u1).ne hu
    have row : Row5 s H4 u q 120 := ⟨⟨zs, hu4, pq⟩, us, rn.ok, ql⟩
    refine ⟨_, g4, szl (by rw [List.length_map]; omega), same_step u2 (u1.trans s4), u2, gs ++ [(u, q)], by rw [List.length_append, gl]; rfl, by rw [upd_same, List.map_append]; rfl, fun j g p' e6 e7 => ?_⟩
    rcases Nat.lt_or_ge j gs.length with jl | jl
    · rw [List.getElem?_append_left jl] at e6
      obtain ⟨w1, w2, w3⟩ := u4 j g p' e6 e7
      exact ⟨(w1.mono s4).set g4 w2, w2, w3⟩
    · rw [List.getElem?_append_right jl] at e6
      obtain rfl : j = i := by
        have := (List.getElem?_eq_some_iff.mp e6).1
        simp only [List.length_cons, List.length_nil] at this
        omega
      rw [gl, Nat.sub_self] at e6
      cases e6
      obtain rfl : p = p' := Option.some.inj (ep.symm.trans e7)
      exact ⟨row.set g4 uD, uD, rn, same⟩
  rintro l4 H4 ⟨s4, d4, gs, gl, h4, all4⟩
  obtain ⟨⟨u0, q0⟩, ⟨u1, q1⟩, rfl⟩ : ∃ g1 g2, gs = [g1, g2] := match gs, gl with
    | [g1, g2], _ => ⟨g1, g2, rfl⟩
  obtain ⟨U0, _, e0, f0⟩ := all4 0 (u0, q0) p0 rfl rfl
  obtain ⟨U1, _, e1, f1⟩ := all4 1 (u1, q1) p1 rfl rfl
  have h4 : H4 l4 = some (.lst [.ref u0, .ref u1]) := h4
  have n4 := hD3.ne d4
  have hD4 := hD3.same s4
  have h34 := s4 _ _ h3
  have R0 := R0.mono s4
  have R1 := R1.mono s4
  clear all4 s4 d4 gl pick h3 hD3
  simp only at U0 U1 e0 e1 f0 f1
  have pick : ∀ {i : Nat} {y : V}, [V.ref r0, V.ref r1][i]? = some y → ∃ r p q, y = .ref r ∧ [q0, q1][i]? = some q ∧ RunsL q ∧ (∀ x, inSp q x ↔ inSp p x) ∧ ∀ H', Same H4 H' → Row5 s H' r p 60 := fun {i y} e => match i, e with
    | 0, e => ⟨r0, p0, q0, (Option.some.inj e).symm, rfl, e0, f0, fun _ k => R0.mono k⟩
    | 1, e => ⟨r1, p1, q1, (Option.some.inj e).symm, rfl, e1, f1, fun _ k => R1.mono k⟩
  fold_lay
  refine c_lst (sqL h34) (m_lst (xs := [.ref r0, .ref r1]) (fun D i H' => Same H4 H' ∧ H4 D = none ∧ ∃ gs : List Addr, gs.length = i ∧ H' D = some (.lst (gs.map V.ref)) ∧ ∀ (j : Nat) g q, gs[j]? = some g → [q0, q1][j]? = some q → PlO c H' g q) (fun D hD => ⟨same_new hD, hD, [], rfl, upd_same, fun _ _ _ e => by cases e⟩) (fun D i H' _ h => sqL (h.1 _ _ h34)) ?_ ?_)
  · rintro D i y H' hy ⟨v1, v2, gs, gl, v3, v4⟩
    obtain ⟨r, p, q, rfl, eq, rnq, same, R⟩ := pick hy
    obtain ⟨⟨xs, w1, w2⟩, w3, w4, w5⟩ := R H' v1
    have il := (List.getElem?_eq_some_iff.mp hy).1
    simp only [List.length_cons, List.length_nil] at il
    fold_lay
    refine ⟨rfl, ?_⟩
    fold_lay
    refine ⟨r, xs, rfl, .inl (sqL w1), fun l2 hl2 => ?_⟩
    have s2 := same_new (o := .lst xs) hl2
    have g2 : upd H' l2 (.lst xs) l2 = some (.lst xs) := upd_same
    generalize upd H' l2 (.lst xs) = H5 at s2 g2
    fold_lay
    intro x dx hx hdx nx'
    refine places_made5 kk.pl g2 (w2.mono s2) w4 (by omega) hx hdx nx' fun rs H6 s6 hP rn sm rl => ⟨rfl, ?_⟩
    obtain rfl : rs = q := runs_uniq rn rnq fun x => (sm x).trans (same x).symm
    have s26 := s2.trans s6
    have gD := s26 _ _ v3
    refine ⟨_, gD, szl (by rw [List.length_map]; omega), same_step v2 (v1.trans s26), v2, gs ++ [x], by rw [List.length_append, gl]; rfl, by rw [upd_same, List.map_append]; rfl, fun j g q' e6 e7 => ?_⟩
    rcases Nat.lt_or_ge j gs.length with jl | jl
    · rw [List.getElem?_append_left jl] at e6
      exact ((v4 j g q' e6 e7).mono s26).set5 gD
    · rw [List.getElem?_append_right jl] at e6
      obtain rfl : j = i := by
        have := (List.getElem?_eq_some_iff.mp e6).1
        simp only [List.length_cons, List.length_nil] at this
        omega
      rw [gl, Nat.sub_self] at e6
      cases e6
      obtain rfl : rs = q' := Option.some.inj (eq.symm.trans e7)
      exact hP.set5 gD
  rintro l5 H5 ⟨s5, d5, gs, gl, h5, all5⟩
  obtain ⟨g0, g1, rfl⟩ : ∃ g1 g2, gs = [g1, g2] := match gs, gl with
    | [g1, g2], _ => ⟨g1, g2, rfl⟩
  have n5 := hD4.ne d5
  have W : W5 c d s l3 l4 l5 r0 r1 u0 u1 g0 g1 p0 p1 q0 q1 H5 := ⟨hD4.same s5, s5 _ _ h34, s5 _ _ h4, h5, R0.mono s5, R1.mono s5, U0.mono s5, U1.mono s5, all5 0 g0 q0 rfl rfl, all5 1 g1 q1 rfl rfl⟩
  have st : ∀ {H' H'' : Hp}, W5 c d s l3 l4 l5 r0 r1 u0 u1 g0 g1 p0 p1 q0 q1 H' → Dr d s H'' → Same (hid s H') (hid s H'') → W5 c d s l3 l4 l5 r0 r1 u0 u1 g0 g1 p0 p1 q0 q1 H'' := fun w D' k => w.st n3 n4 n5 D' k
  have stS : ∀ {H' H'' : Hp}, W5 c d s l3 l4 l5 r0 r1 u0 u1 g0 g1 p0 p1 q0 q1 H' → Same H' H'' → W5 c d s l3 l4 l5 r0 r1 u0 u1 g0 g1 p0 p1 q0 q1 H'' := fun w k => st w (w.D.same k) (hid_mono k)
  clear h34 h4 h5 R0 R1 U0 U1 all5 s5 d5 gl pick hD4
  fold_lay
  refine i_cut (fun σ' H' => W5 c d s l3 l4 l5 r0 r1 u0 u1 g0 g1 p0 p1 q0 q1 H' ∧ ∃ z al y8 y9, Ask5 z al ∧ σ' = [some (.ref a), some (.ref d), some (.int m), some (.ref l3), some (.ref l4), some (.ref l5), some (.int z), some (.int al), y8, y9, none, none]) ?_ (fun nx key => ?_)
  rotate_left
  · fold_lay
    refine f_rng1 (by omega) (by omega) (l_rng (fun i σ' H' => W5 c d s l3 l4 l5 r0 r1 u0 u1 g0 g1 p0 p1 q0 q1 H' ∧ ∃ z al y8 y9, Ask5 z al ∧ σ' = [some (.ref a), some (.ref d), some (.int m), some (.ref l3), some (.ref l4), some (.ref l5), some (.int z), some (.int al), y8, y9, none, none]) ⟨W, 1, 1, _, _, ⟨by omega, by omega, ⟨0, rfl⟩, by omega⟩, rfl⟩ ?_ ?_)
    · rintro i σ' H6 hi ⟨W6, z, al, y8, y9, A, rfl⟩
      fold_lay
      obtain ⟨r, u, g, p, q, i3, i4, i5, rnq, sm, ql, get⟩ := W6.at e0 e1 f0 f1 (k := (0 + (i : Int)) % 2) (by omega)
      obtain ⟨r', u', g', p', q', j3, j4, j5, rnq', sm', ql', get'⟩ := W6.at e0 e1 f0 f1 (k := 1 - (0 + (i : Int)) % 2) (by omega)
      refine i_ixL (sqL W6.h4) i4 ?_
      obtain ⟨_, ⟨⟨zs, x1, x2⟩, x3, x4, x5⟩, _⟩ := get _ W6
      refine ⟨d, s, u, zs, q, rfl, W6.D, x1, x3, x2, x4, x5, fun z' H7 z0 z1 hD7 s7 => ?_⟩
      have W7 := st W6 hD7 s7
      fold_lay
      refine c_take hD7 (by omega) fun v H8 v0 v1 hD8 s8 => ?_
      have W8 := st W7 hD8 s8
      have cd : CDivW v 7 := cdiv (by omega) (by omega)
      fold_lay
      refine c_alignment hD8 (by omega) (by omega) fun kx H9 k0 hD9 s9 => ?_
      have W9 := st W8 hD9 s9
      have A' : Ask5 z' (2 ^ kx) := ⟨z0, z1, ⟨kx, rfl⟩, by
        have := Nat.pow_le_pow_right (n := 2) (by omega) (show kx ≤ 30 by omega)
        have e : ((2 ^ kx : Nat) : Int) = (2 : Int) ^ kx := by simp
        omega⟩
      generalize (2 : Int) ^ kx = al' at *
      clear W6 W7 W8 x1 x2 x3 x4 x5 s7 s8 s9 hD7 hD8 cd v0 v1 k0 A z0 z1
      fold_lay
      fold_depth
      refine i_ixL (sqL W9.h5) i5 ?_
      fold_lay
      refine i_ixL (sqL W9.h3) i3 ?_
      obtain ⟨⟨⟨xs, y1, y2⟩, y3, y4, y5⟩, _, y6⟩ := get _ W9
      fold_lay
      refine ⟨g, r, xs, p, q, z', al', rfl, y6, rnq, kk, y1, y2, y4, y5, sm, A', fun H10 s10 => ?_⟩
      have W10 := stS W9 s10
      clear y1 y2 y3 y4 y5 y6 W9 s10
      fold_lay
      fold_depth
      refine i_ixL (sqL W10.h5) j5 ?_
      fold_lay
      refine i_ixL (sqL W10.h3) j3 ?_
      obtain ⟨⟨⟨xs, y1, y2⟩, y3, y4, y5⟩, _, y6⟩ := get' _ W10
      fold_lay
      refine ⟨g', r', xs, p', q', z', al', rfl, y6, rnq', kk, y1, y2, y4, y5, sm', A', fun H11 s11 => ?_⟩
      have W11 := stS W10 s11
      clear y1 y2 y3 y4 y5 y6 W10 s11
      fold_lay
      refine i_ixL (sqL W11.h5) i5 ?_
      fold_lay
      refine i_ixL (sqL W11.h4) i4 ?_
      fold_lay
      refine i_ixL (sqL W11.h4) i4 ?_
      obtain ⟨_, ⟨⟨zs, x1, x2⟩, x3, x4, x5⟩, _⟩ := get _ W11
      refine ⟨d, s, u, zs, q, rfl, W11.D, x1, x3, x2, x4, x5, fun lt ts qs H12 ht pt okt _ hD12 s12 => ?_⟩
      have W12 := st W11 hD12 s12
      obtain ⟨_, ⟨⟨zs2, w1, w2⟩, _⟩, w6⟩ := get _ W12
      fold_lay
      refine ⟨g, u, lt, zs2, ts, q, qs, rfl, w6, rnq, by omega, kk, w1, w2, ht, pt, okt, fun H13 s13 => ?_⟩
      fold_lay
      exact ⟨stS W12 s13, z', al', _, _, A', rfl⟩
    · rintro σ' H6 ⟨W6, z, al, y8, y9, A, rfl⟩
      exact key _ _ ⟨W6, z, al, _, _, A, rfl⟩
  rintro σ' H6 ⟨W6, z, al, y8, y9, A, rfl⟩
  fold_lay
  fold_depth
  refine i_ixL (sqL W6.h5) (at_of (j := 0) (by omega) rfl) ?_
  fold_lay
  refine ⟨d, s, g0, q0, z, al, rfl, W6.D, W6.G0, kk, A, fun H7 hD7 s7 => ?_⟩
  have W7 := st W6 hD7 s7
  clear W6 s7
  fold_lay
  refine i_ixL (sqL W7.h5) (at_of (j := 0) (by omega) rfl) ?_
  fold_lay
  refine i_ixL (sqL W7.h3) (at_of (j := 0) (by omega) rfl) ?_
  obtain ⟨⟨xs, y1, y2⟩, y3, y4, y5⟩ := W7.R0
  fold_lay
  refine ⟨g0, r0, xs, p0, q0, z, al, rfl, W7.G0, e0, kk, y1, y2, y4, y5, f0, A, fun H8 s8 => ?_⟩
  have W8 := stS W7 s8
  clear y1 y2 y3 y4 y5 W7 s8
  fold_lay
  refine i_ixL (sqL W8.h5) (at_of (j := 0) (by omega) rfl) ?_
  obtain ⟨dx, tp, fs0, x1, x2, x3⟩ := W8.G0.ex
  fold_lay
  refine ⟨g0, dx, _, rfl, x1, g0, q0, rfl, W8.G0, kk.pl, fun sp fs hsp hfs => ?_⟩
  have T1 := same_new (o := .lst fs) hsp
  have W9 := stS W8 T1
  have gs9 : upd H8 sp (.lst fs) sp = some (.lst fs) := upd_same
  have hfs := hfs.mono T1
  generalize upd H8 sp (.lst fs) = H9 at *
  obtain ⟨⟨zs, z1, z2⟩, z3, z4, z5⟩ := W9.U0
  fold_lay
  refine i_ixL (sqL W9.h4) (at_of (j := 0) (by omega) rfl) ?_
  fold_lay
  have dk := spans_ok q0 (by omega)
  exact c_same (E := E0) (.lst gs9 hfs.ats) (.lst z1 z2.ats) dk.1 dk.2 fun H10 _ => k H10
/-! ## Rules3 -/
/-! ### try with three clauses -/
section
variable {X : Cx} {x n x2 n2 x3 n3 : Str} {c c2 c3 : Value} {i i2 i3 : Nat} {body suite suite2 suite3 : List Stmt} {b₀ b₂ b₃ : Stmt} {np pos pos' np2 pos2' np3 pos3' : Pos} {tb : WX → TS} {ts ts2 ts3 : TS} {Wout : WX} {pins : List (Addr × Obj)} {D : Ends}
theorem caught3 (hs : X.stack = X.env :: X.outer) (hf : X.env.frame = some X.env.locals) (hex : X.ex = []) (hN : X.N.Nodup) (hi : X.N[i]? = some n) (hln : X.env.kindOf n = some .local) (hc : Names X x c) (hi2 : X.N[i2]? = some n2) (hln2 : X.env.kindOf n2 = some .local) (hc2 : Names X x2 c2) (hi3 : X.N[i3]? = some n3) (hln3 : X.env.kindOf n3 = some .local) (hc3 : Names X x3 c3) (tk : L2N.Takes X Wout)
    (hsu : ∀ (a : Addr) (pn : List (Addr × Obj)), PSs (X.suite a pn) (b₀ :: suite) ts) (hsu2 : ∀ (a : Addr) (pn : List (Addr × Obj)), PSs (X.suite a pn) (b₂ :: suite2) ts2) (hsu3 : ∀ (a : Addr) (pn : List (Addr × Obj)), PSs (X.suite a pn) (b₃ :: suite3) ts3) (okX : X.Ok) {ev : Value} {sE : Shared} {xe : Value → Shared → Prop} (air : L2N.XE (X.tr (X.pn ++ pins) xe) (wAsT X.K c i ts (wAsT X.K c2 i2 ts2 (wAsT X.K c3 i3 ts3 Wout D) D) D) ev sE) :
    wpAny (model X.prog X.w) X.A (noteFrame ev X.env) (fun _ s2 => wpAny (model X.prog X.w) X.A (setFlight ev none) (fun _ s3 => wpAny (model X.prog X.w) X.A (handleBy ev X.env [.ExceptHandler (some (.Name x np)) (some n) (b₀ :: suite) pos', .ExceptHandler (some (.Name x2 np2)) (some n2) (b₂ :: suite2) pos2', .ExceptHandler (some (.Name x3 np3)) (some n3) (b₃ :: suite3) pos3']) (SP X pins D) X.xe s3) X.xe s2) X.xe sE := by
  obtain ⟨ea, gr, sG, pG, σ1, H1, cls, dd, rfl, J1, inB, lift, sky, unk, eos, ebare, yes, hyes, hout, hin⟩ := air
  have J : Inv X pins σ1 H1 sG := J1.ofTry okX
  rw [show (X.tr (X.pn ++ pins) xe).stack = X.env :: X.outer from hs] at inB sky
  have frm : X.A.frames = some (X.env :: X.outer) := hs ▸ okX.frames
  have inB' : ∀ b o, sG.heap.get? b = some o → b ∉ frs X.stack → gr.get? b = some o := by rw [hs]; exact inB
  refine L2N.Sky.land L2N.Zn.steady frm hf sky fun hA flA upA => ?_
  obtain ⟨obA, fvA, getA, zA, dA⟩ := flA.there
  have offFr : ea ∉ frs (X.env :: X.outer) := fun hm => (flA.2.2.1.mem hm).elim fun _ ⟨o', e', hn⟩ => by
    rw [getA] at e'
    cases e'
    exact hn _ dA
  have offL : ea ≠ X.env.locals := fun z => offFr (List.mem_filterMap.mpr ⟨X.env, List.mem_cons_self, z ▸ hf⟩)
  have offF : ea ∉ X.fs := fun hm => offFr ((List.mem_filterMap.mp hm).elim fun e ⟨he, q⟩ => List.mem_filterMap.mpr ⟨e, List.mem_cons_of_mem _ he, q⟩)
  have newG : sG.heap.get? ea = none := by
    cases e : sG.heap.get? ea with
    | none => rfl
    | some o => exact absurd ((inB ea o e offFr).symm.trans flA.2.1) (by simp)
  have new0 : X.s_0.heap.get? ea = none := by
    cases e : X.s_0.heap.get? ea with
    | none => rfl
    | some o => exact (J.base.there ea o e (by rw [hex]; simp)).elim fun o' q => absurd (q.symm.trans newG) (by simp)
  have off : ∀ p ∈ X.pn ++ pins, p.1 ≠ ea := fun p hp z => absurd ((J.pin p hp).1.symm.trans (z ▸ newG)) (by simp)
  have JA : Inv X pins σ1 H1 { sE with heap := hA } := J.landed inB' flA.1 (lift.trans upA) eos ebare
  have SA := JA.suite getA dA unk offL offF
  have clsOf : PySem.W.Looks (model X.prog X.w) hA (typeOf (.ref ea)) cls := fun _ _ _ _ k q => wpAny_typeOf_ref (k _ _ getA) (by rw [zA.1]; exact q)
  have step : ∀ (x n : Str) (c : Value) (i : Nat) (b₀ : Stmt) (suite : List Stmt) (np pos' : Pos) (ts : TS) (rest : List _) (yes : Bool), X.N[i]? = some n → X.env.kindOf n = some .local → Names X x c → (∀ (a : Addr) (pn : List (Addr × Obj)), PSs (X.suite a pn) (b₀ :: suite) ts) → PySem.W.exmOne X.K cls c = some yes →
      (yes = false → wpAny (model X.prog X.w) X.A (handleBy (.ref ea) X.env rest) (SP X pins D) X.xe { sE with heap := hA }) →
      (yes = true → ∀ a, H1 a = none → ts ⟨fun σ' H' => D.nx (σ'.set i none) H', D.rt, fun σ' H' => D.bk (σ'.set i none) H', fun σ' H' => D.ct (σ'.set i none) H'⟩ (σ1.set i (some (.ref a))) (upd H1 a (exi a cls dd))) →
      wpAny (model X.prog X.w) X.A (handleBy (.ref ea) X.env (.ExceptHandler (some (.Name x np)) (some n) (b₀ :: suite) pos' :: rest)) (SP X pins D) X.xe { sE with heap := hA } := by
    intro x n c i b₀ suite np pos' ts rest yes hi hln hc hsu hyes hout hin
    refine wpAny_handleBy_cons (codeAny_handlers_test ?_) (fun q => nomatch q)
    have look : ∀ {Q : Value → Shared → Prop} {E : Value → Shared → Prop}, Q c { sE with heap := hA } → wpAny (model X.prog X.w) (X.A.mark (some (.ref ea))) (eval (.Name x np) X.env) Q E { sE with heap := hA } := fun {Q E} q => by
      rcases hc with ⟨hg, hdb, hm | ⟨hm, hv, hnn⟩⟩
      · exact ld_glob (X := X.suite ea ((ea, obA) :: (X.pn ++ pins))) SA hg hm q hdb
      · exact ld_blt (X := X.suite ea ((ea, obA) :: (X.pn ++ pins))) SA hg hm hv q hnn hdb
    refine look ((PySem.W.exm_one (M := model X.prog X.w) JA.kIn clsOf hyes).here ?_)
    cases yes with
    | false => exact hout rfl
    | true =>
      refine codeAny_handlers_suite_as (HandSPX.lands_againZ flA fun hB flB upB => ?_)
      obtain ⟨obB, fvB, getB, zB, dB⟩ := flB.there
      have SB := (J.landed (s' := { sE with heap := hB }) inB' flB.1 ((lift.trans upA).trans upB) eos ebare).suite getB dB unk offL offF
      refine store_ok (X := X.suite ea ((ea, obB) :: (X.pn ++ pins))) (v := .ref ea) SB hN hi (.inl hln) rfl (fun s5 S5 => ?_) (.inr hln)
      refine wpAny_mono ((hsu ea (X.pn ++ pins)).run [] s5 _ _ _ (track okX S5 new0 off zB ⟨_, dB⟩) (hin rfl ea unk)) (fun fl s6 r6 => ?_) (fun _ _ z => z.elim)
      have shut : ∀ {σ6 : St} {H6 : Hp} {R : Shared → Prop}, Inv (X.suite ea (X.pn ++ pins)) [] σ6 H6 s6 → (∀ s7, Inv X pins (σ6.set i none) H6 s7 → R s7) →
          wpAny (model X.prog X.w) X.A (do bindName X.env n .none; unbindBehindTheSuite X.env n pos') (fun _ s7 => R s7) X.xe s6 := fun S6 hR => gone_ok (unsuite0 S6 okX) hN hi hln hR
      cases fl with
      | ret u => exact r6.elim fun v ⟨_, _, S6, rv, q⟩ => shut S6 fun _ J7 => ⟨v, _, _, J7, rv, q⟩
      | _ => exact r6.elim fun _ ⟨_, S6, q⟩ => shut S6 fun _ J7 => ⟨_, _, J7, q⟩
  refine step x n c i b₀ suite np pos' ts _ yes hi hln hc hsu hyes (fun h => ?_) hin
  obtain ⟨yes2, hyes2, hout2, hin2⟩ := hout h
  refine step x2 n2 c2 i2 b₂ suite2 np2 pos2' ts2 _ yes2 hi2 hln2 hc2 hsu2 hyes2 (fun h2 => ?_) hin2
  obtain ⟨yes3, hyes3, hout3, hin3⟩ := hout2 h2
  refine step x3 n3 c3 i3 b₃ suite3 np3 pos3' ts3 [] yes3 hi3 hln3 hc3 hsu3 hyes3 (fun h3 => ?_) hin3
  refine wpAny_handleBy_nil ?_
  obtain ⟨_, _, _, ob, fv, tr, _, _, e1, _, e3, e4, _⟩ := id flA
  have up : wpAny (model X.prog X.w) X.A (setFlight (.ref ea) X.env.frame) (fun _ s4 => wpAny (model X.prog X.w) X.A (throw (.ref ea) : Sem Flow) (SP X pins D) X.xe s4) X.xe { sE with heap := hA } := by
    rw [hf]
    exact HandSPX.setFlight_upZ flA fun h4 held u4 => wpAny_throw (tk _ _ ⟨ea, gr, sG, pins, σ1, H1, cls, dd, rfl, J, inB', (lift.trans upA).trans u4, .inr (.inr (by rw [hs]; exact held)), unk, eos, ebare, hout3 h3⟩)
  unfold PySem.passOn
  refine wpAny_bind (wpAny_field e1 e3 e4 ?_)
  rw [if_neg (show ¬ ((Value.ref tr == Value.none) = true) by simp)]
  first
    | exact wpAny_bind up
    | exact wpAny_bind (wpAny_pure (wpAny_bind up))
theorem ps_try_asT3 (hs : X.stack = X.env :: X.outer) (hf : X.env.frame = some X.env.locals) (hex : X.ex = []) (hN : X.N.Nodup) (hi : X.N[i]? = some n) (hln : X.env.kindOf n = some .local) (hc : Names X x c) (hi2 : X.N[i2]? = some n2) (hln2 : X.env.kindOf n2 = some .local) (hc2 : Names X x2 c2) (hi3 : X.N[i3]? = some n3) (hln3 : X.env.kindOf n3 = some .local) (hc3 : Names X x3 c3) (tk : L2N.Takes X Wout)
    (bod : ∀ (W : WX) (pn : List (Addr × Obj)) (xe : Value → Shared → Prop), L2N.Takes (X.tr pn xe) W → PassesOwn (model X.prog X.w) X.A X.env xe → PSs (X.tr pn xe) body (tb W))
    (hsu : ∀ (a : Addr) (pn : List (Addr × Obj)), PSs (X.suite a pn) (b₀ :: suite) ts) (hsu2 : ∀ (a : Addr) (pn : List (Addr × Obj)), PSs (X.suite a pn) (b₂ :: suite2) ts2) (hsu3 : ∀ (a : Addr) (pn : List (Addr × Obj)), PSs (X.suite a pn) (b₃ :: suite3) ts3) :
    PS X (.Try body [.ExceptHandler (some (.Name x np)) (some n) (b₀ :: suite) pos', .ExceptHandler (some (.Name x2 np2)) (some n2) (b₂ :: suite2) pos2', .ExceptHandler (some (.Name x3 np3)) (some n3) (b₃ :: suite3) pos3'] [] [] pos) (fun D σ H => tb (wAsT X.K c i ts (wAsT X.K c2 i2 ts2 (wAsT X.K c3 i3 ts3 Wout D) D) D) D σ H) := by
  constructor
  intro pins s σ H D I h
  have okX := I.ok
  refine wpAny_Try_except (wpAny_mono ((bod (wAsT X.K c i ts (wAsT X.K c2 i2 ts2 (wAsT X.K c3 i3 ts3 Wout D) D) D) (X.pn ++ pins) _ (fun u s' z => caught3 hs hf hex hN hi hln hc hi2 hln2 hc2 hi3 hln3 hc3 tk hsu hsu2 hsu3 okX z) PassesOwn.looking).run [] s σ H D (I.toTry _) h) (fun fl s1 r => ?_) (fun _ _ z => z))
  cases fl with
  | next => exact r.elim fun _ ⟨_, J, q⟩ => wpAny_execs_nil ⟨_, _, J.ofTry okX, q⟩
  | ret u => exact r.elim fun v ⟨_, _, J, rv, q⟩ => ⟨v, _, _, J.ofTry okX, rv, q⟩
  | _ => exact r.elim fun _ ⟨_, J, q⟩ => ⟨_, _, J.ofTry okX, q⟩
end
/-- try: .. except C as n: .. except C2 as n2: .. except C3 as n3: .. -/
def tTryT3 (K : PySem.W.Frag) (c : Value) (i : Nat) (c2 : Value) (i2 : Nat) (c3 : Value) (i3 : Nat) (tb : WX → TS) (ts ts2 ts3 : TS) (Wout : WX) : TS := fun D σ H => tb (wAsT K c i ts (wAsT K c2 i2 ts2 (wAsT K c3 i3 ts3 Wout D) D) D) D σ H
instance s_try3 {K : PySem.W.Frag} {c c2 c3 : Value} {i i2 i3 : Nat} {tb : WX → TS} {ts ts2 ts3 : TS} {Wout : WX} {D : Ends} {σ : St} {H : Hp} : Stp (tTryT3 K c i c2 i2 c3 i3 tb ts ts2 ts3 Wout D σ H) (tb (wAsT K c i ts (wAsT K c2 i2 ts2 (wAsT K c3 i3 ts3 Wout D) D) D) D σ H) := ⟨fun h => h⟩
/-- a def with positional defaults that are all written over -/
structure DfD (K : PySem.W.Frag) (x qual : Str) (st : Stmt) (ps : List Str) (f : Addr) (fd : FuncData) : Prop where
  fn : ∃ dvs : List V, FunD K x qual (defArgs st) (defBody st) (defScope st) dvs [] f fd
  bd : Binds K fd ps []
end Gv
namespace K05
open PySem L2 Gv PySem.Spec PyProof.Rows
def top (i : Nat) : Stmt := PySem.Challenge.pw_allgivenback_k05_starts.main.body.getD i (.Pass ⟨0, 0, 0, 0⟩)
abbrev s_c_BadValue_init : Stmt := inClass (top 3) 0
theorem sc_c_BadValue_init : FnScope N_c_BadValue_init ["self", "parameter"] (defScope s_c_BadValue_init) := ⟨rfl, rfl, rfl, by decide +kernel, rfl, by decide +kernel, by decide +kernel⟩
abbrev s_p_is_whole : Stmt := top 11
theorem sc_p_is_whole : FnScope N_p_is_whole ["value"] (defScope s_p_is_whole) := ⟨rfl, rfl, rfl, by decide +kernel, rfl, by decide +kernel, by decide +kernel⟩
abbrev s_p_whole_between : Stmt := top 12
theorem sc_p_whole_between : FnScope N_p_whole_between ["value", "low", "high"] (defScope s_p_whole_between) := ⟨rfl, rfl, rfl, by decide +kernel, rfl, by decide +kernel, by decide +kernel⟩
abbrev s_p_is_span : Stmt := top 16
theorem sc_p_is_span : FnScope N_p_is_span ["value"] (defScope s_p_is_span) := ⟨rfl, rfl, rfl, by decide +kernel, rfl, by decide +kernel, by decide +kernel⟩
abbrev s_p_is_power : Stmt := top 17
theorem sc_p_is_power : FnScope N_p_is_power ["value"] (defScope s_p_is_power) := ⟨rfl, rfl, rfl, by decide +kernel, rfl, by decide +kernel, by decide +kernel⟩
abbrev s_p_is_align : Stmt := top 18
theorem sc_p_is_align : FnScope N_p_is_align ["value", "most"] (defScope s_p_is_align) := ⟨rfl, rfl, rfl, by decide +kernel, rfl, by decide +kernel, by decide +kernel⟩
abbrev s_p_align_up : Stmt := top 19
theorem sc_p_align_up : FnScope N_p_align_up ["number", "align"] (defScope s_p_align_up) := ⟨rfl, rfl, rfl, by decide +kernel, rfl, by decide +kernel, by decide +kernel⟩
abbrev s_p_joined_rows : Stmt := top 22
theorem sc_p_joined_rows : FnScope N_p_joined_rows ["rows"] (defScope s_p_joined_rows) := ⟨rfl, rfl, rfl, by decide +kernel, rfl, by decide +kernel, by decide +kernel⟩
abbrev s_p_span_from : Stmt := top 25
theorem sc_p_span_from : FnScope N_p_span_from ["rows", "place"] (defScope s_p_span_from) := ⟨rfl, rfl, rfl, by decide +kernel, rfl, by decide +kernel, by decide +kernel⟩
abbrev s_p_start_within : Stmt := top 26
theorem sc_p_start_within : FnScope N_p_start_within ["span", "size", "align"] (defScope s_p_start_within) := ⟨rfl, rfl, rfl, by decide +kernel, rfl, by decide +kernel, by decide +kernel⟩
abbrev s_p_check_wish : Stmt := top 27
theorem sc_p_check_wish : FnScope N_p_check_wish ["size", "align"] (defScope s_p_check_wish) := ⟨rfl, rfl, rfl, by decide +kernel, rfl, by decide +kernel, by decide +kernel⟩
abbrev s_c_Places_init : Stmt := inClass (top 29) 0
theorem sc_c_Places_init : FnScope N_c_Places_init ["self", "spans"] (defScope s_c_Places_init) := ⟨rfl, rfl, rfl, by decide +kernel, rfl, by decide +kernel, by decide +kernel⟩
abbrev s_c_Places_spans : Stmt := inClass (top 29) 1
theorem sc_c_Places_spans : FnScope N_c_Places_spans ["self"] (defScope s_c_Places_spans) := ⟨rfl, rfl, rfl, by decide +kernel, rfl, by decide +kernel, by decide +kernel⟩
abbrev s_c_Places_covers : Stmt := inClass (top 29) 10
theorem sc_c_Places_covers : FnScope N_c_Places_covers ["self", "span"] (defScope s_c_Places_covers) := ⟨rfl, rfl, rfl, by decide +kernel, rfl, by decide +kernel, by decide +kernel⟩
abbrev s_c_Places_first_start : Stmt := inClass (top 29) 11
theorem sc_c_Places_first_start : FnScope N_c_Places_first_start ["self", "size", "align"] (defScope s_c_Places_first_start) := ⟨rfl, rfl, rfl, by decide +kernel, rfl, by decide +kernel, by decide +kernel⟩
abbrev s_c_Places_best_start : Stmt := inClass (top 29) 12
theorem sc_c_Places_best_start : FnScope N_c_Places_best_start ["self", "size", "align"] (defScope s_c_Places_best_start) := ⟨rfl, rfl, rfl, by decide +kernel, rfl, by decide +kernel, by decide +kernel⟩
abbrev s_l_draws : Stmt := top 31
theorem sc_l_draws : FnScope N_l_draws ["_law_script"] (defScope s_l_draws) := ⟨rfl, rfl, rfl, by decide +kernel, rfl, by decide +kernel, by decide +kernel⟩
abbrev s_l_next_cell : Stmt := top 32
theorem sc_l_next_cell : FnScope N_l_next_cell ["_law_draws_here"] (defScope s_l_next_cell) := ⟨rfl, rfl, rfl, by decide +kernel, rfl, by decide +kernel, by decide +kernel⟩
abbrev s_l_mixed : Stmt := top 33
theorem sc_l_mixed : FnScope N_l_mixed ["_law_seed", "_law_turn", "_law_many"] (defScope s_l_mixed) := ⟨rfl, rfl, rfl, by decide +kernel, rfl, by decide +kernel, by decide +kernel⟩
abbrev s_l_take : Stmt := top 34
theorem sc_l_take : FnScope N_l_take ["_law_draws_here", "_law_many"] (defScope s_l_take) := ⟨rfl, rfl, rfl, by decide +kernel, rfl, by decide +kernel, by decide +kernel⟩
abbrev s_l_among : Stmt := top 35
theorem sc_l_among : FnScope N_l_among ["_law_draws_here", "_law_row"] (defScope s_l_among) := ⟨rfl, rfl, rfl, by decide +kernel, rfl, by decide +kernel, by decide +kernel⟩
abbrev s_l_between : Stmt := top 36
theorem sc_l_between : FnScope N_l_between ["_law_draws_here", "_law_low", "_law_high"] (defScope s_l_between) := ⟨rfl, rfl, rfl, by decide +kernel, rfl, by decide +kernel, by decide +kernel⟩
abbrev s_l_number : Stmt := top 37
theorem sc_l_number : FnScope N_l_number ["_law_draws_here", "_law_low", "_law_high"] (defScope s_l_number) := ⟨rfl, rfl, rfl, by decide +kernel, rfl, by decide +kernel, by decide +kernel⟩
abbrev s_l_count : Stmt := top 38
theorem sc_l_count : FnScope N_l_count ["_law_draws_here", "_law_small", "_law_great"] (defScope s_l_count) := ⟨rfl, rfl, rfl, by decide +kernel, rfl, by decide +kernel, by decide +kernel⟩
abbrev s_l_alignment : Stmt := top 39
theorem sc_l_alignment : FnScope N_l_alignment ["_law_draws_here", "_law_most"] (defScope s_l_alignment) := ⟨rfl, rfl, rfl, by decide +kernel, rfl, by decide +kernel, by decide +kernel⟩
abbrev s_l_up : Stmt := top 40
theorem sc_l_up : FnScope N_l_up7 ["_law_number_here", "_law_alignment_here"] (defScope s_l_up) := ⟨rfl, rfl, rfl, by decide +kernel, rfl, by decide +kernel, by decide +kernel⟩
abbrev s_l_long : Stmt := top 41
theorem sc_l_long : FnScope N_l_long [] (defScope s_l_long) := ⟨rfl, rfl, rfl, by decide +kernel, rfl, by decide +kernel, by decide +kernel⟩
abbrev s_l_not_integer : Stmt := top 42
theorem sc_l_not_integer : FnScope N_l_not_integer ["_law_draws_here"] (defScope s_l_not_integer) := ⟨rfl, rfl, rfl, by decide +kernel, rfl, by decide +kernel, by decide +kernel⟩
abbrev s_l_not_within : Stmt := top 43
theorem sc_l_not_within : FnScope N_l_not_within ["_law_draws_here", "_law_low", "_law_high"] (defScope s_l_not_within) := ⟨rfl, rfl, rfl, by decide +kernel, rfl, by decide +kernel, by decide +kernel⟩
abbrev s_l_not_alignment : Stmt := top 44
theorem sc_l_not_alignment : FnScope N_l_not_alignment ["_law_draws_here", "_law_most"] (defScope s_l_not_alignment) := ⟨rfl, rfl, rfl, by decide +kernel, rfl, by decide +kernel, by decide +kernel⟩
abbrev s_l_same : Stmt := top 45
theorem sc_l_same : FnScope N_l_same ["_law_actual", "_law_expected"] (defScope s_l_same) := ⟨rfl, rfl, rfl, by decide +kernel, rfl, by decide +kernel, by decide +kernel⟩
abbrev s_l_copy : Stmt := top 46
theorem sc_l_copy : FnScope N_l_copy ["_law_value"] (defScope s_l_copy) := ⟨rfl, rfl, rfl, by decide +kernel, rfl, by decide +kernel, by decide +kernel⟩
abbrev s_l_span : Stmt := top 47
theorem sc_l_span : FnScope N_l_span5 ["_law_draws_here", "_law_most"] (defScope s_l_span) := ⟨rfl, rfl, rfl, by decide +kernel, rfl, by decide +kernel, by decide +kernel⟩
abbrev s_l_spans : Stmt := top 48
theorem sc_l_spans : FnScope N_l_spans ["_law_draws_here", "_law_count_here", "_law_most"] (defScope s_l_spans) := ⟨rfl, rfl, rfl, by decide +kernel, rfl, by decide +kernel, by decide +kernel⟩
abbrev s_l_start_due : Stmt := top 49
theorem sc_l_start_due : FnScope N_l_start_due ["_law_spans_here", "_law_size_here", "_law_alignment_here", "_law_best"] (defScope s_l_start_due) := ⟨rfl, rfl, rfl, by decide +kernel, rfl, by decide +kernel, by decide +kernel⟩
abbrev s_l_kinds : Stmt := top 50
theorem sc_l_kinds : FnScope N_l_kinds ["_law_error"] (defScope s_l_kinds) := ⟨rfl, rfl, rfl, by decide +kernel, rfl, by decide +kernel, by decide +kernel⟩
abbrev s_l_refused : Stmt := top 51
theorem sc_l_refused : FnScope N_l_refused ["_law_title", "_law_fields"] (defScope s_l_refused) := ⟨rfl, rfl, rfl, by decide +kernel, rfl, by decide +kernel, by decide +kernel⟩
abbrev s_l_held : Stmt := top 52
theorem sc_l_held : FnScope N_l_held ["_law_place", "_law_spans_here"] (defScope s_l_held) := ⟨rfl, rfl, rfl, by decide +kernel, rfl, by decide +kernel, by decide +kernel⟩
abbrev s_l_cuts_of : Stmt := top 53
theorem sc_l_cuts_of : FnScope N_l_cuts_of ["_law_spans_here"] (defScope s_l_cuts_of) := ⟨rfl, rfl, rfl, by decide +kernel, rfl, by decide +kernel, by decide +kernel⟩
abbrev s_l_glued : Stmt := top 54
theorem sc_l_glued : FnScope N_l_glued ["_law_row", "_law_low", "_law_high"] (defScope s_l_glued) := ⟨rfl, rfl, rfl, by decide +kernel, rfl, by decide +kernel, by decide +kernel⟩
abbrev s_l_normal_of : Stmt := top 55
theorem sc_l_normal_of : FnScope N_l_normal_of ["_law_spans_here"] (defScope s_l_normal_of) := ⟨rfl, rfl, rfl, by decide +kernel, rfl, by decide +kernel, by decide +kernel⟩
abbrev s_l_asked : Stmt := top 56
theorem sc_l_asked : FnScope N_l_asked5 ["_law_places", "_law_title", "_law_size_here", "_law_alignment_here"] (defScope s_l_asked) := ⟨rfl, rfl, rfl, by decide +kernel, rfl, by decide +kernel, by decide +kernel⟩
abbrev s_l_all_inside : Stmt := top 57
theorem sc_l_all_inside : FnScope N_l_all_inside ["_law_inside", "_law_start", "_law_size_here"] (defScope s_l_all_inside) := ⟨rfl, rfl, rfl, by decide +kernel, rfl, by decide +kernel, by decide +kernel⟩
abbrev s_l_walked : Stmt := top 58
theorem sc_l_walked : FnScope N_l_walked ["_law_spans_here", "_law_size_here", "_law_alignment_here", "_law_best"] (defScope s_l_walked) := ⟨rfl, rfl, rfl, by decide +kernel, rfl, by decide +kernel, by decide +kernel⟩
abbrev s_l_due : Stmt := top 59
theorem sc_l_due : FnScope N_l_due ["_law_spans_here", "_law_size_here", "_law_alignment_here", "_law_best"] (defScope s_l_due) := ⟨rfl, rfl, rfl, by decide +kernel, rfl, by decide +kernel, by decide +kernel⟩
abbrev s_l_size : Stmt := top 60
theorem sc_l_size : FnScope N_l_size ["_law_draws_here", "_law_due_here"] (defScope s_l_size) := ⟨rfl, rfl, rfl, by decide +kernel, rfl, by decide +kernel, by decide +kernel⟩
abbrev s_l_tried_spans : Stmt := top 61
theorem sc_l_tried_spans : FnScope N_l_tried_spans ["_law_draws_here", "_law_due_here"] (defScope s_l_tried_spans) := ⟨rfl, rfl, rfl, by decide +kernel, rfl, by decide +kernel, by decide +kernel⟩
abbrev s_l_starts_right : Stmt := top 62
theorem sc_l_starts_right : FnScope N_l_starts_right ["_law_places", "_law_spans_here", "_law_size_here", "_law_alignment_here"] (defScope s_l_starts_right) := ⟨rfl, rfl, rfl, by decide +kernel, rfl, by decide +kernel, by decide +kernel⟩
abbrev s_l_covers_right : Stmt := top 63
theorem sc_l_covers_right : FnScope N_l_covers_right ["_law_places", "_law_due_here", "_law_tried"] (defScope s_l_covers_right) := ⟨rfl, rfl, rfl, by decide +kernel, rfl, by decide +kernel, by decide +kernel⟩
abbrev s_l_refused_right : Stmt := top 64
theorem sc_l_refused_right : FnScope N_l_refused_right5 ["_law_draws_here", "_law_places", "_law_size_here", "_law_alignment_here"] (defScope s_l_refused_right) := ⟨rfl, rfl, rfl, by decide +kernel, rfl, by decide +kernel, by decide +kernel⟩
abbrev s_l_law : Stmt := top 65
theorem sc_l_law : FnScope N_l_law ["_law_script"] (defScope s_l_law) := ⟨rfl, rfl, rfl, by decide +kernel, rfl, by decide +kernel, by decide +kernel⟩
/-- where the defs and constants stand -/
structure Ad where
  c : Cl
  c_BadValue_init : Addr
  c_BadValue_init_d : FuncData
  p_is_whole : Addr
  p_is_whole_d : FuncData
  p_whole_between : Addr
  p_whole_between_d : FuncData
  p_is_span : Addr
  p_is_span_d : FuncData
  p_is_power : Addr
  p_is_power_d : FuncData
  p_is_align : Addr
  p_is_align_d : FuncData
  p_align_up : Addr
  p_align_up_d : FuncData
  p_joined_rows : Addr
  p_joined_rows_d : FuncData
  p_span_from : Addr
  p_span_from_d : FuncData
  p_start_within : Addr
  p_start_within_d : FuncData
  p_check_wish : Addr
  p_check_wish_d : FuncData
  c_Places_init : Addr
  c_Places_init_d : FuncData
  c_Places_spans : Addr
  c_Places_spans_d : FuncData
  p_c_Places_spans : Addr
  c_Places_covers : Addr
  c_Places_covers_d : FuncData
  c_Places_first_start : Addr
  c_Places_first_start_d : FuncData
  c_Places_best_start : Addr
  c_Places_best_start_d : FuncData
  l_draws : Addr
  l_draws_d : FuncData
  l_next_cell : Addr
  l_next_cell_d : FuncData
  l_mixed : Addr
  l_mixed_d : FuncData
  l_take : Addr
  l_take_d : FuncData
  l_among : Addr
  l_among_d : FuncData
  l_between : Addr
  l_between_d : FuncData
  l_number : Addr
  l_number_d : FuncData
  l_count : Addr
  l_count_d : FuncData
  l_alignment : Addr
  l_alignment_d : FuncData
  l_up : Addr
  l_up_d : FuncData
  l_long : Addr
  l_long_d : FuncData
  l_not_integer : Addr
  l_not_integer_d : FuncData
  l_not_within : Addr
  l_not_within_d : FuncData
  l_not_alignment : Addr
  l_not_alignment_d : FuncData
  l_same : Addr
  l_same_d : FuncData
  l_copy : Addr
  l_copy_d : FuncData
  l_span : Addr
  l_span_d : FuncData
  l_spans : Addr
  l_spans_d : FuncData
  l_start_due : Addr
  l_start_due_d : FuncData
  l_kinds : Addr
  l_kinds_d : FuncData
  l_refused : Addr
  l_refused_d : FuncData
  l_held : Addr
  l_held_d : FuncData
  l_cuts_of : Addr
  l_cuts_of_d : FuncData
  l_glued : Addr
  l_glued_d : FuncData
  l_normal_of : Addr
  l_normal_of_d : FuncData
  l_asked : Addr
  l_asked_d : FuncData
  l_all_inside : Addr
  l_all_inside_d : FuncData
  l_walked : Addr
  l_walked_d : FuncData
  l_due : Addr
  l_due_d : FuncData
  l_size : Addr
  l_size_d : FuncData
  l_tried_spans : Addr
  l_tried_spans_d : FuncData
  l_starts_right : Addr
  l_starts_right_d : FuncData
  l_covers_right : Addr
  l_covers_right_d : FuncData
  l_refused_right : Addr
  l_refused_right_d : FuncData
  l_law : Addr
  l_law_d : FuncData
  v_MOST_ALIGN : Value
  v_MOST_END : Value
  v_MOST_SPANS : Value
/-- what the top has written -/
structure Txt (K : PySem.W.Frag) (mg : Str → Option Value) (a : Ad) : Prop where
  b_ValueError : mg "ValueError" = none
  b_all : mg "all" = none
  b_bool : mg "bool" = none
  b_dict : mg "dict" = none
  b_int : mg "int" = none
  b_isinstance : mg "isinstance" = none
  b_len : mg "len" = none
  b_list : mg "list" = none
  b_max : mg "max" = none
  b_min : mg "min" = none
  b_range : mg "range" = none
  b_sorted : mg "sorted" = none
  b_str : mg "str" = none
  b_tuple : mg "tuple" = none
  g_MOST_ALIGN : mg "MOST_ALIGN" = some a.v_MOST_ALIGN
  r_MOST_ALIGN : RelV (.int 1073741824) a.v_MOST_ALIGN
  g_MOST_END : mg "MOST_END" = some a.v_MOST_END
  r_MOST_END : RelV (.int 1000000000) a.v_MOST_END
  g_MOST_SPANS : mg "MOST_SPANS" = some a.v_MOST_SPANS
  r_MOST_SPANS : RelV (.int 20000) a.v_MOST_SPANS
  k_StoreError : mg "StoreError" = some (.ref a.c.k_StoreError)
  k_BadValue : mg "BadValue" = some (.ref a.c.k_BadValue)
  k_Broken : mg "Broken" = some (.ref a.c.k_Broken)
  k_Unknown : mg "Unknown" = some (.ref a.c.k_Unknown)
  k_NotHeld : mg "NotHeld" = some (.ref a.c.k_NotHeld)
  k_Fault : mg "Fault" = some (.ref a.c.k_Fault)
  k_NoRoom : mg "NoRoom" = some (.ref a.c.k_NoRoom)
  k_Cut : mg "Cut" = some (.ref a.c.k_Cut)
  k_BadLine : mg "BadLine" = some (.ref a.c.k_BadLine)
  k_Merged : mg "Merged" = some (.ref a.c.k_Merged)
  k_Places : mg "Places" = some (.ref a.c.k_Places)
  cl_Places : Cls K a.c.k_Places
  mk_Places : Mk K a.c.k_Places a.c_Places_init
  kf_Places_best_start_2_align : ∃ g, KBn K a.c_Places_best_start_d ["self", "size", "align"] 2 ["align"] g gv_all
  kf_Places_first_start_2_align : ∃ g, KBn K a.c_Places_first_start_d ["self", "size", "align"] 2 ["align"] g gv_all
  df_Places_best_start_2 : ∃ ds, Vals [(.int 1)] ds ∧ Binds K a.c_Places_best_start_d ["self", "size", "align"] ds
  df_Places_first_start_2 : ∃ ds, Vals [(.int 1)] ds ∧ Binds K a.c_Places_first_start_d ["self", "size", "align"] ds
  pr_c_Places_spans : PropOf K a.c.k_Places "spans" a.p_c_Places_spans a.c_Places_spans
  mt_c_Places_covers : Meth K a.c.k_Places "covers" a.c_Places_covers
  mt_c_Places_first_start : Meth K a.c.k_Places "first_start" a.c_Places_first_start
  mt_c_Places_best_start : Meth K a.c.k_Places "best_start" a.c_Places_best_start
  c_BadValue_init : DfM K "__init__" "BadValue.__init__" s_c_BadValue_init ["self", "parameter"] a.c_BadValue_init a.c_BadValue_init_d
  p_is_whole : DfG K mg "is_whole" s_p_is_whole ["value"] a.p_is_whole a.p_is_whole_d
  p_whole_between : DfG K mg "whole_between" s_p_whole_between ["value", "low", "high"] a.p_whole_between a.p_whole_between_d
  p_is_span : DfG K mg "is_span" s_p_is_span ["value"] a.p_is_span a.p_is_span_d
  p_is_power : DfG K mg "is_power" s_p_is_power ["value"] a.p_is_power a.p_is_power_d
  p_is_align : DfG K mg "is_align" s_p_is_align ["value", "most"] a.p_is_align a.p_is_align_d
  p_align_up : DfG K mg "align_up" s_p_align_up ["number", "align"] a.p_align_up a.p_align_up_d
  p_joined_rows : DfG K mg "joined_rows" s_p_joined_rows ["rows"] a.p_joined_rows a.p_joined_rows_d
  p_span_from : DfG K mg "span_from" s_p_span_from ["rows", "place"] a.p_span_from a.p_span_from_d
  p_start_within : DfG K mg "start_within" s_p_start_within ["span", "size", "align"] a.p_start_within a.p_start_within_d
  p_check_wish : DfG K mg "check_wish" s_p_check_wish ["size", "align"] a.p_check_wish a.p_check_wish_d
  c_Places_init : DfD K "__init__" "Places.__init__" s_c_Places_init ["self", "spans"] a.c_Places_init a.c_Places_init_d
  c_Places_spans : DfM K "spans" "Places.spans" s_c_Places_spans ["self"] a.c_Places_spans a.c_Places_spans_d
  c_Places_covers : DfM K "covers" "Places.covers" s_c_Places_covers ["self", "span"] a.c_Places_covers a.c_Places_covers_d
  c_Places_first_start : DfK K "first_start" "Places.first_start" s_c_Places_first_start a.c_Places_first_start a.c_Places_first_start_d
  c_Places_best_start : DfK K "best_start" "Places.best_start" s_c_Places_best_start a.c_Places_best_start a.c_Places_best_start_d
  l_draws : DfG K mg "_law_draws" s_l_draws ["_law_script"] a.l_draws a.l_draws_d
  l_next_cell : DfG K mg "_law_next_cell" s_l_next_cell ["_law_draws_here"] a.l_next_cell a.l_next_cell_d
  l_mixed : DfG K mg "_law_mixed" s_l_mixed ["_law_seed", "_law_turn", "_law_many"] a.l_mixed a.l_mixed_d
  l_take : DfG K mg "_law_take" s_l_take ["_law_draws_here", "_law_many"] a.l_take a.l_take_d
  l_among : DfG K mg "_law_among" s_l_among ["_law_draws_here", "_law_row"] a.l_among a.l_among_d
  l_between : DfG K mg "_law_between" s_l_between ["_law_draws_here", "_law_low", "_law_high"] a.l_between a.l_between_d
  l_number : DfG K mg "_law_number" s_l_number ["_law_draws_here", "_law_low", "_law_high"] a.l_number a.l_number_d
  l_count : DfG K mg "_law_count" s_l_count ["_law_draws_here", "_law_small", "_law_great"] a.l_count a.l_count_d
  l_alignment : DfG K mg "_law_alignment" s_l_alignment ["_law_draws_here", "_law_most"] a.l_alignment a.l_alignment_d
  l_up : DfG K mg "_law_up" s_l_up ["_law_number_here", "_law_alignment_here"] a.l_up a.l_up_d
  l_long : DfG K mg "_law_long" s_l_long [] a.l_long a.l_long_d
  l_not_integer : DfG K mg "_law_not_integer" s_l_not_integer ["_law_draws_here"] a.l_not_integer a.l_not_integer_d
  l_not_within : DfG K mg "_law_not_within" s_l_not_within ["_law_draws_here", "_law_low", "_law_high"] a.l_not_within a.l_not_within_d
  l_not_alignment : DfG K mg "_law_not_alignment" s_l_not_alignment ["_law_draws_here", "_law_most"] a.l_not_alignment a.l_not_alignment_d
  l_same : DfG K mg "_law_same" s_l_same ["_law_actual", "_law_expected"] a.l_same a.l_same_d
  l_copy : DfG K mg "_law_copy" s_l_copy ["_law_value"] a.l_copy a.l_copy_d
  l_span : DfG K mg "_law_span" s_l_span ["_law_draws_here", "_law_most"] a.l_span a.l_span_d
  l_spans : DfG K mg "_law_spans" s_l_spans ["_law_draws_here", "_law_count_here", "_law_most"] a.l_spans a.l_spans_d
  l_start_due : DfG K mg "_law_start_due" s_l_start_due ["_law_spans_here", "_law_size_here", "_law_alignment_here", "_law_best"] a.l_start_due a.l_start_due_d
  l_kinds : DfG K mg "_law_kinds" s_l_kinds ["_law_error"] a.l_kinds a.l_kinds_d
  l_refused : DfG K mg "_law_refused" s_l_refused ["_law_title", "_law_fields"] a.l_refused a.l_refused_d
  l_held : DfG K mg "_law_held" s_l_held ["_law_place", "_law_spans_here"] a.l_held a.l_held_d
  l_cuts_of : DfG K mg "_law_cuts_of" s_l_cuts_of ["_law_spans_here"] a.l_cuts_of a.l_cuts_of_d
  l_glued : DfG K mg "_law_glued" s_l_glued ["_law_row", "_law_low", "_law_high"] a.l_glued a.l_glued_d
  l_normal_of : DfG K mg "_law_normal_of" s_l_normal_of ["_law_spans_here"] a.l_normal_of a.l_normal_of_d
  l_asked : DfG K mg "_law_asked" s_l_asked ["_law_places", "_law_title", "_law_size_here", "_law_alignment_here"] a.l_asked a.l_asked_d
  l_all_inside : DfG K mg "_law_all_inside" s_l_all_inside ["_law_inside", "_law_start", "_law_size_here"] a.l_all_inside a.l_all_inside_d
  l_walked : DfG K mg "_law_walked" s_l_walked ["_law_spans_here", "_law_size_here", "_law_alignment_here", "_law_best"] a.l_walked a.l_walked_d
  l_due : DfG K mg "_law_due" s_l_due ["_law_spans_here", "_law_size_here", "_law_alignment_here", "_law_best"] a.l_due a.l_due_d
  l_size : DfG K mg "_law_size" s_l_size ["_law_draws_here", "_law_due_here"] a.l_size a.l_size_d
  l_tried_spans : DfG K mg "_law_tried_spans" s_l_tried_spans ["_law_draws_here", "_law_due_here"] a.l_tried_spans a.l_tried_spans_d
  l_starts_right : DfG K mg "_law_starts_right" s_l_starts_right ["_law_places", "_law_spans_here", "_law_size_here", "_law_alignment_here"] a.l_starts_right a.l_starts_right_d
  l_covers_right : DfG K mg "_law_covers_right" s_l_covers_right ["_law_places", "_law_due_here", "_law_tried"] a.l_covers_right a.l_covers_right_d
  l_refused_right : DfG K mg "_law_refused_right" s_l_refused_right ["_law_draws_here", "_law_places", "_law_size_here", "_law_alignment_here"] a.l_refused_right a.l_refused_right_d
  l_law : DfG K mg "law" s_l_law ["_law_script"] a.l_law a.l_law_d
  bv : BvC K a.c.k_BadValue
  iC : PySem.W.findIn K (.ref a.c.k_BadValue) "__init__" = some (some (.ref a.c_BadValue_init))
  tI : PySem.W.typeIn K (.ref a.c_BadValue_init) = some (.type "function")
  bk : BvK K a.c
  kk : K05K K a.c
section
variable {P : Program} {w : World} {K : PySem.W.Frag} {mg : Str → Option Value} {base : Heap} {a : Ad}
theorem ok_c_BadValue_init (T : Txt K mg a) : FnOk P w K mg base CX0 1 a.c_BadValue_init a.c_BadValue_init_d ["self", "parameter"] (sp_init_BadValue K a.c.k_BadValue) := by
  refine T.c_BadValue_init.fn.ok sc_c_BadValue_init (fun vs H Q E h => ?_) (fun cdv A outer s H vs Q E hr h => ⟨t_c_BadValue_init K, ?_, pure_init_BadValue  h⟩)
  · repeat' (first | (obtain ⟨e, _⟩ := h; (first | (subst e; rfl) | (rw [e]; rfl))) | (obtain ⟨_, h⟩ := h))
  · exact (pss_cons (ps_ost (pv 0) (pv 1))
  (pss_one (ps_ost (pv 0) (pe_tup (pa_cons pe_str (pa_cons (pe_tup (pa_cons (pv 1) pa_nil)) pa_nil))))))
theorem ok_p_is_whole (T : Txt K mg a) : FnOk P w K mg base CX0 1 a.p_is_whole a.p_is_whole_d ["value"] (sp_is_whole K) := by
  refine T.p_is_whole.fn.ok sc_p_is_whole (fun vs H Q E h => ?_) (fun cdv A outer s H vs Q E hr h => ⟨t_p_is_whole K, ?_, pure_is_whole  h⟩)
  · repeat' (first | (obtain ⟨e, _⟩ := h; (first | (subst e; rfl) | (rw [e]; rfl))) | (obtain ⟨_, h⟩ := h))
  · exact (pss_one (ps_ret (pe_and (pe_callB call_isi (by rfl) T.b_isinstance (by decide +kernel) (pa_cons (pv 0) (pa_cons (pe_bltn (by rfl) T.b_int (by decide +kernel) rfl) pa_nil))) (pe_one (pe_not (pe_callB call_isi (by rfl) T.b_isinstance (by decide +kernel) (pa_cons (pv 0) (pa_cons (pe_bltn (by rfl) T.b_bool (by decide +kernel) rfl) pa_nil))))))))
theorem ok_p_joined_rows (T : Txt K mg a) : FnOk P w K mg base CX0 1 a.p_joined_rows a.p_joined_rows_d ["rows"] (sp_joined_rows K) := by
  refine T.p_joined_rows.fn.ok sc_p_joined_rows (fun vs H Q E h => ?_) (fun cdv A outer s H vs Q E hr h => ⟨t_p_joined_rows K, ?_, pure_joined_rows  h⟩)
  · repeat' (first | (obtain ⟨e, _⟩ := h; (first | (subst e; rfl) | (rw [e]; rfl))) | (obtain ⟨_, h⟩ := h))
  · exact (pss_cons (ps_set (i := 1) sc_p_joined_rows.nd rfl (Or.inl rfl) (pe_lst pa_nil))
  (pss_cons (ps_for PassesOwn.never rfl (pi_list (pe_callB cr_sortedPO (by rfl) T.b_sorted (by decide +kernel) (pa_cons (pv 0) pa_nil))) (pg_tup rfl (pgs_cons (pg_name (i := 2) sc_p_joined_rows.nd rfl (Or.inl rfl)) (pgs_cons (pg_name (i := 3) sc_p_joined_rows.nd rfl (Or.inl rfl)) pgs_nil))) (pss_one (ps_if (PW.pt (pw_and (pt_truth (pv 1) (by intro _; rfl)) (pw_and1 (pt_cmpR op_le (pv 2) (pe_op op_add (pe_ix ix_tup (pe_ix ix_list (pv 1) (pe_un un_neg pe_int) (fun _ _ => rfl)) pe_int (fun _ _ => rfl)) (pe_ix ix_tup (pe_ix ix_list (pv 1) (pe_un un_neg pe_int) (fun _ _ => rfl)) pe_int (fun _ _ => rfl))) (nomark _))))) (pss_cons (ps_asg (pe_ix ix_list (pv 1) (pe_un un_neg pe_int) (fun _ _ => rfl)) (pg_tup rfl (pgs_cons (pg_name (i := 4) sc_p_joined_rows.nd rfl (Or.inl rfl)) (pgs_cons (pg_name (i := 5) sc_p_joined_rows.nd rfl (Or.inl rfl)) pgs_nil))))
  (pss_one (ps_asg (pe_tup (pa_cons (pv 4) (pa_cons (pe_op op_sub (pe_callB (call_max2 rfl) (by rfl) T.b_max (by decide +kernel) (pa_cons (pe_op op_add (pv 4) (pv 5)) (pa_cons (pe_op op_add (pv 2) (pv 3)) pa_nil))) (pv 4)) pa_nil))) (pg_sub (pv 1) (pe_un un_neg pe_int) set_list)))) (pss_one (ps_expr (pe_bm PySem.F.plainAttrs_list PySem.F.slot_list_append PySem.F.type_list_append mt_append (pv 1) (pa_cons (pe_tup (pa_cons (pv 2) (pa_cons (pv 3) pa_nil))) pa_nil)))))))
  (pss_one (ps_ret (pv 1)))))
theorem ok_p_span_from (T : Txt K mg a) : FnOk P w K mg base CX0 1 a.p_span_from a.p_span_from_d ["rows", "place"] (sp_span_from K) := by
  refine T.p_span_from.fn.ok sc_p_span_from (fun vs H Q E h => ?_) (fun cdv A outer s H vs Q E hr h => ⟨t_p_span_from K, ?_, pure_span_from  h⟩)
  · repeat' (first | (obtain ⟨e, _⟩ := h; (first | (subst e; rfl) | (rw [e]; rfl))) | (obtain ⟨_, h⟩ := h))
  · exact (pss_cons (ps_set (i := 2) sc_p_span_from.nd rfl (Or.inl rfl) pe_int)
  (pss_cons (ps_set (i := 3) sc_p_span_from.nd rfl (Or.inl rfl) (pe_callB call_len (by rfl) T.b_len (by decide +kernel) (pa_cons (pv 0) pa_nil)))
  (pss_cons (ps_while PassesOwn.never (pt_cmpR op_lt (pv 2) (pv 3) (nomark _)) (pss_cons (ps_set (i := 4) sc_p_span_from.nd rfl (Or.inl rfl) (pe_op op_fdivW (pe_op op_add (pv 2) (pv 3)) pe_int))
  (pss_one (ps_if (pt_cmpR op_le (pe_ix ix_tup (pe_ix ix_tup (pv 0) (pv 4) (fun _ _ => rfl)) pe_int (fun _ _ => rfl)) (pv 1) (nomark _)) (pss_one (ps_set (i := 2) sc_p_span_from.nd rfl (Or.inl rfl) (pe_op op_add (pv 4) pe_int))) (pss_one (ps_set (i := 3) sc_p_span_from.nd rfl (Or.inl rfl) (pv 4)))))))
  (pss_cons (ps_if (pt_cmpR op_eq (pv 2) pe_int (nomark _)) (pss_one (ps_ret pe_non)) pss_nil)
  (pss_one (ps_ret (pe_ix ix_tup (pv 0) (pe_op op_sub (pv 2) pe_int) (fun _ _ => rfl))))))))
theorem ok_c_Places_spans (T : Txt K mg a) : FnOk P w K mg base CX0 1 a.c_Places_spans a.c_Places_spans_d ["self"] (sp_pspans K a.c) := by
  refine T.c_Places_spans.fn.ok sc_c_Places_spans (fun vs H Q E h => ?_) (fun cdv A outer s H vs Q E hr h => ⟨t_c_Places_spans K, ?_, pure_pspans  h⟩)
  · repeat' (first | (obtain ⟨e, _⟩ := h; (first | (subst e; rfl) | (rw [e]; rfl))) | (obtain ⟨_, h⟩ := h))
  · exact (pss_one (ps_ret (pe_callTy call_list_of (by rfl) T.b_list (by decide +kernel) (pa_cons (pe_fld (pv 0) rfl) pa_nil))))
theorem ok_l_draws (T : Txt K mg a) : FnOk P w K mg base CX0 1 a.l_draws a.l_draws_d ["_law_script"] (sp_draws K) := by
  refine T.l_draws.fn.ok sc_l_draws (fun vs H Q E h => ?_) (fun cdv A outer s H vs Q E hr h => ⟨t_l_draws K, ?_, pure_draws  h⟩)
  · repeat' (first | (obtain ⟨e, _⟩ := h; (first | (subst e; rfl) | (rw [e]; rfl))) | (obtain ⟨_, h⟩ := h))
  · exact (pss_one (ps_ret (pe_lst (pa_cons (pe_lc (own := [("_law_cell", 1)]) (g := (gName 1)) (tt := tYes) (by rfl) sc_l_draws.nd (pi_list (pv 0)) (blkOk_by (own := [("_law_cell", 1)]) (N := N_l_draws) (sc := defScope s_l_draws) (by decide +kernel)) (fun _ _ _ _ _ => pg_name (i := 1) sc_l_draws.nd rfl (Or.inl rfl)) (fun _ _ _ _ _ => pts_nil) (fun _ _ _ _ _ => (pe_callTy call_int1 (by rfl) T.b_int (by decide +kernel) (pa_cons (pv 1) pa_nil)))) (pa_cons (pe_lst (pa_cons pe_int (pa_cons pe_int (pa_cons pe_int (pa_cons pe_int (pa_cons pe_int pa_nil)))))) pa_nil)))))
theorem ok_l_next_cell (T : Txt K mg a) : FnOk P w K mg base CX0 1 a.l_next_cell a.l_next_cell_d ["_law_draws_here"] sp_next_cell := by
  refine T.l_next_cell.fn.ok sc_l_next_cell (fun vs H Q E h => ?_) (fun cdv A outer s H vs Q E hr h => ⟨t_l_next_cell K, ?_, pure_next_cell  h⟩)
  · repeat' (first | (obtain ⟨e, _⟩ := h; (first | (subst e; rfl) | (rw [e]; rfl))) | (obtain ⟨_, h⟩ := h))
  · exact (pss_cons (ps_set (i := 1) sc_l_next_cell.nd rfl (Or.inl rfl) (pe_ix ix_list (pv 0) pe_int (fun _ _ => rfl)))
  (pss_cons (ps_set (i := 2) sc_l_next_cell.nd rfl (Or.inl rfl) (pe_ix ix_list (pv 0) pe_int (fun _ _ => rfl)))
  (pss_one (ps_if (pt_cmpR op_lt (pe_ix ix_list (pv 2) pe_int (fun _ _ => rfl)) (pe_callB call_len (by rfl) T.b_len (by decide +kernel) (pa_cons (pv 1) pa_nil)) (nomark _)) (pss_cons (ps_set (i := 3) sc_l_next_cell.nd rfl (Or.inl rfl) (pe_callTy call_int1 (by rfl) T.b_int (by decide +kernel) (pa_cons (pe_ix ix_list (pv 1) (pe_ix ix_list (pv 2) pe_int (fun _ _ => rfl)) (fun _ _ => rfl)) pa_nil)))
  (pss_cons (ps_asg (pe_op op_add (pe_ix ix_list (pv 2) pe_int (fun _ _ => rfl)) pe_int) (pg_sub (pv 2) pe_int set_list))
  (pss_cons (ps_asg (pe_op op_mod (pe_callTy call_int1 (by rfl) T.b_int (by decide +kernel) (pa_cons (pe_op op_add (pe_op op_add (pe_op op_mul (pe_ix ix_list (pv 2) pe_int (fun _ _ => rfl)) pe_int) (pe_op op_mod (pv 3) pe_int)) pe_int) pa_nil)) pe_int) (pg_sub (pv 2) pe_int set_list))
  (pss_one (ps_if (pt_cmpR op_ge (pv 3) (pe_op op_pow pe_int pe_int) (nomark _)) (pss_one (ps_asg (pv 3) (pg_sub (pv 2) pe_int set_list))) (pss_one (ps_asg pe_int (pg_sub (pv 2) pe_int set_list)))))))) pss_nil))))
theorem ok_l_mixed (T : Txt K mg a) : FnOk P w K mg base CX0 1 a.l_mixed a.l_mixed_d ["_law_seed", "_law_turn", "_law_many"] sp_mixed := by
  refine T.l_mixed.fn.ok sc_l_mixed (fun vs H Q E h => ?_) (fun cdv A outer s H vs Q E hr h => ⟨t_l_mixed K, ?_, pure_mixed  h⟩)
  · repeat' (first | (obtain ⟨e, _⟩ := h; (first | (subst e; rfl) | (rw [e]; rfl))) | (obtain ⟨_, h⟩ := h))
  · exact (pss_cons (ps_set (i := 3) sc_l_mixed.nd rfl (Or.inl rfl) pe_int)
  (pss_cons (ps_for PassesOwn.never rfl (pi_range1 (by rfl) T.b_range (pa_cons pe_int pa_nil)) (pg_name (i := 4) sc_l_mixed.nd rfl (Or.inl rfl)) (pss_cons (ps_set (i := 5) sc_l_mixed.nd rfl (Or.inl rfl) (pe_op op_mod (pe_callTy call_int1 (by rfl) T.b_int (by decide +kernel) (pa_cons (pe_op op_mul (pe_op op_add (pe_op op_add (pv 0) pe_int) (pe_op op_mul (pe_op op_add (pe_op op_mul pe_int (pv 1)) (pv 4)) pe_int)) pe_int) pa_nil)) pe_int))
  (pss_cons (ps_set (i := 6) sc_l_mixed.nd rfl (Or.inl rfl) (pe_op op_mod (pe_callTy call_int1 (by rfl) T.b_int (by decide +kernel) (pa_cons (pe_op op_add (pe_op op_add (pe_op op_mul (pv 5) (pv 5)) (pe_op op_mul (pe_op op_fdivW (pv 5) pe_int) pe_int)) (pv 1)) pa_nil)) pe_int))
  (pss_one (ps_set (i := 3) sc_l_mixed.nd rfl (Or.inl rfl) (pe_op op_add (pe_op op_mul (pv 3) pe_int) (pe_op op_fdivW (pv 6) pe_int)))))))
  (pss_one (ps_ret (pe_op op_mod (pe_callTy call_int1 (by rfl) T.b_int (by decide +kernel) (pa_cons (pv 3) pa_nil)) (pv 2))))))
theorem ok_l_up (T : Txt K mg a) : FnOk P w K mg base CX0 1 a.l_up a.l_up_d ["_law_number_here", "_law_alignment_here"] sp_up7 := by
  refine T.l_up.fn.ok sc_l_up (fun vs H Q E h => ?_) (fun cdv A outer s H vs Q E hr h => ⟨t_l_up7 K, ?_, pure_up7  h⟩)
  · repeat' (first | (obtain ⟨e, _⟩ := h; (first | (subst e; rfl) | (rw [e]; rfl))) | (obtain ⟨_, h⟩ := h))
  · exact (pss_one (ps_ret (pe_op op_mul (pe_op op_fdivW (pe_op op_sub (pe_op op_add (pv 0) (pv 1)) pe_int) (pv 1)) (pv 1))))
theorem ok_l_long (T : Txt K mg a) : FnOk P w K mg base CX0 1 a.l_long a.l_long_d [] sp_long := by
  refine T.l_long.fn.ok sc_l_long (fun vs H Q E h => ?_) (fun cdv A outer s H vs Q E hr h => ⟨t_l_long K, ?_, pure_long  h⟩)
  · repeat' (first | (obtain ⟨e, _⟩ := h; (first | (subst e; rfl) | (rw [e]; rfl))) | (obtain ⟨_, h⟩ := h))
  · exact (pss_cons (ps_set (i := 0) sc_l_long.nd rfl (Or.inl rfl) (pe_op op_pow pe_int pe_int))
  (pss_cons (ps_for PassesOwn.never rfl (pi_range1 (by rfl) T.b_range (pa_cons pe_int pa_nil)) (pg_name (i := 1) sc_l_long.nd rfl (Or.inl rfl)) (pss_one (ps_set (i := 0) sc_l_long.nd rfl (Or.inl rfl) (pe_op op_mulW (pv 0) (pe_op op_pow pe_int pe_int)))))
  (pss_one (ps_ret (pv 0)))))
theorem ok_l_kinds (T : Txt K mg a) : FnU P w K mg base 1 a.l_kinds a.l_kinds_d ["_law_error"] (sp_kinds K a.c) := by
  refine Fun_okU T.l_kinds.fn sc_l_kinds (fun vs H Q E h => ?_) (fun cdv A outer s H vs Q E hr h => ⟨t_l_kinds K a.c, ?_, pure_kinds  h⟩)
  · repeat' (first | (obtain ⟨e, _⟩ := h; (first | (subst e; rfl) | (rw [e]; rfl))) | (obtain ⟨_, h⟩ := h))
  · exact (pss_one (ps_ret (pe_lst (pa_cons (pe_callB call_isX (by rfl) T.b_isinstance (by decide +kernel) (pa_cons (pv 0) (pa_cons (pe_glob (by rfl) T.k_StoreError rfl) pa_nil))) (pa_cons (pe_callB call_isX (by rfl) T.b_isinstance (by decide +kernel) (pa_cons (pv 0) (pa_cons (pe_bltn (by rfl) T.b_ValueError (by decide +kernel) rfl) pa_nil))) (pa_cons (pe_callB call_isX (by rfl) T.b_isinstance (by decide +kernel) (pa_cons (pv 0) (pa_cons (pe_glob (by rfl) T.k_BadValue rfl) pa_nil))) (pa_cons (pe_callB call_isX (by rfl) T.b_isinstance (by decide +kernel) (pa_cons (pv 0) (pa_cons (pe_glob (by rfl) T.k_Broken rfl) pa_nil))) (pa_cons (pe_callB call_isX (by rfl) T.b_isinstance (by decide +kernel) (pa_cons (pv 0) (pa_cons (pe_glob (by rfl) T.k_Unknown rfl) pa_nil))) (pa_cons (pe_callB call_isX (by rfl) T.b_isinstance (by decide +kernel) (pa_cons (pv 0) (pa_cons (pe_glob (by rfl) T.k_NotHeld rfl) pa_nil))) (pa_cons (pe_callB call_isX (by rfl) T.b_isinstance (by decide +kernel) (pa_cons (pv 0) (pa_cons (pe_glob (by rfl) T.k_Fault rfl) pa_nil))) (pa_cons (pe_callB call_isX (by rfl) T.b_isinstance (by decide +kernel) (pa_cons (pv 0) (pa_cons (pe_glob (by rfl) T.k_NoRoom rfl) pa_nil))) (pa_cons (pe_callB call_isX (by rfl) T.b_isinstance (by decide +kernel) (pa_cons (pv 0) (pa_cons (pe_glob (by rfl) T.k_Cut rfl) pa_nil))) (pa_cons (pe_callB call_isX (by rfl) T.b_isinstance (by decide +kernel) (pa_cons (pv 0) (pa_cons (pe_glob (by rfl) T.k_BadLine rfl) pa_nil))) pa_nil)))))))))))))
theorem ok_l_refused (T : Txt K mg a) : FnOk P w K mg base CX0 1 a.l_refused a.l_refused_d ["_law_title", "_law_fields"] sp_refused := by
  refine T.l_refused.fn.ok sc_l_refused (fun vs H Q E h => ?_) (fun cdv A outer s H vs Q E hr h => ⟨t_l_refused K, ?_, pure_refused  h⟩)
  · repeat' (first | (obtain ⟨e, _⟩ := h; (first | (subst e; rfl) | (rw [e]; rfl))) | (obtain ⟨_, h⟩ := h))
  · exact (pss_cons (ps_set (i := 2) sc_l_refused.nd rfl (Or.inl rfl) (pe_lst (pa_cons pe_str (pa_cons pe_str (pa_cons pe_str (pa_cons pe_str (pa_cons pe_str (pa_cons pe_str (pa_cons pe_str (pa_cons pe_str pa_nil))))))))))
  (pss_one (ps_ret (pe_lst (pa_cons pe_str (pa_cons (pe_tup (pa_cons (pv 0) (pa_cons (pv 1) pa_nil))) (pa_cons (pv 1) (pa_cons (pe_op op_cat (pe_lst (pa_cons pe_bl (pa_cons pe_bl pa_nil))) (pe_lc (own := [("_law_one", 3)]) (g := (gName 3)) (tt := tYes) (by rfl) sc_l_refused.nd (pi_list (pv 2)) (blkOk_by (own := [("_law_one", 3)]) (N := N_l_refused) (sc := defScope s_l_refused) (by decide +kernel)) (fun _ _ _ _ _ => pg_name (i := 3) sc_l_refused.nd rfl (Or.inl rfl)) (fun _ _ _ _ _ => pts_nil) (fun _ _ _ _ _ => (pe_cmpR op_eq (pv 3) (pv 0) (nomark _))))) pa_nil))))))))
theorem ok_l_held (T : Txt K mg a) : FnOk P w K mg base CX0 1 a.l_held a.l_held_d ["_law_place", "_law_spans_here"] (sp_held5 K) := by
  refine T.l_held.fn.ok sc_l_held (fun vs H Q E h => ?_) (fun cdv A outer s H vs Q E hr h => ⟨t_l_held K, ?_, pure_held5  h⟩)
  · repeat' (first | (obtain ⟨e, _⟩ := h; (first | (subst e; rfl) | (rw [e]; rfl))) | (obtain ⟨_, h⟩ := h))
  · exact (pss_cons (ps_for PassesOwn.never rfl (pi_list (pv 1)) (pg_tup rfl (pgs_cons (pg_name (i := 2) sc_l_held.nd rfl (Or.inl rfl)) (pgs_cons (pg_name (i := 3) sc_l_held.nd rfl (Or.inl rfl)) pgs_nil))) (pss_one (ps_if (pt_chain op_le op_lt (pv 2) (pv 0) (pe_op op_add (pv 2) (pv 3))) (pss_one (ps_ret pe_bl)) pss_nil)))
  (pss_one (ps_ret pe_bl)))
theorem ok_l_cuts_of (T : Txt K mg a) : FnOk P w K mg base CX0 1 a.l_cuts_of a.l_cuts_of_d ["_law_spans_here"] (sp_cuts_of K) := by
  refine T.l_cuts_of.fn.ok sc_l_cuts_of (fun vs H Q E h => ?_) (fun cdv A outer s H vs Q E hr h => ⟨t_l_cuts_of K, ?_, pure_cuts_of  h⟩)
  · repeat' (first | (obtain ⟨e, _⟩ := h; (first | (subst e; rfl) | (rw [e]; rfl))) | (obtain ⟨_, h⟩ := h))
  · exact (pss_cons (ps_set (i := 1) sc_l_cuts_of.nd rfl (Or.inl rfl) pe_dnewK)
  (pss_cons (ps_for PassesOwn.never rfl (pi_list (pv 0)) (pg_tup rfl (pgs_cons (pg_name (i := 2) sc_l_cuts_of.nd rfl (Or.inl rfl)) (pgs_cons (pg_name (i := 3) sc_l_cuts_of.nd rfl (Or.inl rfl)) pgs_nil))) (pss_cons (ps_dput (hu_of hr) (pv 1) (pv 2) pe_bl rfl)
  (pss_one (ps_dput (hu_of hr) (pv 1) (pe_op op_add (pv 2) (pv 3)) pe_bl rfl))))
  (pss_one (ps_ret (pe_callB cr_sortedI (by rfl) T.b_sorted (by decide +kernel) (pa_cons (pe_callTy (call_listD rfl) (by rfl) T.b_list (by decide +kernel) (pa_cons (pv 1) pa_nil)) pa_nil))))))
theorem ok_l_glued (T : Txt K mg a) : FnOk P w K mg base CX0 1 a.l_glued a.l_glued_d ["_law_row", "_law_low", "_law_high"] (sp_glued K) := by
  refine T.l_glued.fn.ok sc_l_glued (fun vs H Q E h => ?_) (fun cdv A outer s H vs Q E hr h => ⟨t_l_glued K, ?_, pure_glued  h⟩)
  · repeat' (first | (obtain ⟨e, _⟩ := h; (first | (subst e; rfl) | (rw [e]; rfl))) | (obtain ⟨_, h⟩ := h))
  · exact (pss_one (ps_if (PW.pt (pw_and (pt_cmpR op_gt (pe_callB call_len (by rfl) T.b_len (by decide +kernel) (pa_cons (pv 0) pa_nil)) pe_int (nomark _)) (pw_and1 (pt_cmpR op_eq (pe_op op_add (pe_ix ix_tup (pe_ix ix_list (pv 0) (pe_un un_neg pe_int) (fun _ _ => rfl)) pe_int (fun _ _ => rfl)) (pe_ix ix_tup (pe_ix ix_list (pv 0) (pe_un un_neg pe_int) (fun _ _ => rfl)) pe_int (fun _ _ => rfl))) (pv 1) (nomark _))))) (pss_one (ps_asg (pe_tup (pa_cons (pe_ix ix_tup (pe_ix ix_list (pv 0) (pe_un un_neg pe_int) (fun _ _ => rfl)) pe_int (fun _ _ => rfl)) (pa_cons (pe_op op_sub (pv 2) (pe_ix ix_tup (pe_ix ix_list (pv 0) (pe_un un_neg pe_int) (fun _ _ => rfl)) pe_int (fun _ _ => rfl))) pa_nil))) (pg_sub (pv 0) (pe_un un_neg pe_int) set_list))) (pss_one (ps_expr (pe_bm PySem.F.plainAttrs_list PySem.F.slot_list_append PySem.F.type_list_append mt_append (pv 0) (pa_cons (pe_tup (pa_cons (pv 1) (pa_cons (pe_op op_sub (pv 2) (pv 1)) pa_nil))) pa_nil))))))
theorem ok_l_all_inside (T : Txt K mg a) : FnOk P w K mg base CX0 1 a.l_all_inside a.l_all_inside_d ["_law_inside", "_law_start", "_law_size_here"] (sp_all_inside K) := by
  refine T.l_all_inside.fn.ok sc_l_all_inside (fun vs H Q E h => ?_) (fun cdv A outer s H vs Q E hr h => ⟨t_l_all_inside K, ?_, pure_all_inside  h⟩)
  · repeat' (first | (obtain ⟨e, _⟩ := h; (first | (subst e; rfl) | (rw [e]; rfl))) | (obtain ⟨_, h⟩ := h))
  · exact (pss_cons (ps_for PassesOwn.never rfl (pi_range2 (by rfl) T.b_range (pa_cons (pv 1) (pa_cons (pe_op op_add (pv 1) (pv 2)) pa_nil))) (pg_name (i := 3) sc_l_all_inside.nd rfl (Or.inl rfl)) (pss_one (ps_if (pt_cmp (pc_dnotin (hu_of hr) (pv 3) (pv 0))) (pss_one (ps_ret pe_bl)) pss_nil)))
  (pss_one (ps_ret pe_bl)))
theorem ok_p_whole_between (T : Txt K mg a) : FnOk P w K mg base CX0 2 a.p_whole_between a.p_whole_between_d ["value", "low", "high"] (sp_whole_between K) := by
  refine T.p_whole_between.fn.ok sc_p_whole_between (fun vs H Q E h => ?_) (fun cdv A outer s H vs Q E hr h => ⟨t_p_whole_between K, ?_, pure_whole_between  h⟩)
  · repeat' (first | (obtain ⟨e, _⟩ := h; (first | (subst e; rfl) | (rw [e]; rfl))) | (obtain ⟨_, h⟩ := h))
  · exact (pss_one (ps_ret (pe_and (pe_call (ok_p_is_whole T) (hr.mono (by decide)) (by rfl) T.p_is_whole.gl T.p_is_whole.fn.kp T.p_is_whole.bd .nil pass0 (pa_cons (pv 0) pa_nil)) (pe_one (pe_chain op_le op_le (pv 1) (pv 0) (pv 2))))))
theorem ok_p_is_span (T : Txt K mg a) : FnOk P w K mg base CX0 2 a.p_is_span a.p_is_span_d ["value"] (sp_is_span K) := by
  refine T.p_is_span.fn.ok sc_p_is_span (fun vs H Q E h => ?_) (fun cdv A outer s H vs Q E hr h => ⟨t_p_is_span K, ?_, pure_is_span  h⟩)
  · repeat' (first | (obtain ⟨e, _⟩ := h; (first | (subst e; rfl) | (rw [e]; rfl))) | (obtain ⟨_, h⟩ := h))
  · exact (pss_cons (ps_if (PW.pt (pw_or (pt_not (pt_val (pe_callB call_isi (by rfl) T.b_isinstance (by decide +kernel) (pa_cons (pv 0) (pa_cons (pe_bltn (by rfl) T.b_tuple (by decide +kernel) rfl) pa_nil))))) (pw_or1 (pt_cmpR op_ne (pe_callB call_len (by rfl) T.b_len (by decide +kernel) (pa_cons (pv 0) pa_nil)) pe_int (nomark _))))) (pss_one (ps_ret pe_bl)) pss_nil)
  (pss_cons (ps_asg (pv 0) (pg_tup rfl (pgs_cons (pg_name (i := 1) sc_p_is_span.nd rfl (Or.inl rfl)) (pgs_cons (pg_name (i := 2) sc_p_is_span.nd rfl (Or.inl rfl)) pgs_nil))))
  (pss_cons (ps_if (PW.pt (pw_or (pt_not (pt_val (pe_call (ok_p_is_whole T) (hr.mono (by decide)) (by rfl) T.p_is_whole.gl T.p_is_whole.fn.kp T.p_is_whole.bd .nil pass0 (pa_cons (pv 1) pa_nil)))) (pw_or1 (pt_not (pt_val (pe_call (ok_p_is_whole T) (hr.mono (by decide)) (by rfl) T.p_is_whole.gl T.p_is_whole.fn.kp T.p_is_whole.bd .nil pass0 (pa_cons (pv 2) pa_nil))))))) (pss_one (ps_ret pe_bl)) pss_nil)
  (pss_one (ps_ret (pe_and (pe_cmpR op_ge (pv 1) pe_int (nomark _)) (pe_and (pe_cmpR op_ge (pv 2) pe_int (nomark _)) (pe_one (pe_cmpR op_le (pe_op op_add (pv 1) (pv 2)) (pe_glob (by rfl) T.g_MOST_END T.r_MOST_END) (nomark _))))))))))
theorem ok_p_is_power (T : Txt K mg a) : FnOk P w K mg base CX0 2 a.p_is_power a.p_is_power_d ["value"] (sp_is_power K) := by
  refine T.p_is_power.fn.ok sc_p_is_power (fun vs H Q E h => ?_) (fun cdv A outer s H vs Q E hr h => ⟨t_p_is_power K, ?_, pure_is_power  h⟩)
  · repeat' (first | (obtain ⟨e, _⟩ := h; (first | (subst e; rfl) | (rw [e]; rfl))) | (obtain ⟨_, h⟩ := h))
  · exact (pss_one (ps_ret (pe_and (pe_call (ok_p_is_whole T) (hr.mono (by decide)) (by rfl) T.p_is_whole.gl T.p_is_whole.fn.kp T.p_is_whole.bd .nil pass0 (pa_cons (pv 0) pa_nil)) (pe_and (pe_cmpR op_ge (pv 0) pe_int (nomark _)) (pe_one (pe_cmpR op_eq (pe_op op_and (pv 0) (pe_op op_sub (pv 0) pe_int)) pe_int (nomark _)))))))
theorem ok_l_take (T : Txt K mg a) : FnOk P w K mg base CX0 2 a.l_take a.l_take_d ["_law_draws_here", "_law_many"] sp_take := by
  refine T.l_take.fn.ok sc_l_take (fun vs H Q E h => ?_) (fun cdv A outer s H vs Q E hr h => ⟨t_l_take K, ?_, pure_take  h⟩)
  · repeat' (first | (obtain ⟨e, _⟩ := h; (first | (subst e; rfl) | (rw [e]; rfl))) | (obtain ⟨_, h⟩ := h))
  · exact (pss_cons (ps_if (pt_cmpR op_lt (pv 1) pe_int (nomark _)) (pss_one (ps_ret pe_int)) pss_nil)
  (pss_cons (ps_set (i := 2) sc_l_take.nd rfl (Or.inl rfl) (pe_ix ix_list (pv 0) pe_int (fun _ _ => rfl)))
  (pss_cons (ps_asg (pe_op op_add (pe_ix ix_list (pv 2) pe_int (fun _ _ => rfl)) pe_int) (pg_sub (pv 2) pe_int set_list))
  (pss_cons (ps_if (PW.pt (pw_and (pt_cmpR op_lt (pe_ix ix_list (pv 2) pe_int (fun _ _ => rfl)) pe_int (nomark _)) (pw_and1 (pt_cmpR op_lt (pe_ix ix_list (pv 2) pe_int (fun _ _ => rfl)) pe_int (nomark _))))) (pss_one (ps_expr (pe_call (ok_l_next_cell T) (hr.mono (by decide)) (by rfl) T.l_next_cell.gl T.l_next_cell.fn.kp T.l_next_cell.bd .nil pass0 (pa_cons (pv 0) pa_nil)))) pss_nil)
  (pss_cons (ps_if (pt_cmpR op_gt (pe_ix ix_list (pv 2) pe_int (fun _ _ => rfl)) pe_int (nomark _)) (pss_cons (ps_set (i := 3) sc_l_take.nd rfl (Or.inl rfl) (pe_op op_mod (pe_callTy call_int1 (by rfl) T.b_int (by decide +kernel) (pa_cons (pe_ix ix_list (pv 2) pe_int (fun _ _ => rfl)) pa_nil)) (pv 1)))
  (pss_cons (ps_asg (pe_op op_fdivW (pe_ix ix_list (pv 2) pe_int (fun _ _ => rfl)) (pv 1)) (pg_sub (pv 2) pe_int set_list))
  (pss_one (ps_ret (pv 3))))) pss_nil)
  (pss_cons (ps_if (pt_cmpR op_gt (pe_ix ix_list (pv 2) pe_int (fun _ _ => rfl)) pe_int (nomark _)) (pss_one (ps_asg (pe_op op_sub (pe_ix ix_list (pv 2) pe_int (fun _ _ => rfl)) pe_int) (pg_sub (pv 2) pe_int set_list))) pss_nil)
  (pss_one (ps_ret (pe_call (ok_l_mixed T) (hr.mono (by decide)) (by rfl) T.l_mixed.gl T.l_mixed.fn.kp T.l_mixed.bd .nil pass0 (pa_cons (pe_ix ix_list (pv 2) pe_int (fun _ _ => rfl)) (pa_cons (pe_ix ix_list (pv 2) pe_int (fun _ _ => rfl)) (pa_cons (pv 1) pa_nil))))))))))))
theorem ok_l_start_due (T : Txt K mg a) : FnOk P w K mg base CX0 2 a.l_start_due a.l_start_due_d ["_law_spans_here", "_law_size_here", "_law_alignment_here", "_law_best"] (sp_start_due K) := by
  refine T.l_start_due.fn.ok sc_l_start_due (fun vs H Q E h => ?_) (fun cdv A outer s H vs Q E hr h => ⟨t_l_start_due K, ?_, pure_start_due  h⟩)
  · repeat' (first | (obtain ⟨e, _⟩ := h; (first | (subst e; rfl) | (rw [e]; rfl))) | (obtain ⟨_, h⟩ := h))
  · exact (pss_cons (ps_set (i := 4) sc_l_start_due.nd rfl (Or.inl rfl) pe_non)
  (pss_cons (ps_set (i := 5) sc_l_start_due.nd rfl (Or.inl rfl) pe_int)
  (pss_cons (ps_for PassesOwn.never rfl (pi_list (pv 0)) (pg_tup rfl (pgs_cons (pg_name (i := 6) sc_l_start_due.nd rfl (Or.inl rfl)) (pgs_cons (pg_name (i := 7) sc_l_start_due.nd rfl (Or.inl rfl)) pgs_nil))) (pss_cons (ps_set (i := 8) sc_l_start_due.nd rfl (Or.inl rfl) (pe_call (ok_l_up T) (hr.mono (by decide)) (by rfl) T.l_up.gl T.l_up.fn.kp T.l_up.bd .nil pass0 (pa_cons (pv 6) (pa_cons (pv 2) pa_nil))))
  (pss_one (ps_if (PW.pt (pw_and (pt_cmpR op_le (pe_op op_add (pv 8) (pv 1)) (pe_op op_add (pv 6) (pv 7)) (nomark _)) (pw_and1 (PW.pt (pw_or (pt_cmpR op_isN (pv 4) pe_non (nomark _)) (pw_or1 (PW.pt (pw_and (pt_val (pv 3)) (pw_and1 (pt_cmpR op_lt (pv 7) (pv 5) (nomark _))))))))))) (pss_cons (ps_set (i := 4) sc_l_start_due.nd rfl (Or.inl rfl) (pv 8))
  (pss_one (ps_set (i := 5) sc_l_start_due.nd rfl (Or.inl rfl) (pv 7)))) pss_nil))))
  (pss_one (ps_ret (pv 4))))))
theorem ok_l_normal_of (T : Txt K mg a) : FnOk P w K mg base CX0 2 a.l_normal_of a.l_normal_of_d ["_law_spans_here"] (sp_normal_of K) := by
  refine T.l_normal_of.fn.ok sc_l_normal_of (fun vs H Q E h => ?_) (fun cdv A outer s H vs Q E hr h => ⟨t_l_normal_of K, ?_, pure_normal_of  h⟩)
  · repeat' (first | (obtain ⟨e, _⟩ := h; (first | (subst e; rfl) | (rw [e]; rfl))) | (obtain ⟨_, h⟩ := h))
  · exact (pss_cons (ps_set (i := 1) sc_l_normal_of.nd rfl (Or.inl rfl) (pe_call (ok_l_cuts_of T) (hr.mono (by decide)) (by rfl) T.l_cuts_of.gl T.l_cuts_of.fn.kp T.l_cuts_of.bd .nil pass0 (pa_cons (pv 0) pa_nil)))
  (pss_cons (ps_set (i := 2) sc_l_normal_of.nd rfl (Or.inl rfl) (pe_lst pa_nil))
  (pss_cons (ps_for PassesOwn.never rfl (pi_range1 (by rfl) T.b_range (pa_cons (pe_op op_sub (pe_callB call_len (by rfl) T.b_len (by decide +kernel) (pa_cons (pv 1) pa_nil)) pe_int) pa_nil)) (pg_name (i := 3) sc_l_normal_of.nd rfl (Or.inl rfl)) (pss_one (ps_if (pt_val (pe_call (ok_l_held T) (hr.mono (by decide)) (by rfl) T.l_held.gl T.l_held.fn.kp T.l_held.bd .nil pass0 (pa_cons (pe_ix ix_list (pv 1) (pv 3) (fun _ _ => rfl)) (pa_cons (pv 0) pa_nil)))) (pss_one (ps_expr (pe_call (ok_l_glued T) (hr.mono (by decide)) (by rfl) T.l_glued.gl T.l_glued.fn.kp T.l_glued.bd .nil pass0 (pa_cons (pv 2) (pa_cons (pe_ix ix_list (pv 1) (pv 3) (fun _ _ => rfl)) (pa_cons (pe_ix ix_list (pv 1) (pe_op op_add (pv 3) pe_int) (fun _ _ => rfl)) pa_nil)))))) pss_nil)))
  (pss_one (ps_ret (pv 2))))))
theorem ok_p_is_align (T : Txt K mg a) : FnOk P w K mg base CX0 3 a.p_is_align a.p_is_align_d ["value", "most"] (sp_is_align K) := by
  refine T.p_is_align.fn.ok sc_p_is_align (fun vs H Q E h => ?_) (fun cdv A outer s H vs Q E hr h => ⟨t_p_is_align K, ?_, pure_is_align  h⟩)
  · repeat' (first | (obtain ⟨e, _⟩ := h; (first | (subst e; rfl) | (rw [e]; rfl))) | (obtain ⟨_, h⟩ := h))
  · exact (pss_one (ps_ret (pe_and (pe_call (ok_p_is_power T) (hr.mono (by decide)) (by rfl) T.p_is_power.gl T.p_is_power.fn.kp T.p_is_power.bd .nil pass0 (pa_cons (pv 0) pa_nil)) (pe_one (pe_cmpR op_le (pv 0) (pv 1) (nomark _))))))
theorem ok_c_Places_init (T : Txt K mg a) : FnOk P w K mg base (L2N.CX P w) 3 a.c_Places_init a.c_Places_init_d ["self", "spans"] (sp_places_init7 K a.c) := by
  obtain ⟨dvs, F⟩ := T.c_Places_init.fn
  refine F.ok sc_c_Places_init (fun vs H Q E h => ?_) (fun cdv A outer s H vs Q E hr h => ⟨t_c_Places_init K a.c E, ?_, pure_places_init7  h⟩)
  · repeat' (first | (obtain ⟨e, _⟩ := h; (first | (subst e; rfl) | (rw [e]; rfl))) | (obtain ⟨_, h⟩ := h))
  · exact (pss_one (ps_if (pt_val (pe_callB call_isi (by rfl) T.b_isinstance (by decide +kernel) (pa_cons (pv 1) (pa_cons (pe_glob (by rfl) T.k_Merged rfl) pa_nil)))) (pss_one (ps_fld (pv 0) (pe_fld (pv 1) rfl) rfl)) (pss_cons (ps_if (PW.pt (pw_or (pt_not (pt_val (pe_callB call_isiT (by rfl) T.b_isinstance (by decide +kernel) (pa_cons (pv 1) (pa_cons (pe_tup (pa_cons (pe_bltn (by rfl) T.b_list (by decide +kernel) rfl) (pa_cons (pe_bltn (by rfl) T.b_tuple (by decide +kernel) rfl) pa_nil))) pa_nil))))) (pw_or1 (pt_cmpR op_gt (pe_callB call_len (by rfl) T.b_len (by decide +kernel) (pa_cons (pv 1) pa_nil)) (pe_glob (by rfl) T.g_MOST_SPANS T.r_MOST_SPANS) (nomark _))))) (pss_one (L2N.ps_raise rfl (L2N.takes_of rfl rfl rfl rfl) (pmk_oexN T.bv.ox T.iC T.tI (ok_c_BadValue_init T) (hr.mono (by decide)) T.c_BadValue_init.bd .nil pass0 (by rfl) T.k_BadValue (pa_cons pe_str pa_nil)))) pss_nil)
  (pss_cons (ps_if (pt_not (pt_val (pe_callB (cr_all rfl) (by rfl) T.b_all (by decide +kernel) (pa_cons (pe_lc (own := [("span", 2)]) (g := (gName 2)) (tt := tYes) (by rfl) sc_c_Places_init.nd (pi_list (pv 1)) (blkOk_by (own := [("span", 2)]) (N := N_c_Places_init) (sc := defScope s_c_Places_init) (by decide +kernel)) (fun _ _ _ _ _ => pg_name (i := 2) sc_c_Places_init.nd rfl (Or.inl rfl)) (fun _ _ _ _ _ => pts_nil) (fun _ _ _ _ _ => (pe_call (ok_p_is_span T) (hr.mono (by decide)) (by rfl) T.p_is_span.gl T.p_is_span.fn.kp T.p_is_span.bd .nil pass0 (pa_cons (pv 2) pa_nil)))) pa_nil)))) (pss_one (L2N.ps_raise rfl (L2N.takes_of rfl rfl rfl rfl) (pmk_oexN T.bv.ox T.iC T.tI (ok_c_BadValue_init T) (hr.mono (by decide)) T.c_BadValue_init.bd .nil pass0 (by rfl) T.k_BadValue (pa_cons pe_str pa_nil)))) pss_nil)
  (pss_one (ps_fld (pv 0) (pe_callTy call_tuple_of (by rfl) T.b_tuple (by decide +kernel) (pa_cons (pe_call (ok_p_joined_rows T) (hr.mono (by decide)) (by rfl) T.p_joined_rows.gl T.p_joined_rows.fn.kp T.p_joined_rows.bd .nil pass0 (pa_cons (pv 1) pa_nil)) pa_nil)) rfl))))))
theorem ok_c_Places_covers (T : Txt K mg a) : FnOk P w K mg base (L2N.CX P w) 3 a.c_Places_covers a.c_Places_covers_d ["self", "span"] (sp_covers K a.c) := by
  refine okXN T.c_Places_covers.fn sc_c_Places_covers (fun vs H Q E h => ?_) (fun cdv A outer s H vs Q E hr h => ⟨t_c_Places_covers K a.c E, ?_, pure_covers  h⟩)
  · repeat' (first | (obtain ⟨e, _⟩ := h; (first | (subst e; rfl) | (rw [e]; rfl))) | (obtain ⟨_, h⟩ := h))
  · exact (pss_cons (ps_if (pt_not (pt_val (pe_call (ok_p_is_span T) (hr.mono (by decide)) (by rfl) T.p_is_span.gl T.p_is_span.fn.kp T.p_is_span.bd .nil pass0 (pa_cons (pv 1) pa_nil)))) (pss_one (L2N.ps_raise rfl (L2N.takes_of rfl rfl rfl rfl) (pmk_oexN T.bv.ox T.iC T.tI (ok_c_BadValue_init T) (hr.mono (by decide)) T.c_BadValue_init.bd .nil pass0 (by rfl) T.k_BadValue (pa_cons pe_str pa_nil)))) pss_nil)
  (pss_cons (ps_set (i := 2) sc_c_Places_covers.nd rfl (Or.inl rfl) (pe_call (ok_p_span_from T) (hr.mono (by decide)) (by rfl) T.p_span_from.gl T.p_span_from.fn.kp T.p_span_from.bd .nil pass0 (pa_cons (pe_fld (pv 0) rfl) (pa_cons (pe_ix ix_tup (pv 1) pe_int (fun _ _ => rfl)) pa_nil))))
  (pss_one (ps_ret (pe_and (pe_cmpR op_notN (pv 2) pe_non (nomark _)) (pe_one (pe_cmpR op_le (pe_op op_add (pe_ix ix_tup (pv 1) pe_int (fun _ _ => rfl)) (pe_ix ix_tup (pv 1) pe_int (fun _ _ => rfl))) (pe_op op_add (pe_ix ix_tup (pv 2) pe_int (fun _ _ => rfl)) (pe_ix ix_tup (pv 2) pe_int (fun _ _ => rfl))) (nomark _))))))))
theorem ok_l_among (T : Txt K mg a) : FnOk P w K mg base CX0 3 a.l_among a.l_among_d ["_law_draws_here", "_law_row"] (sp_among K) := by
  refine T.l_among.fn.ok sc_l_among (fun vs H Q E h => ?_) (fun cdv A outer s H vs Q E hr h => ⟨t_l_among K, ?_, pure_among  h⟩)
  · repeat' (first | (obtain ⟨e, _⟩ := h; (first | (subst e; rfl) | (rw [e]; rfl))) | (obtain ⟨_, h⟩ := h))
  · exact (pss_one (ps_ret (pe_ix ix_list (pv 1) (pe_call (ok_l_take T) (hr.mono (by decide)) (by rfl) T.l_take.gl T.l_take.fn.kp T.l_take.bd .nil pass0 (pa_cons (pv 0) (pa_cons (pe_callB call_len (by rfl) T.b_len (by decide +kernel) (pa_cons (pv 1) pa_nil)) pa_nil))) (fun _ _ => rfl))))
theorem ok_l_between (T : Txt K mg a) : FnOk P w K mg base CX0 3 a.l_between a.l_between_d ["_law_draws_here", "_law_low", "_law_high"] sp_between := by
  refine T.l_between.fn.ok sc_l_between (fun vs H Q E h => ?_) (fun cdv A outer s H vs Q E hr h => ⟨t_l_between K, ?_, pure_between  h⟩)
  · repeat' (first | (obtain ⟨e, _⟩ := h; (first | (subst e; rfl) | (rw [e]; rfl))) | (obtain ⟨_, h⟩ := h))
  · exact (pss_cons (ps_if (pt_cmpR op_le (pv 2) (pv 1) (nomark _)) (pss_one (ps_ret (pv 1))) pss_nil)
  (pss_cons (ps_set (i := 3) sc_l_between.nd rfl (Or.inl rfl) (pe_call (ok_l_take T) (hr.mono (by decide)) (by rfl) T.l_take.gl T.l_take.fn.kp T.l_take.bd .nil pass0 (pa_cons (pv 0) (pa_cons pe_int pa_nil))))
  (pss_cons (ps_if (pt_cmpR op_eq (pv 3) pe_int (nomark _)) (pss_one (ps_ret (pv 1))) pss_nil)
  (pss_cons (ps_if (pt_cmpR op_eq (pv 3) pe_int (nomark _)) (pss_one (ps_ret (pv 2))) pss_nil)
  (pss_one (ps_ret (pe_op op_add (pv 1) (pe_call (ok_l_take T) (hr.mono (by decide)) (by rfl) T.l_take.gl T.l_take.fn.kp T.l_take.bd .nil pass0 (pa_cons (pv 0) (pa_cons (pe_op op_add (pe_op op_sub (pv 2) (pv 1)) pe_int) pa_nil))))))))))
theorem ok_l_not_integer (T : Txt K mg a) : FnOk P w K mg base CX0 3 a.l_not_integer a.l_not_integer_d ["_law_draws_here"] sp_not_integer := by
  refine T.l_not_integer.fn.ok sc_l_not_integer (fun vs H Q E h => ?_) (fun cdv A outer s H vs Q E hr h => ⟨t_l_not_integer K, ?_, pure_not_integer  h⟩)
  · repeat' (first | (obtain ⟨e, _⟩ := h; (first | (subst e; rfl) | (rw [e]; rfl))) | (obtain ⟨_, h⟩ := h))
  · exact (pss_one (ps_ret (pe_ix ix_list (pe_lst (pa_cons pe_bl (pa_cons pe_bl (pa_cons pe_non (pa_cons pe_str (pa_cons pe_str (pa_cons pe_str (pa_cons (pe_lst pa_nil) (pa_cons (pe_tup pa_nil) (pa_cons (pe_lst (pa_cons pe_int pa_nil)) (pa_cons (pe_tup (pa_cons pe_int pa_nil)) (pa_cons (pe_disp (pps_cons pe_str pe_int pps_nil) (by rfl) (by rfl) (fun z => by cases z) (by decide)) pa_nil)))))))))))) (pe_call (ok_l_take T) (hr.mono (by decide)) (by rfl) T.l_take.gl T.l_take.fn.kp T.l_take.bd .nil pass0 (pa_cons (pv 0) (pa_cons pe_int pa_nil))) (fun _ _ => rfl))))
theorem ok_l_walked (T : Txt K mg a) : FnOk P w K mg base CX0 3 a.l_walked a.l_walked_d ["_law_spans_here", "_law_size_here", "_law_alignment_here", "_law_best"] (sp_walked K) := by
  refine T.l_walked.fn.ok sc_l_walked (fun vs H Q E h => ?_) (fun cdv A outer s H vs Q E hr h => ⟨t_l_walked K, ?_, pure_walked  h⟩)
  · repeat' (first | (obtain ⟨e, _⟩ := h; (first | (subst e; rfl) | (rw [e]; rfl))) | (obtain ⟨_, h⟩ := h))
  · exact (pss_cons (ps_set (i := 4) sc_l_walked.nd rfl (Or.inr rfl) pe_dnewK)
  (pss_cons (ps_for PassesOwn.never rfl (pi_list (pv 0)) (pg_name (i := 5) sc_l_walked.nd rfl (Or.inr rfl)) (pss_one (ps_for PassesOwn.never rfl (pi_range2 (by rfl) T.b_range (pa_cons (pe_ix ix_tup (pv 5) pe_int (fun _ _ => rfl)) (pa_cons (pe_op op_add (pe_ix ix_tup (pv 5) pe_int (fun _ _ => rfl)) (pe_ix ix_tup (pv 5) pe_int (fun _ _ => rfl))) pa_nil))) (pg_name (i := 6) sc_l_walked.nd rfl (Or.inl rfl)) (pss_one (ps_dput (hu_of hr) (pv 4) (pv 6) pe_bl rfl)))))
  (pss_cons (ps_setLc (i := 7) (own := [("_law_one", 9)]) (g := (gName 9)) (tt := (tB (tCall (sp_all_inside K) [] E0 (tCons (tVar 4) (tCons (tVar 9) (tCons (tCB rMin2 (tCons (tVar 1) (tCons (tC (.int 61)) tNil))) tNil)))))) (by rfl) sc_l_walked.nd rfl rfl (sw_true rfl rfl rfl (by decide +kernel)) (pi_range3B rfl T.b_range (pa_cons pe_int (pa_cons pe_int (pa_cons (pv 2) pa_nil)))) (blkOk_by (own := [("_law_one", 9)]) (N := N_l_walked) (sc := defScope s_l_walked) (by decide +kernel)) (fun _ _ _ _ _ => pg_name (i := 9) sc_l_walked.nd rfl (Or.inl rfl)) (fun _ _ _ _ _ => (pts_one (pt_val (pe_call (ok_l_all_inside T) (hr.mono (by decide)) (by rfl) T.l_all_inside.gl T.l_all_inside.fn.kp T.l_all_inside.bd .nil pass0 (pa_cons (pv 4) (pa_cons (pv 9) (pa_cons (pe_callB (call_min2 rfl) (by rfl) T.b_min (by decide +kernel) (pa_cons (pv 1) (pa_cons pe_int pa_nil))) pa_nil))))))) (fun _ _ _ _ _ => (pv 9)))
  (pss_cons (ps_if (pt_cmpR op_eq (pe_callB call_len (by rfl) T.b_len (by decide +kernel) (pa_cons (pv 7) pa_nil)) pe_int (nomark _)) (pss_one (ps_ret pe_non)) pss_nil)
  (pss_cons (ps_if (pt_not (pt_val (pv 3))) (pss_one (ps_ret (pe_callB (cr_min rfl) (by rfl) T.b_min (by decide +kernel) (pa_cons (pv 7) pa_nil)))) pss_nil)
  (pss_cons (ps_set (i := 8) sc_l_walked.nd rfl (Or.inl rfl) (pe_lst pa_nil))
  (pss_cons (ps_for PassesOwn.never rfl (pi_list (pe_call (ok_l_normal_of T) (hr.mono (by decide)) (by rfl) T.l_normal_of.gl T.l_normal_of.fn.kp T.l_normal_of.bd .nil pass0 (pa_cons (pv 0) pa_nil))) (pg_name (i := 5) sc_l_walked.nd rfl (Or.inr rfl)) (pss_one (ps_set (i := 8) sc_l_walked.nd rfl (Or.inl rfl) (pe_op op_cat (pv 8) (pe_lc (own := [("_law_one", 9)]) (g := (gName 9)) (tt := (tTest (tChain oLe oLt (tOp (rIxT K) (tVar 5) (tC (.int 0))) (tVar 9) (tOp oAdd (tOp (rIxT K) (tVar 5) (tC (.int 0))) (tOp (rIxT K) (tVar 5) (tC (.int 1))))))) (by rfl) sc_l_walked.nd (pi_list (pv 7)) (blkOk_by (own := [("_law_one", 9)]) (N := N_l_walked) (sc := defScope s_l_walked) (by decide +kernel)) (fun _ _ _ _ _ => pg_name (i := 9) sc_l_walked.nd rfl (Or.inl rfl)) (fun _ _ _ _ _ => (pts_one (pt_chain op_le op_lt (pe_ix ix_tup (pv 5) pe_int (fun _ _ => rfl)) (pv 9) (pe_op op_add (pe_ix ix_tup (pv 5) pe_int (fun _ _ => rfl)) (pe_ix ix_tup (pv 5) pe_int (fun _ _ => rfl)))))) (fun _ _ _ _ _ => (pe_tup (pa_cons (pe_ix ix_tup (pv 5) pe_int (fun _ _ => rfl)) (pa_cons (pv 9) pa_nil)))))))))
  (pss_one (ps_ret (pe_ix ix_tup (pe_callB (cr_minP rfl hr.units) (by rfl) T.b_min (by decide +kernel) (pa_cons (pv 8) pa_nil)) pe_int (fun _ _ => rfl)))))))))))
theorem ok_p_align_up (T : Txt K mg a) : FnOk P w K mg base CX0 4 a.p_align_up a.p_align_up_d ["number", "align"] sp_align_up := by
  refine T.p_align_up.fn.ok sc_p_align_up (fun vs H Q E h => ?_) (fun cdv A outer s H vs Q E hr h => ⟨t_p_align_up K, ?_, pure_align_up  h⟩)
  · repeat' (first | (obtain ⟨e, _⟩ := h; (first | (subst e; rfl) | (rw [e]; rfl))) | (obtain ⟨_, h⟩ := h))
  · exact (pss_cons (ps_if (pt_not (pt_val (pe_call (ok_p_whole_between T) (hr.mono (by decide)) (by rfl) T.p_whole_between.gl T.p_whole_between.fn.kp T.p_whole_between.bd .nil pass0 (pa_cons (pv 0) (pa_cons pe_int (pa_cons (pe_glob (by rfl) T.g_MOST_END T.r_MOST_END) pa_nil)))))) (pss_one ps_never) pss_nil)
  (pss_cons (ps_if (pt_not (pt_val (pe_call (ok_p_is_align T) (hr.mono (by decide)) (by rfl) T.p_is_align.gl T.p_is_align.fn.kp T.p_is_align.bd .nil pass0 (pa_cons (pv 1) (pa_cons (pe_glob (by rfl) T.g_MOST_ALIGN T.r_MOST_ALIGN) pa_nil))))) (pss_one ps_never) pss_nil)
  (pss_one (ps_ret (pe_op op_mul (pe_op op_fdivW (pe_op op_sub (pe_op op_add (pv 0) (pv 1)) pe_int) (pv 1)) (pv 1))))))
theorem ok_p_check_wish (T : Txt K mg a) : FnOk P w K mg base (L2N.CX P w) 4 a.p_check_wish a.p_check_wish_d ["size", "align"] (sp_check_wish K a.c) := by
  refine okXN T.p_check_wish.fn sc_p_check_wish (fun vs H Q E h => ?_) (fun cdv A outer s H vs Q E hr h => ⟨t_p_check_wish K a.c E, ?_, pure_check_wish  h⟩)
  · repeat' (first | (obtain ⟨e, _⟩ := h; (first | (subst e; rfl) | (rw [e]; rfl))) | (obtain ⟨_, h⟩ := h))
  · exact (pss_cons (ps_if (pt_not (pt_val (pe_call (ok_p_whole_between T) (hr.mono (by decide)) (by rfl) T.p_whole_between.gl T.p_whole_between.fn.kp T.p_whole_between.bd .nil pass0 (pa_cons (pv 0) (pa_cons pe_int (pa_cons (pe_glob (by rfl) T.g_MOST_END T.r_MOST_END) pa_nil)))))) (pss_one (L2N.ps_raise rfl (L2N.takes_of rfl rfl rfl rfl) (pmk_oexN T.bv.ox T.iC T.tI (ok_c_BadValue_init T) (hr.mono (by decide)) T.c_BadValue_init.bd .nil pass0 (by rfl) T.k_BadValue (pa_cons pe_str pa_nil)))) pss_nil)
  (pss_one (ps_if (pt_not (pt_val (pe_call (ok_p_is_align T) (hr.mono (by decide)) (by rfl) T.p_is_align.gl T.p_is_align.fn.kp T.p_is_align.bd .nil pass0 (pa_cons (pv 1) (pa_cons (pe_glob (by rfl) T.g_MOST_ALIGN T.r_MOST_ALIGN) pa_nil))))) (pss_one (L2N.ps_raise rfl (L2N.takes_of rfl rfl rfl rfl) (pmk_oexN T.bv.ox T.iC T.tI (ok_c_BadValue_init T) (hr.mono (by decide)) T.c_BadValue_init.bd .nil pass0 (by rfl) T.k_BadValue (pa_cons pe_str pa_nil)))) pss_nil)))
theorem ok_l_count (T : Txt K mg a) : FnOk P w K mg base CX0 4 a.l_count a.l_count_d ["_law_draws_here", "_law_small", "_law_great"] sp_count := by
  refine T.l_count.fn.ok sc_l_count (fun vs H Q E h => ?_) (fun cdv A outer s H vs Q E hr h => ⟨t_l_count K, ?_, pure_count  h⟩)
  · repeat' (first | (obtain ⟨e, _⟩ := h; (first | (subst e; rfl) | (rw [e]; rfl))) | (obtain ⟨_, h⟩ := h))
  · exact (pss_cons (ps_if (pt_cmpR op_eq (pe_call (ok_l_take T) (hr.mono (by decide)) (by rfl) T.l_take.gl T.l_take.fn.kp T.l_take.bd .nil pass0 (pa_cons (pv 0) (pa_cons pe_int pa_nil))) pe_int (nomark _)) (pss_one (ps_ret (pe_call (ok_l_between T) (hr.mono (by decide)) (by rfl) T.l_between.gl T.l_between.fn.kp T.l_between.bd .nil pass0 (pa_cons (pv 0) (pa_cons (pv 1) (pa_cons (pv 2) pa_nil)))))) pss_nil)
  (pss_one (ps_ret (pe_call (ok_l_between T) (hr.mono (by decide)) (by rfl) T.l_between.gl T.l_between.fn.kp T.l_between.bd .nil pass0 (pa_cons (pv 0) (pa_cons pe_int (pa_cons (pv 1) pa_nil)))))))
theorem ok_l_alignment (T : Txt K mg a) : FnOk P w K mg base CX0 4 a.l_alignment a.l_alignment_d ["_law_draws_here", "_law_most"] sp_alignment := by
  refine T.l_alignment.fn.ok sc_l_alignment (fun vs H Q E h => ?_) (fun cdv A outer s H vs Q E hr h => ⟨t_l_alignment K, ?_, pure_alignment  h⟩)
  · repeat' (first | (obtain ⟨e, _⟩ := h; (first | (subst e; rfl) | (rw [e]; rfl))) | (obtain ⟨_, h⟩ := h))
  · exact (pss_cons (ps_set (i := 2) sc_l_alignment.nd rfl (Or.inl rfl) pe_int)
  (pss_cons (ps_for PassesOwn.never rfl (pi_range1 (by rfl) T.b_range (pa_cons (pe_call (ok_l_between T) (hr.mono (by decide)) (by rfl) T.l_between.gl T.l_between.fn.kp T.l_between.bd .nil pass0 (pa_cons (pv 0) (pa_cons pe_int (pa_cons (pv 1) pa_nil)))) pa_nil)) (pg_name (i := 3) sc_l_alignment.nd rfl (Or.inl rfl)) (pss_one (ps_set (i := 2) sc_l_alignment.nd rfl (Or.inl rfl) (pe_op op_mul (pv 2) pe_int))))
  (pss_one (ps_ret (pv 2)))))
theorem ok_l_not_within (T : Txt K mg a) : FnOk P w K mg base CX0 4 a.l_not_within a.l_not_within_d ["_law_draws_here", "_law_low", "_law_high"] sp_not_within := by
  refine T.l_not_within.fn.ok sc_l_not_within (fun vs H Q E h => ?_) (fun cdv A outer s H vs Q E hr h => ⟨t_l_not_within K, ?_, pure_not_within  h⟩)
  · repeat' (first | (obtain ⟨e, _⟩ := h; (first | (subst e; rfl) | (rw [e]; rfl))) | (obtain ⟨_, h⟩ := h))
  · exact (pss_cons (ps_set (i := 3) sc_l_not_within.nd rfl (Or.inl rfl) (pe_call (ok_l_take T) (hr.mono (by decide)) (by rfl) T.l_take.gl T.l_take.fn.kp T.l_take.bd .nil pass0 (pa_cons (pv 0) (pa_cons pe_int pa_nil))))
  (pss_cons (ps_if (pt_cmpR op_lt (pv 3) pe_int (nomark _)) (pss_one (ps_ret (pe_ix ix_list (pe_lst (pa_cons (pe_op op_sub (pv 1) pe_int) (pa_cons (pe_op op_add (pv 2) pe_int) pa_nil))) (pv 3) (fun _ _ => rfl)))) pss_nil)
  (pss_cons (ps_if (pt_cmpR op_eq (pv 3) pe_int (nomark _)) (pss_one (ps_ret (pe_op op_add (pe_op op_add (pv 2) pe_int) (pe_call (ok_l_take T) (hr.mono (by decide)) (by rfl) T.l_take.gl T.l_take.fn.kp T.l_take.bd .nil pass0 (pa_cons (pv 0) (pa_cons (pe_op op_pow pe_int pe_int) pa_nil)))))) pss_nil)
  (pss_cons (ps_if (pt_cmpR op_eq (pv 3) pe_int (nomark _)) (pss_one (ps_ret (pe_op op_sub (pe_op op_sub (pv 1) pe_int) (pe_call (ok_l_take T) (hr.mono (by decide)) (by rfl) T.l_take.gl T.l_take.fn.kp T.l_take.bd .nil pass0 (pa_cons (pv 0) (pa_cons (pe_op op_pow pe_int pe_int) pa_nil)))))) pss_nil)
  (pss_cons (ps_if (pt_cmpR op_eq (pv 3) pe_int (nomark _)) (pss_one (ps_ret (pe_ix ix_list (pe_lst (pa_cons (pe_call0 (ok_l_long T) (hr.mono (by decide)) (by rfl) T.l_long.gl T.l_long.fn.kp T.l_long.bd .nil pass0) (pa_cons (pe_un un_neg (pe_call0 (ok_l_long T) (hr.mono (by decide)) (by rfl) T.l_long.gl T.l_long.fn.kp T.l_long.bd .nil pass0)) pa_nil))) (pe_call (ok_l_take T) (hr.mono (by decide)) (by rfl) T.l_take.gl T.l_take.fn.kp T.l_take.bd .nil pass0 (pa_cons (pv 0) (pa_cons pe_int pa_nil))) (fun _ _ => rfl)))) pss_nil)
  (pss_one (ps_ret (pe_call (ok_l_not_integer T) (hr.mono (by decide)) (by rfl) T.l_not_integer.gl T.l_not_integer.fn.kp T.l_not_integer.bd .nil pass0 (pa_cons (pv 0) pa_nil)))))))))
theorem ok_l_not_alignment (T : Txt K mg a) : FnOk P w K mg base CX0 4 a.l_not_alignment a.l_not_alignment_d ["_law_draws_here", "_law_most"] sp_not_alignment := by
  refine T.l_not_alignment.fn.ok sc_l_not_alignment (fun vs H Q E h => ?_) (fun cdv A outer s H vs Q E hr h => ⟨t_l_not_alignment K, ?_, pure_not_alignment  h⟩)
  · repeat' (first | (obtain ⟨e, _⟩ := h; (first | (subst e; rfl) | (rw [e]; rfl))) | (obtain ⟨_, h⟩ := h))
  · exact (pss_cons (ps_set (i := 2) sc_l_not_alignment.nd rfl (Or.inl rfl) (pe_call (ok_l_take T) (hr.mono (by decide)) (by rfl) T.l_take.gl T.l_take.fn.kp T.l_take.bd .nil pass0 (pa_cons (pv 0) (pa_cons pe_int pa_nil))))
  (pss_cons (ps_if (pt_cmpR op_lt (pv 2) pe_int (nomark _)) (pss_one (ps_ret (pe_ix ix_list (pe_lst (pa_cons pe_int (pa_cons (pe_un un_neg pe_int) (pa_cons (pe_un un_neg pe_int) (pa_cons pe_int (pa_cons (pe_op op_add (pv 1) (pv 1)) (pa_cons (pe_op op_add (pe_op op_add (pv 1) (pv 1)) pe_int) pa_nil))))))) (pv 2) (fun _ _ => rfl)))) pss_nil)
  (pss_cons (ps_if (pt_cmpR op_eq (pv 2) pe_int (nomark _)) (pss_one (ps_ret (pe_call (ok_l_among T) (hr.mono (by decide)) (by rfl) T.l_among.gl T.l_among.fn.kp T.l_among.bd .nil pass0 (pa_cons (pv 0) (pa_cons (pe_lst (pa_cons pe_int (pa_cons pe_int (pa_cons (pe_op op_pow pe_int pe_int) (pa_cons (pe_call0 (ok_l_long T) (hr.mono (by decide)) (by rfl) T.l_long.gl T.l_long.fn.kp T.l_long.bd .nil pass0) (pa_cons (pe_un un_neg (pv 1)) (pa_cons (pe_op op_mul (pv 1) pe_int) pa_nil))))))) pa_nil))))) pss_nil)
  (pss_one (ps_ret (pe_call (ok_l_not_integer T) (hr.mono (by decide)) (by rfl) T.l_not_integer.gl T.l_not_integer.fn.kp T.l_not_integer.bd .nil pass0 (pa_cons (pv 0) pa_nil)))))))
theorem ok_l_due (T : Txt K mg a) : FnOk P w K mg base CX0 4 a.l_due a.l_due_d ["_law_spans_here", "_law_size_here", "_law_alignment_here", "_law_best"] (sp_due5 K) := by
  refine T.l_due.fn.ok sc_l_due (fun vs H Q E h => ?_) (fun cdv A outer s H vs Q E hr h => ⟨t_l_due K, ?_, pure_due5  h⟩)
  · repeat' (first | (obtain ⟨e, _⟩ := h; (first | (subst e; rfl) | (rw [e]; rfl))) | (obtain ⟨_, h⟩ := h))
  · exact (pss_cons (ps_if (pt_cmpR op_le (pe_callB (cr_max rfl) (by rfl) T.b_max (by decide +kernel) (pa_cons (pe_op op_cat (pe_lst (pa_cons pe_int pa_nil)) (pe_lc (own := [("_law_one", 4)]) (g := (gName 4)) (tt := tYes) (by rfl) sc_l_due.nd (pi_list (pv 0)) (blkOk_by (own := [("_law_one", 4)]) (N := N_l_due) (sc := defScope s_l_due) (by decide +kernel)) (fun _ _ _ _ _ => pg_name (i := 4) sc_l_due.nd rfl (Or.inl rfl)) (fun _ _ _ _ _ => pts_nil) (fun _ _ _ _ _ => (pe_op op_add (pe_ix ix_tup (pv 4) pe_int (fun _ _ => rfl)) (pe_ix ix_tup (pv 4) pe_int (fun _ _ => rfl)))))) pa_nil)) pe_int (nomark _)) (pss_one (ps_ret (pe_call (ok_l_walked T) (hr.mono (by decide)) (by rfl) T.l_walked.gl T.l_walked.fn.kp T.l_walked.bd .nil pass0 (pa_cons (pv 0) (pa_cons (pv 1) (pa_cons (pv 2) (pa_cons (pv 3) pa_nil))))))) pss_nil)
  (pss_one (ps_ret (pe_call (ok_l_start_due T) (hr.mono (by decide)) (by rfl) T.l_start_due.gl T.l_start_due.fn.kp T.l_start_due.bd .nil pass0 (pa_cons (pe_call (ok_l_normal_of T) (hr.mono (by decide)) (by rfl) T.l_normal_of.gl T.l_normal_of.fn.kp T.l_normal_of.bd .nil pass0 (pa_cons (pv 0) pa_nil)) (pa_cons (pv 1) (pa_cons (pv 2) (pa_cons (pv 3) pa_nil))))))))
theorem ok_p_start_within (T : Txt K mg a) : FnOk P w K mg base CX0 5 a.p_start_within a.p_start_within_d ["span", "size", "align"] (sp_start_within K) := by
  refine T.p_start_within.fn.ok sc_p_start_within (fun vs H Q E h => ?_) (fun cdv A outer s H vs Q E hr h => ⟨t_p_start_within K, ?_, pure_start_within  h⟩)
  · repeat' (first | (obtain ⟨e, _⟩ := h; (first | (subst e; rfl) | (rw [e]; rfl))) | (obtain ⟨_, h⟩ := h))
  · exact (pss_cons (ps_set (i := 3) sc_p_start_within.nd rfl (Or.inl rfl) (pe_call (ok_p_align_up T) (hr.mono (by decide)) (by rfl) T.p_align_up.gl T.p_align_up.fn.kp T.p_align_up.bd .nil pass0 (pa_cons (pe_ix ix_tup (pv 0) pe_int (fun _ _ => rfl)) (pa_cons (pv 2) pa_nil))))
  (pss_cons (ps_if (pt_cmpR op_gt (pe_op op_add (pv 3) (pv 1)) (pe_op op_add (pe_ix ix_tup (pv 0) pe_int (fun _ _ => rfl)) (pe_ix ix_tup (pv 0) pe_int (fun _ _ => rfl))) (nomark _)) (pss_one (ps_ret pe_non)) pss_nil)
  (pss_one (ps_ret (pv 3)))))
theorem ok_l_number (T : Txt K mg a) : FnOk P w K mg base CX0 5 a.l_number a.l_number_d ["_law_draws_here", "_law_low", "_law_high"] sp_number := by
  refine T.l_number.fn.ok sc_l_number (fun vs H Q E h => ?_) (fun cdv A outer s H vs Q E hr h => ⟨t_l_number K, ?_, pure_number  h⟩)
  · repeat' (first | (obtain ⟨e, _⟩ := h; (first | (subst e; rfl) | (rw [e]; rfl))) | (obtain ⟨_, h⟩ := h))
  · exact (pss_cons (ps_if (pt_cmpR op_lt (pe_op op_sub (pv 2) (pv 1)) pe_int (nomark _)) (pss_one (ps_ret (pe_call (ok_l_between T) (hr.mono (by decide)) (by rfl) T.l_between.gl T.l_between.fn.kp T.l_between.bd .nil pass0 (pa_cons (pv 0) (pa_cons (pv 1) (pa_cons (pv 2) pa_nil)))))) pss_nil)
  (pss_cons (ps_set (i := 3) sc_l_number.nd rfl (Or.inl rfl) (pe_call (ok_l_take T) (hr.mono (by decide)) (by rfl) T.l_take.gl T.l_take.fn.kp T.l_take.bd .nil pass0 (pa_cons (pv 0) (pa_cons pe_int pa_nil))))
  (pss_cons (ps_if (pt_cmpR op_lt (pv 3) pe_int (nomark _)) (pss_one (ps_ret (pe_ix ix_list (pe_lst (pa_cons (pv 1) (pa_cons (pv 2) (pa_cons (pe_op op_add (pv 1) pe_int) (pa_cons (pe_op op_sub (pv 2) pe_int) pa_nil))))) (pv 3) (fun _ _ => rfl)))) pss_nil)
  (pss_cons (ps_if (pt_cmpR op_lt (pv 3) pe_int (nomark _)) (pss_one (ps_ret (pe_op op_add (pv 1) (pe_call (ok_l_take T) (hr.mono (by decide)) (by rfl) T.l_take.gl T.l_take.fn.kp T.l_take.bd .nil pass0 (pa_cons (pv 0) (pa_cons (pe_op op_add (pe_callB (call_min2 rfl) (by rfl) T.b_min (by decide +kernel) (pa_cons (pe_op op_sub (pv 2) (pv 1)) (pa_cons pe_int pa_nil))) pe_int) pa_nil)))))) pss_nil)
  (pss_cons (ps_if (pt_cmpR op_eq (pv 3) pe_int (nomark _)) (pss_one (ps_ret (pe_callB (call_max2 rfl) (by rfl) T.b_max (by decide +kernel) (pa_cons (pv 1) (pa_cons (pe_callB (call_min2 rfl) (by rfl) T.b_min (by decide +kernel) (pa_cons (pv 2) (pa_cons (pe_op op_sub (pe_op op_add (pe_call (ok_l_alignment T) (hr.mono (by decide)) (by rfl) T.l_alignment.gl T.l_alignment.fn.kp T.l_alignment.bd .nil pass0 (pa_cons (pv 0) (pa_cons pe_int pa_nil))) (pe_call (ok_l_take T) (hr.mono (by decide)) (by rfl) T.l_take.gl T.l_take.fn.kp T.l_take.bd .nil pass0 (pa_cons (pv 0) (pa_cons pe_int pa_nil)))) pe_int) pa_nil))) pa_nil))))) pss_nil)
  (pss_one (ps_ret (pe_op op_add (pv 1) (pe_call (ok_l_take T) (hr.mono (by decide)) (by rfl) T.l_take.gl T.l_take.fn.kp T.l_take.bd .nil pass0 (pa_cons (pv 0) (pa_cons (pe_op op_add (pe_op op_sub (pv 2) (pv 1)) pe_int) pa_nil)))))))))))
theorem ok_c_Places_first_start (T : Txt K mg a) : FnOk P w K mg base (L2N.CX P w) 6 a.c_Places_first_start a.c_Places_first_start_d ["self", "size", "align"] (sp_first_start K a.c) := by
  refine okXN T.c_Places_first_start.fn sc_c_Places_first_start (fun vs H Q E h => ?_) (fun cdv A outer s H vs Q E hr h => ⟨t_c_Places_first_start K a.c E, ?_, pure_first_start  h⟩)
  · repeat' (first | (obtain ⟨e, _⟩ := h; (first | (subst e; rfl) | (rw [e]; rfl))) | (obtain ⟨_, h⟩ := h))
  · exact (pss_cons (ps_expr (pe_call (ok_p_check_wish T) (hr.mono (by decide)) (by rfl) T.p_check_wish.gl T.p_check_wish.fn.kp T.p_check_wish.bd .nil (L2N.passes_call (L2N.takes_of rfl rfl rfl rfl) (fun _ _ _ _ h => h)) (pa_cons (pv 1) (pa_cons (pv 2) pa_nil))))
  (pss_cons (ps_for (passes_of rfl) rfl (pi_tup (pe_fld (pv 0) rfl)) (pg_name (i := 3) sc_c_Places_first_start.nd rfl (Or.inl rfl)) (pss_cons (ps_set (i := 4) sc_c_Places_first_start.nd rfl (Or.inl rfl) (pe_call (ok_p_start_within T) (hr.mono (by decide)) (by rfl) T.p_start_within.gl T.p_start_within.fn.kp T.p_start_within.bd .nil pass0 (pa_cons (pv 3) (pa_cons (pv 1) (pa_cons (pv 2) pa_nil)))))
  (pss_one (ps_if (pt_cmpR op_notN (pv 4) pe_non (nomark _)) (pss_one (ps_ret (pv 4))) pss_nil))))
  (pss_one (ps_ret pe_non))))
theorem ok_c_Places_best_start (T : Txt K mg a) : FnOk P w K mg base (L2N.CX P w) 6 a.c_Places_best_start a.c_Places_best_start_d ["self", "size", "align"] (sp_best_start K a.c) := by
  refine okXN T.c_Places_best_start.fn sc_c_Places_best_start (fun vs H Q E h => ?_) (fun cdv A outer s H vs Q E hr h => ⟨t_c_Places_best_start K a.c E, ?_, pure_best_start  h⟩)
  · repeat' (first | (obtain ⟨e, _⟩ := h; (first | (subst e; rfl) | (rw [e]; rfl))) | (obtain ⟨_, h⟩ := h))
  · exact (pss_cons (ps_expr (pe_call (ok_p_check_wish T) (hr.mono (by decide)) (by rfl) T.p_check_wish.gl T.p_check_wish.fn.kp T.p_check_wish.bd .nil (L2N.passes_call (L2N.takes_of rfl rfl rfl rfl) (fun _ _ _ _ h => h)) (pa_cons (pv 1) (pa_cons (pv 2) pa_nil))))
  (pss_cons (ps_set (i := 3) sc_c_Places_best_start.nd rfl (Or.inl rfl) pe_non)
  (pss_cons (ps_set (i := 4) sc_c_Places_best_start.nd rfl (Or.inl rfl) pe_int)
  (pss_cons (ps_for (passes_of rfl) rfl (pi_tup (pe_fld (pv 0) rfl)) (pg_name (i := 5) sc_c_Places_best_start.nd rfl (Or.inl rfl)) (pss_cons (ps_set (i := 6) sc_c_Places_best_start.nd rfl (Or.inl rfl) (pe_call (ok_p_start_within T) (hr.mono (by decide)) (by rfl) T.p_start_within.gl T.p_start_within.fn.kp T.p_start_within.bd .nil pass0 (pa_cons (pv 5) (pa_cons (pv 1) (pa_cons (pv 2) pa_nil)))))
  (pss_one (ps_if (PW.pt (pw_and (pt_cmpR op_notN (pv 6) pe_non (nomark _)) (pw_and1 (PW.pt (pw_or (pt_cmpR op_isN (pv 3) pe_non (nomark _)) (pw_or1 (pt_cmpR op_lt (pe_ix ix_tup (pv 5) pe_int (fun _ _ => rfl)) (pv 4) (nomark _)))))))) (pss_cons (ps_set (i := 3) sc_c_Places_best_start.nd rfl (Or.inl rfl) (pv 6))
  (pss_one (ps_set (i := 4) sc_c_Places_best_start.nd rfl (Or.inl rfl) (pe_ix ix_tup (pv 5) pe_int (fun _ _ => rfl))))) pss_nil))))
  (pss_one (ps_ret (pv 3)))))))
theorem ok_l_span (T : Txt K mg a) : FnOk P w K mg base CX0 6 a.l_span a.l_span_d ["_law_draws_here", "_law_most"] (sp_span7 K) := by
  refine T.l_span.fn.ok sc_l_span (fun vs H Q E h => ?_) (fun cdv A outer s H vs Q E hr h => ⟨t_l_span5 K, ?_, pure_span5  h⟩)
  · repeat' (first | (obtain ⟨e, _⟩ := h; (first | (subst e; rfl) | (rw [e]; rfl))) | (obtain ⟨_, h⟩ := h))
  · exact (pss_cons (ps_set (i := 2) sc_l_span.nd rfl (Or.inl rfl) (pe_call (ok_l_between T) (hr.mono (by decide)) (by rfl) T.l_between.gl T.l_between.fn.kp T.l_between.bd .nil pass0 (pa_cons (pv 0) (pa_cons pe_int (pa_cons (pe_callB (call_min2 rfl) (by rfl) T.b_min (by decide +kernel) (pa_cons (pv 1) (pa_cons pe_int pa_nil))) pa_nil)))))
  (pss_cons (ps_if (pt_cmpR op_eq (pe_call (ok_l_take T) (hr.mono (by decide)) (by rfl) T.l_take.gl T.l_take.fn.kp T.l_take.bd .nil pass0 (pa_cons (pv 0) (pa_cons pe_int pa_nil))) pe_int (nomark _)) (pss_one (ps_set (i := 2) sc_l_span.nd rfl (Or.inl rfl) (pe_call (ok_l_number T) (hr.mono (by decide)) (by rfl) T.l_number.gl T.l_number.fn.kp T.l_number.bd .nil pass0 (pa_cons (pv 0) (pa_cons pe_int (pa_cons (pv 1) pa_nil)))))) pss_nil)
  (pss_one (ps_ret (pe_tup (pa_cons (pe_call (ok_l_number T) (hr.mono (by decide)) (by rfl) T.l_number.gl T.l_number.fn.kp T.l_number.bd .nil pass0 (pa_cons (pv 0) (pa_cons pe_int (pa_cons (pe_op op_sub (pv 1) (pv 2)) pa_nil)))) (pa_cons (pv 2) pa_nil)))))))
theorem ok_l_size (T : Txt K mg a) : FnOk P w K mg base CX0 6 a.l_size a.l_size_d ["_law_draws_here", "_law_due_here"] (sp_size5 K) := by
  refine T.l_size.fn.ok sc_l_size (fun vs H Q E h => ?_) (fun cdv A outer s H vs Q E hr h => ⟨t_l_size K, ?_, pure_size5  h⟩)
  · repeat' (first | (obtain ⟨e, _⟩ := h; (first | (subst e; rfl) | (rw [e]; rfl))) | (obtain ⟨_, h⟩ := h))
  · exact (pss_cons (ps_if (PW.pt (pw_and (pt_cmpR op_gt (pe_callB call_len (by rfl) T.b_len (by decide +kernel) (pa_cons (pv 1) pa_nil)) pe_int (nomark _)) (pw_and1 (pt_cmpR op_gt (pe_call (ok_l_take T) (hr.mono (by decide)) (by rfl) T.l_take.gl T.l_take.fn.kp T.l_take.bd .nil pass0 (pa_cons (pv 0) (pa_cons pe_int pa_nil))) pe_int (nomark _))))) (pss_one (ps_ret (pe_callB (call_max2 rfl) (by rfl) T.b_max (by decide +kernel) (pa_cons pe_int (pa_cons (pe_callB (call_min2 rfl) (by rfl) T.b_min (by decide +kernel) (pa_cons (pe_op op_pow pe_int pe_int) (pa_cons (pe_op op_add (pe_op op_sub (pe_ix ix_tup (pe_call (ok_l_among T) (hr.mono (by decide)) (by rfl) T.l_among.gl T.l_among.fn.kp T.l_among.bd .nil pass0 (pa_cons (pv 0) (pa_cons (pv 1) pa_nil))) pe_int (fun _ _ => rfl)) (pe_call (ok_l_take T) (hr.mono (by decide)) (by rfl) T.l_take.gl T.l_take.fn.kp T.l_take.bd .nil pass0 (pa_cons (pv 0) (pa_cons pe_int pa_nil)))) (pe_op op_mul pe_int (pe_call (ok_l_take T) (hr.mono (by decide)) (by rfl) T.l_take.gl T.l_take.fn.kp T.l_take.bd .nil pass0 (pa_cons (pv 0) (pa_cons pe_int pa_nil))))) pa_nil))) pa_nil))))) pss_nil)
  (pss_one (ps_ret (pe_call (ok_l_number T) (hr.mono (by decide)) (by rfl) T.l_number.gl T.l_number.fn.kp T.l_number.bd .nil pass0 (pa_cons (pv 0) (pa_cons pe_int (pa_cons (pe_op op_pow pe_int pe_int) pa_nil)))))))
theorem ok_l_same (T : Txt K mg a) : ∀ n : Nat, FnOk P w K mg base CX0 (n + 1) a.l_same a.l_same_d ["_law_actual", "_law_expected"] (sp_same n)
  | 0 => fn_false
  | n + 1 => by
    have ih := ok_l_same T n
    refine T.l_same.fn.ok sc_l_same (fun vs H Q E h => ?_) (fun cdv A outer s H vs Q E hr h => ⟨t_l_same K n, ?_, pure_same h⟩)
    · repeat' (first | (obtain ⟨e, _⟩ := h; (first | (subst e; rfl) | (rw [e]; rfl))) | (obtain ⟨_, h⟩ := h))
    · exact (pss_cons (ps_if (PW.pt (pw_or (pt_cmpR op_isN (pv 0) pe_non (nomark _)) (pw_or1 (pt_cmpR op_isN (pv 1) pe_non (nomark _))))) (pss_one (ps_ret (pe_and (pe_cmpR op_isN (pv 0) pe_non (nomark _)) (pe_one (pe_cmpR op_isN (pv 1) pe_non (nomark _)))))) pss_nil)
  (pss_cons (ps_if (PW.pt (pw_or (pt_val (pe_callB call_isi (by rfl) T.b_isinstance (by decide +kernel) (pa_cons (pv 0) (pa_cons (pe_bltn (by rfl) T.b_bool (by decide +kernel) rfl) pa_nil)))) (pw_or1 (pt_val (pe_callB call_isi (by rfl) T.b_isinstance (by decide +kernel) (pa_cons (pv 1) (pa_cons (pe_bltn (by rfl) T.b_bool (by decide +kernel) rfl) pa_nil))))))) (pss_one (ps_ret (pe_and (pe_callB call_isi (by rfl) T.b_isinstance (by decide +kernel) (pa_cons (pv 0) (pa_cons (pe_bltn (by rfl) T.b_bool (by decide +kernel) rfl) pa_nil))) (pe_and (pe_callB call_isi (by rfl) T.b_isinstance (by decide +kernel) (pa_cons (pv 1) (pa_cons (pe_bltn (by rfl) T.b_bool (by decide +kernel) rfl) pa_nil))) (pe_one (pe_cmpR op_eq (pv 0) (pv 1) (nomark _))))))) pss_nil)
  (pss_cons (ps_if (pt_val (pe_callB call_isi (by rfl) T.b_isinstance (by decide +kernel) (pa_cons (pv 1) (pa_cons (pe_bltn (by rfl) T.b_int (by decide +kernel) rfl) pa_nil)))) (pss_one (ps_ret (pe_and (pe_callB call_isi (by rfl) T.b_isinstance (by decide +kernel) (pa_cons (pv 0) (pa_cons (pe_bltn (by rfl) T.b_int (by decide +kernel) rfl) pa_nil))) (pe_one (pe_cmpR op_eq (pv 0) (pv 1) (nomark _)))))) pss_nil)
  (pss_cons (ps_if (pt_val (pe_callB call_isi (by rfl) T.b_isinstance (by decide +kernel) (pa_cons (pv 1) (pa_cons (pe_bltn (by rfl) T.b_str (by decide +kernel) rfl) pa_nil)))) (pss_one (ps_ret (pe_and (pe_callB call_isi (by rfl) T.b_isinstance (by decide +kernel) (pa_cons (pv 0) (pa_cons (pe_bltn (by rfl) T.b_str (by decide +kernel) rfl) pa_nil))) (pe_one (pe_cmpR op_eq (pv 0) (pv 1) (nomark _)))))) pss_nil)
  (pss_cons (ps_if (pt_val (pe_callB call_isi (by rfl) T.b_isinstance (by decide +kernel) (pa_cons (pv 1) (pa_cons (pe_bltn (by rfl) T.b_dict (by decide +kernel) rfl) pa_nil)))) (pss_cons (ps_if (PW.pt (pw_or (pt_not (pt_val (pe_callB call_isi (by rfl) T.b_isinstance (by decide +kernel) (pa_cons (pv 0) (pa_cons (pe_bltn (by rfl) T.b_dict (by decide +kernel) rfl) pa_nil))))) (pw_or1 (pt_cmpR op_ne (pe_callB call_lenD (by rfl) T.b_len (by decide +kernel) (pa_cons (pv 0) pa_nil)) (pe_callB call_lenD (by rfl) T.b_len (by decide +kernel) (pa_cons (pv 1) pa_nil)) (nomark _))))) (pss_one (ps_ret pe_bl)) pss_nil)
  (pss_cons (ps_for PassesOwn.never rfl (pi_list (pe_callTy (call_listD rfl) (by rfl) T.b_list (by decide +kernel) (pa_cons (pv 1) pa_nil))) (pg_name (i := 2) sc_l_same.nd rfl (Or.inl rfl)) (pss_one (ps_if (PW.pt (pw_or (pt_cmp (pc_dnotin (hu_of hr) (pv 2) (pv 0))) (pw_or1 (pt_not (pt_val (pe_call ih (hr.mono (by omega)) (by rfl) T.l_same.gl T.l_same.fn.kp T.l_same.bd .nil pass0 (pa_cons (pe_dget (hu_of hr) (pv 0) (pv 2) (fun _ _ => rfl)) (pa_cons (pe_dget (hu_of hr) (pv 1) (pv 2) (fun _ _ => rfl)) pa_nil)))))))) (pss_one (ps_ret pe_bl)) pss_nil)))
  (pss_one (ps_ret pe_bl)))) pss_nil)
  (pss_cons (ps_if (pt_cmpR op_ne (pe_callB call_isi (by rfl) T.b_isinstance (by decide +kernel) (pa_cons (pv 1) (pa_cons (pe_bltn (by rfl) T.b_list (by decide +kernel) rfl) pa_nil))) (pe_callB call_isi (by rfl) T.b_isinstance (by decide +kernel) (pa_cons (pv 0) (pa_cons (pe_bltn (by rfl) T.b_list (by decide +kernel) rfl) pa_nil))) (nomark _)) (pss_one (ps_ret pe_bl)) pss_nil)
  (pss_cons (ps_if (pt_cmpR op_ne (pe_callB call_isi (by rfl) T.b_isinstance (by decide +kernel) (pa_cons (pv 1) (pa_cons (pe_bltn (by rfl) T.b_tuple (by decide +kernel) rfl) pa_nil))) (pe_callB call_isi (by rfl) T.b_isinstance (by decide +kernel) (pa_cons (pv 0) (pa_cons (pe_bltn (by rfl) T.b_tuple (by decide +kernel) rfl) pa_nil))) (nomark _)) (pss_one (ps_ret pe_bl)) pss_nil)
  (pss_cons (ps_if (PW.pt (pw_or (PW.pt (pw_and (pt_not (pt_val (pe_callB call_isi (by rfl) T.b_isinstance (by decide +kernel) (pa_cons (pv 1) (pa_cons (pe_bltn (by rfl) T.b_list (by decide +kernel) rfl) pa_nil))))) (pw_and1 (pt_not (pt_val (pe_callB call_isi (by rfl) T.b_isinstance (by decide +kernel) (pa_cons (pv 1) (pa_cons (pe_bltn (by rfl) T.b_tuple (by decide +kernel) rfl) pa_nil)))))))) (pw_or1 (pt_cmpR op_ne (pe_callB call_len (by rfl) T.b_len (by decide +kernel) (pa_cons (pv 0) pa_nil)) (pe_callB call_len (by rfl) T.b_len (by decide +kernel) (pa_cons (pv 1) pa_nil)) (nomark _))))) (pss_one (ps_ret pe_bl)) pss_nil)
  (pss_cons (ps_for PassesOwn.never rfl (pi_range1 (by rfl) T.b_range (pa_cons (pe_callB call_len (by rfl) T.b_len (by decide +kernel) (pa_cons (pv 1) pa_nil)) pa_nil)) (pg_name (i := 3) sc_l_same.nd rfl (Or.inl rfl)) (pss_one (ps_if (pt_not (pt_val (pe_call ih (hr.mono (by omega)) (by rfl) T.l_same.gl T.l_same.fn.kp T.l_same.bd .nil pass0 (pa_cons (pe_ix ix_seq (pv 0) (pv 3) (fun _ _ => rfl)) (pa_cons (pe_ix ix_seq (pv 1) (pv 3) (fun _ _ => rfl)) pa_nil))))) (pss_one (ps_ret pe_bl)) pss_nil)))
  (pss_one (ps_ret pe_bl)))))))))))
theorem ok_l_copy (T : Txt K mg a) : ∀ n : Nat, FnOk P w K mg base CX0 (n + 1) a.l_copy a.l_copy_d ["_law_value"] (sp_copy n)
  | 0 => fn_false
  | n + 1 => by
    have ih := ok_l_copy T n
    refine T.l_copy.fn.ok sc_l_copy (fun vs H Q E h => ?_) (fun cdv A outer s H vs Q E hr h => ⟨t_l_copy K n, ?_, pure_copy h⟩)
    · repeat' (first | (obtain ⟨e, _⟩ := h; (first | (subst e; rfl) | (rw [e]; rfl))) | (obtain ⟨_, h⟩ := h))
    · exact (pss_cons (ps_if (pt_val (pe_callB call_isi (by rfl) T.b_isinstance (by decide +kernel) (pa_cons (pv 0) (pa_cons (pe_bltn (by rfl) T.b_list (by decide +kernel) rfl) pa_nil)))) (pss_one (ps_ret (pe_lc (own := [("_law_one", 3)]) (g := (gName 3)) (tt := tYes) (by rfl) sc_l_copy.nd (pi_list (pv 0)) (blkOk_by (own := [("_law_one", 3)]) (N := N_l_copy) (sc := defScope s_l_copy) (by decide +kernel)) (fun _ _ _ _ _ => pg_name (i := 3) sc_l_copy.nd rfl (Or.inl rfl)) (fun _ _ _ _ _ => pts_nil) (fun _ _ _ _ _ => (pe_call ih (hr.mono (by omega)) (by rfl) T.l_copy.gl T.l_copy.fn.kp T.l_copy.bd .nil pass0 (pa_cons (pv 3) pa_nil)))))) pss_nil)
  (pss_cons (ps_if (pt_val (pe_callB call_isi (by rfl) T.b_isinstance (by decide +kernel) (pa_cons (pv 0) (pa_cons (pe_bltn (by rfl) T.b_tuple (by decide +kernel) rfl) pa_nil)))) (pss_one (ps_ret (pe_callTy call_tuple_of (by rfl) T.b_tuple (by decide +kernel) (pa_cons (pe_lc (own := [("_law_one", 3)]) (g := (gName 3)) (tt := tYes) (by rfl) sc_l_copy.nd (pi_tup (pv 0)) (blkOk_by (own := [("_law_one", 3)]) (N := N_l_copy) (sc := defScope s_l_copy) (by decide +kernel)) (fun _ _ _ _ _ => pg_name (i := 3) sc_l_copy.nd rfl (Or.inl rfl)) (fun _ _ _ _ _ => pts_nil) (fun _ _ _ _ _ => (pe_call ih (hr.mono (by omega)) (by rfl) T.l_copy.gl T.l_copy.fn.kp T.l_copy.bd .nil pass0 (pa_cons (pv 3) pa_nil)))) pa_nil)))) pss_nil)
  (pss_cons (ps_if (pt_val (pe_callB call_isi (by rfl) T.b_isinstance (by decide +kernel) (pa_cons (pv 0) (pa_cons (pe_bltn (by rfl) T.b_dict (by decide +kernel) rfl) pa_nil)))) (pss_cons (ps_set (i := 1) sc_l_copy.nd rfl (Or.inl rfl) pe_dnewK)
  (pss_cons (ps_for PassesOwn.never rfl (pi_list (pe_callTy (call_listD rfl) (by rfl) T.b_list (by decide +kernel) (pa_cons (pv 0) pa_nil))) (pg_name (i := 2) sc_l_copy.nd rfl (Or.inl rfl)) (pss_one (ps_dput (hu_of hr) (pv 1) (pv 2) (pe_call ih (hr.mono (by omega)) (by rfl) T.l_copy.gl T.l_copy.fn.kp T.l_copy.bd .nil pass0 (pa_cons (pe_dget (hu_of hr) (pv 0) (pv 2) (fun _ _ => rfl)) pa_nil)) rfl)))
  (pss_one (ps_ret (pv 1))))) pss_nil)
  (pss_one (ps_ret (pv 0))))))
theorem ok_l_spans (T : Txt K mg a) : FnOk P w K mg base CX0 7 a.l_spans a.l_spans_d ["_law_draws_here", "_law_count_here", "_law_most"] (sp_spans7 K) := by
  refine T.l_spans.fn.ok sc_l_spans (fun vs H Q E h => ?_) (fun cdv A outer s H vs Q E hr h => ⟨t_l_spans K, ?_, pure_spans7  h⟩)
  · repeat' (first | (obtain ⟨e, _⟩ := h; (first | (subst e; rfl) | (rw [e]; rfl))) | (obtain ⟨_, h⟩ := h))
  · exact (pss_cons (ps_set (i := 3) sc_l_spans.nd rfl (Or.inl rfl) (pe_lst pa_nil))
  (pss_cons (ps_for PassesOwn.never rfl (pi_range1 (by rfl) T.b_range (pa_cons (pv 1) pa_nil)) (pg_name (i := 4) sc_l_spans.nd rfl (Or.inl rfl)) (pss_cons (ps_set (i := 5) sc_l_spans.nd rfl (Or.inl rfl) (pe_call (ok_l_take T) (hr.mono (by decide)) (by rfl) T.l_take.gl T.l_take.fn.kp T.l_take.bd .nil pass0 (pa_cons (pv 0) (pa_cons pe_int pa_nil))))
  (pss_cons (ps_set (i := 6) sc_l_spans.nd rfl (Or.inl rfl) (pe_call (ok_l_span T) (hr.mono (by decide)) (by rfl) T.l_span.gl T.l_span.fn.kp T.l_span.bd .nil pass0 (pa_cons (pv 0) (pa_cons (pv 2) pa_nil))))
  (pss_cons (ps_if (PW.pt (pw_and (pt_cmpR op_gt (pv 4) pe_int (nomark _)) (pw_and1 (pt_cmpR op_lt (pv 5) pe_int (nomark _))))) (pss_cons (ps_set (i := 6) sc_l_spans.nd rfl (Or.inl rfl) (pe_call (ok_l_among T) (hr.mono (by decide)) (by rfl) T.l_among.gl T.l_among.fn.kp T.l_among.bd .nil pass0 (pa_cons (pv 0) (pa_cons (pv 3) pa_nil))))
  (pss_cons (ps_set (i := 7) sc_l_spans.nd rfl (Or.inl rfl) (pe_op op_add (pe_ix ix_tup (pv 6) pe_int (fun _ _ => rfl)) (pe_ix ix_tup (pv 6) pe_int (fun _ _ => rfl))))
  (pss_cons (ps_if (PW.pt (pw_and (pt_cmpR op_eq (pv 5) pe_int (nomark _)) (pw_and1 (pt_cmpR op_lt (pv 7) (pv 2) (nomark _))))) (pss_one (ps_set (i := 6) sc_l_spans.nd rfl (Or.inl rfl) (pe_tup (pa_cons (pv 7) (pa_cons (pe_call (ok_l_between T) (hr.mono (by decide)) (by rfl) T.l_between.gl T.l_between.fn.kp T.l_between.bd .nil pass0 (pa_cons (pv 0) (pa_cons pe_int (pa_cons (pe_callB (call_min2 rfl) (by rfl) T.b_min (by decide +kernel) (pa_cons pe_int (pa_cons (pe_op op_sub (pv 2) (pv 7)) pa_nil))) pa_nil)))) pa_nil))))) pss_nil)
  (pss_one (ps_if (pt_cmpR op_eq (pv 5) pe_int (nomark _)) (pss_cons (ps_set (i := 8) sc_l_spans.nd rfl (Or.inl rfl) (pe_call (ok_l_between T) (hr.mono (by decide)) (by rfl) T.l_between.gl T.l_between.fn.kp T.l_between.bd .nil pass0 (pa_cons (pv 0) (pa_cons pe_int (pa_cons (pe_op op_sub (pe_ix ix_tup (pv 6) pe_int (fun _ _ => rfl)) pe_int) pa_nil)))))
  (pss_one (ps_set (i := 6) sc_l_spans.nd rfl (Or.inl rfl) (pe_tup (pa_cons (pe_op op_add (pe_ix ix_tup (pv 6) pe_int (fun _ _ => rfl)) (pv 8)) (pa_cons (pe_call (ok_l_between T) (hr.mono (by decide)) (by rfl) T.l_between.gl T.l_between.fn.kp T.l_between.bd .nil pass0 (pa_cons (pv 0) (pa_cons pe_int (pa_cons (pe_op op_sub (pe_ix ix_tup (pv 6) pe_int (fun _ _ => rfl)) (pv 8)) pa_nil)))) pa_nil)))))) pss_nil))))) pss_nil)
  (pss_one (ps_expr (pe_bm PySem.F.plainAttrs_list PySem.F.slot_list_append PySem.F.type_list_append mt_append (pv 3) (pa_cons (pv 6) pa_nil))))))))
  (pss_one (ps_ret (pv 3)))))
theorem ok_l_asked (T : Txt K mg a) : FnOk P w K mg base CX0 7 a.l_asked a.l_asked_d ["_law_places", "_law_title", "_law_size_here", "_law_alignment_here"] (sp_asked5 K a.c) := by
  refine T.l_asked.fn.ok sc_l_asked (fun vs H Q E h => ?_) (fun cdv A outer s H vs Q E hr h => ⟨t_l_asked5 K a.c, ?_, pure_asked5  h⟩)
  · repeat' (first | (obtain ⟨e, _⟩ := h; (first | (subst e; rfl) | (rw [e]; rfl))) | (obtain ⟨_, h⟩ := h))
  · exact (pss_one (ps_try_asT (i := 4) (tb := fun W => (tSeq (tIfS (tTest (tOp rEq (tVar 1) (tC (.str "covers")))) (tRet (tLst (tCons (tC (.str "done")) (tCons (tMthS a.c.k_Places "covers" (sp_covers K a.c) (WE W) (tVar 0) (tCons (tVar 2) tNil)) tNil)))) tNext)
  (tSeq (tIfS (tTest (tOp rEq (tVar 1) (tC (.str "first alone")))) (tRet (tLst (tCons (tC (.str "done")) (tCons (tMthDS a.c.k_Places "first_start" (sp_first_start K a.c) [(.int 1)] (WE W) (tVar 0) (tCons (tVar 2) tNil)) tNil)))) tNext)
  (tSeq (tIfS (tTest (tOp rEq (tVar 1) (tC (.str "best alone")))) (tRet (tLst (tCons (tC (.str "done")) (tCons (tMthDS a.c.k_Places "best_start" (sp_best_start K a.c) [(.int 1)] (WE W) (tVar 0) (tCons (tVar 2) tNil)) tNil)))) tNext)
  (tSeq (tIfS (tTest (tOp rEq (tVar 1) (tC (.str "first")))) (tRet (tLst (tCons (tC (.str "done")) (tCons (tMthNS a.c.k_Places "first_start" 1 1 (sp_first_start K a.c) (WE W) (tVar 0) (tCons (tVar 2) tNil) (tCons (tVar 3) tNil)) tNil)))) tNext)
  (tRet (tLst (tCons (tC (.str "done")) (tCons (tMthNS a.c.k_Places "best_start" 1 1 (sp_best_start K a.c) (WE W) (tVar 0) (tCons (tVar 2) tNil) (tCons (tVar 3) tNil)) tNil))))))))) (ts := (tRet (tLst (tCons (tC (.str "refused")) (tCons (tXt K "told" (tVar 4)) (tCons (tTup (tCons (tXt K "parameter" (tVar 4)) tNil)) (tCons (tCall (sp_kinds K a.c) [] E0 (tCons (tVar 4) tNil)) tNil))))))) (Wout := (fun _ _ _ _ => False)) rfl rfl rfl sc_l_asked.nd rfl rfl ⟨rfl, by decide, Or.inl T.k_BadValue⟩ takes0N
  (fun W pn xe tk _ => (pss_cons (ps_if (pt_cmpR op_eq (pv 1) pe_str (nomark _)) (pss_one (ps_ret (pe_lst (pa_cons pe_str (pa_cons (pe_mthS (pv 0) T.cl_Places T.mt_c_Places_covers (ok_c_Places_covers T) (hr.mono (by decide)) T.c_Places_covers.bd (fun σ => L2N.passAt tk σ) (pa_cons (pv 2) pa_nil)) pa_nil))))) pss_nil)
  (pss_cons (ps_if (pt_cmpR op_eq (pv 1) pe_str (nomark _)) (pss_one (ps_ret (pe_lst (pa_cons pe_str (pa_cons (pe_mthDS (pv 0) T.cl_Places T.mt_c_Places_first_start (ok_c_Places_first_start T) (hr.mono (by decide)) T.df_Places_first_start_2.choose_spec.2 T.df_Places_first_start_2.choose_spec.1 (fun σ => L2N.passAt tk σ) (pa_cons (pv 2) pa_nil)) pa_nil))))) pss_nil)
  (pss_cons (ps_if (pt_cmpR op_eq (pv 1) pe_str (nomark _)) (pss_one (ps_ret (pe_lst (pa_cons pe_str (pa_cons (pe_mthDS (pv 0) T.cl_Places T.mt_c_Places_best_start (ok_c_Places_best_start T) (hr.mono (by decide)) T.df_Places_best_start_2.choose_spec.2 T.df_Places_best_start_2.choose_spec.1 (fun σ => L2N.passAt tk σ) (pa_cons (pv 2) pa_nil)) pa_nil))))) pss_nil)
  (pss_cons (ps_if (pt_cmpR op_eq (pv 1) pe_str (nomark _)) (pss_one (ps_ret (pe_lst (pa_cons pe_str (pa_cons (pe_mthNS (n := 1) (ks := ["align"]) (pv 0) T.cl_Places T.mt_c_Places_first_start (ok_c_Places_first_start T) (hr.mono (by decide)) T.kf_Places_first_start_2_align.choose_spec (fun σ => L2N.passAt tk σ) (pa_cons (pv 2) pa_nil) (pk_cons (pv 3) pk_nil)) pa_nil))))) pss_nil)
  (pss_one (ps_ret (pe_lst (pa_cons pe_str (pa_cons (pe_mthNS (n := 1) (ks := ["align"]) (pv 0) T.cl_Places T.mt_c_Places_best_start (ok_c_Places_best_start T) (hr.mono (by decide)) T.kf_Places_best_start_2_align.choose_spec (fun σ => L2N.passAt tk σ) (pa_cons (pv 2) pa_nil) (pk_cons (pv 3) pk_nil)) pa_nil))))))))))
  (fun _ _ => (pss_one (ps_ret (pe_lst (pa_cons pe_str (pa_cons (pe_xt (pv 4)) (pa_cons (pe_tup (pa_cons (pe_xt (pv 4)) pa_nil)) (pa_cons (pe_callU (ok_l_kinds T) (roomH_suite (hr.mono (by decide))) (by rfl) T.l_kinds.gl T.l_kinds.fn.kp T.l_kinds.bd (pa_cons (pv 4) pa_nil)) pa_nil))))))))))
theorem ok_l_tried_spans (T : Txt K mg a) : FnOk P w K mg base CX0 7 a.l_tried_spans a.l_tried_spans_d ["_law_draws_here", "_law_due_here"] (sp_tried_spans K) := by
  refine T.l_tried_spans.fn.ok sc_l_tried_spans (fun vs H Q E h => ?_) (fun cdv A outer s H vs Q E hr h => ⟨t_l_tried_spans K, ?_, pure_tried_spans  h⟩)
  · repeat' (first | (obtain ⟨e, _⟩ := h; (first | (subst e; rfl) | (rw [e]; rfl))) | (obtain ⟨_, h⟩ := h))
  · exact (pss_cons (ps_set (i := 2) sc_l_tried_spans.nd rfl (Or.inl rfl) (pe_lst (pa_cons (pe_call (ok_l_span T) (hr.mono (by decide)) (by rfl) T.l_span.gl T.l_span.fn.kp T.l_span.bd .nil pass0 (pa_cons (pv 0) (pa_cons pe_int pa_nil))) (pa_cons (pe_tup (pa_cons (pe_op op_sub (pe_op op_pow pe_int pe_int) pe_int) (pa_cons pe_int pa_nil))) pa_nil))))
  (pss_cons (ps_for PassesOwn.never rfl (pi_list (pe_slice sl_list (pv 1) po_none (po_some pe_int))) (pg_tup rfl (pgs_cons (pg_name (i := 3) sc_l_tried_spans.nd rfl (Or.inl rfl)) (pgs_cons (pg_name (i := 4) sc_l_tried_spans.nd rfl (Or.inl rfl)) pgs_nil))) (pss_cons (ps_set (i := 5) sc_l_tried_spans.nd rfl (Or.inl rfl) (pe_call (ok_l_between T) (hr.mono (by decide)) (by rfl) T.l_between.gl T.l_between.fn.kp T.l_between.bd .nil pass0 (pa_cons (pv 0) (pa_cons pe_int (pa_cons (pe_op op_sub (pv 4) pe_int) pa_nil)))))
  (pss_cons (ps_set (i := 2) sc_l_tried_spans.nd rfl (Or.inl rfl) (pe_op op_cat (pv 2) (pe_lst (pa_cons (pe_tup (pa_cons (pv 3) (pa_cons (pv 4) pa_nil))) (pa_cons (pe_tup (pa_cons (pe_op op_add (pv 3) (pv 5)) (pa_cons (pe_op op_sub (pv 4) (pv 5)) pa_nil))) (pa_cons (pe_tup (pa_cons (pv 3) (pa_cons (pe_op op_add (pv 5) pe_int) pa_nil))) pa_nil))))))
  (pss_one (ps_set (i := 2) sc_l_tried_spans.nd rfl (Or.inl rfl) (pe_op op_cat (pv 2) (pe_lst (pa_cons (pe_tup (pa_cons (pe_callB (call_max2 rfl) (by rfl) T.b_max (by decide +kernel) (pa_cons pe_int (pa_cons (pe_op op_sub (pv 3) pe_int) pa_nil))) (pa_cons (pv 4) pa_nil))) (pa_cons (pe_tup (pa_cons (pv 3) (pa_cons (pe_callB (call_min2 rfl) (by rfl) T.b_min (by decide +kernel) (pa_cons (pe_op op_add (pv 4) pe_int) (pa_cons (pe_op op_sub (pe_op op_pow pe_int pe_int) (pv 3)) pa_nil))) pa_nil))) pa_nil)))))))))
  (pss_one (ps_ret (pv 2)))))
theorem ok_l_starts_right (T : Txt K mg a) : FnOk P w K mg base CX0 8 a.l_starts_right a.l_starts_right_d ["_law_places", "_law_spans_here", "_law_size_here", "_law_alignment_here"] (sp_starts_right5 K a.c) := by
  refine T.l_starts_right.fn.ok sc_l_starts_right (fun vs H Q E h => ?_) (fun cdv A outer s H vs Q E hr h => ⟨t_l_starts_right K a.c, ?_, pure_starts_right5  h⟩)
  · repeat' (first | (obtain ⟨e, _⟩ := h; (first | (subst e; rfl) | (rw [e]; rfl))) | (obtain ⟨_, h⟩ := h))
  · exact (pss_cons (ps_for PassesOwn.never rfl (pi_list (pe_lst (pa_cons pe_bl (pa_cons pe_bl pa_nil)))) (pg_name (i := 4) sc_l_starts_right.nd rfl (Or.inl rfl)) (pss_cons (ps_set (i := 5) sc_l_starts_right.nd rfl (Or.inl rfl) (pe_ix ix_list (pe_lst (pa_cons pe_str (pa_cons pe_str pa_nil))) (pe_callTy call_int1 (by rfl) T.b_int (by decide +kernel) (pa_cons (pv 4) pa_nil)) (fun _ _ => rfl)))
  (pss_cons (ps_if (pt_not (pt_val (pe_call (ok_l_same T 6) (hr.mono (by decide)) (by rfl) T.l_same.gl T.l_same.fn.kp T.l_same.bd .nil pass0 (pa_cons (pe_call (ok_l_asked T) (hr.mono (by decide)) (by rfl) T.l_asked.gl T.l_asked.fn.kp T.l_asked.bd .nil pass0 (pa_cons (pv 0) (pa_cons (pv 5) (pa_cons (pv 2) (pa_cons (pv 3) pa_nil))))) (pa_cons (pe_lst (pa_cons pe_str (pa_cons (pe_call (ok_l_due T) (hr.mono (by decide)) (by rfl) T.l_due.gl T.l_due.fn.kp T.l_due.bd .nil pass0 (pa_cons (pv 1) (pa_cons (pv 2) (pa_cons (pv 3) (pa_cons (pv 4) pa_nil))))) pa_nil))) pa_nil))))) (pss_one (ps_ret pe_bl)) pss_nil)
  (pss_one (ps_if (pt_not (pt_val (pe_call (ok_l_same T 6) (hr.mono (by decide)) (by rfl) T.l_same.gl T.l_same.fn.kp T.l_same.bd .nil pass0 (pa_cons (pe_call (ok_l_asked T) (hr.mono (by decide)) (by rfl) T.l_asked.gl T.l_asked.fn.kp T.l_asked.bd .nil pass0 (pa_cons (pv 0) (pa_cons (pe_op op_add_str (pv 5) pe_str) (pa_cons (pv 2) (pa_cons pe_non pa_nil))))) (pa_cons (pe_lst (pa_cons pe_str (pa_cons (pe_call (ok_l_due T) (hr.mono (by decide)) (by rfl) T.l_due.gl T.l_due.fn.kp T.l_due.bd .nil pass0 (pa_cons (pv 1) (pa_cons (pv 2) (pa_cons pe_int (pa_cons (pv 4) pa_nil))))) pa_nil))) pa_nil))))) (pss_one (ps_ret pe_bl)) pss_nil)))))
  (pss_one (ps_ret pe_bl)))
theorem ok_l_covers_right (T : Txt K mg a) : FnOk P w K mg base CX0 8 a.l_covers_right a.l_covers_right_d ["_law_places", "_law_due_here", "_law_tried"] (sp_covers_right5 K a.c) := by
  refine T.l_covers_right.fn.ok sc_l_covers_right (fun vs H Q E h => ?_) (fun cdv A outer s H vs Q E hr h => ⟨t_l_covers_right K a.c, ?_, pure_covers_right5  h⟩)
  · repeat' (first | (obtain ⟨e, _⟩ := h; (first | (subst e; rfl) | (rw [e]; rfl))) | (obtain ⟨_, h⟩ := h))
  · exact (pss_cons (ps_for PassesOwn.never rfl (pi_list (pv 2)) (pg_tup rfl (pgs_cons (pg_name (i := 3) sc_l_covers_right.nd rfl (Or.inr rfl)) (pgs_cons (pg_name (i := 4) sc_l_covers_right.nd rfl (Or.inr rfl)) pgs_nil))) (pss_cons (ps_setLc (i := 5) (own := [("_law_one", 6)]) (g := (gName 6)) (tt := (tAnd (tTest (tOp oLe (tOp (rIxT K) (tVar 6) (tC (.int 0))) (tVar 3))) (tTest (tOp oLe (tOp oAdd (tVar 3) (tVar 4)) (tOp oAdd (tOp (rIxT K) (tVar 6) (tC (.int 0))) (tOp (rIxT K) (tVar 6) (tC (.int 1)))))))) (by rfl) sc_l_covers_right.nd rfl rfl (sw_true rfl rfl rfl (by decide +kernel)) (pi_list (pv 1)) (blkOk_by (own := [("_law_one", 6)]) (N := N_l_covers_right) (sc := defScope s_l_covers_right) (by decide +kernel)) (fun _ _ _ _ _ => pg_name (i := 6) sc_l_covers_right.nd rfl (Or.inl rfl)) (fun _ _ _ _ _ => (pts_one (PW.pt (pw_and (pt_cmpR op_le (pe_ix ix_tup (pv 6) pe_int (fun _ _ => rfl)) (pv 3) (nomark _)) (pw_and1 (pt_cmpR op_le (pe_op op_add (pv 3) (pv 4)) (pe_op op_add (pe_ix ix_tup (pv 6) pe_int (fun _ _ => rfl)) (pe_ix ix_tup (pv 6) pe_int (fun _ _ => rfl))) (nomark _))))))) (fun _ _ _ _ _ => (pv 6)))
  (pss_one (ps_if (pt_not (pt_val (pe_call (ok_l_same T 6) (hr.mono (by decide)) (by rfl) T.l_same.gl T.l_same.fn.kp T.l_same.bd .nil pass0 (pa_cons (pe_call (ok_l_asked T) (hr.mono (by decide)) (by rfl) T.l_asked.gl T.l_asked.fn.kp T.l_asked.bd .nil pass0 (pa_cons (pv 0) (pa_cons pe_str (pa_cons (pe_tup (pa_cons (pv 3) (pa_cons (pv 4) pa_nil))) (pa_cons pe_non pa_nil))))) (pa_cons (pe_lst (pa_cons pe_str (pa_cons (pe_cmpR op_eq (pe_callB call_len (by rfl) T.b_len (by decide +kernel) (pa_cons (pv 5) pa_nil)) pe_int (nomark _)) pa_nil))) pa_nil))))) (pss_one (ps_ret pe_bl)) pss_nil))))
  (pss_one (ps_ret pe_bl)))
theorem ok_l_refused_right (T : Txt K mg a) : FnOk P w K mg base CX0 8 a.l_refused_right a.l_refused_right_d ["_law_draws_here", "_law_places", "_law_size_here", "_law_alignment_here"] (sp_refused_right5 K a.c) := by
  refine T.l_refused_right.fn.ok sc_l_refused_right (fun vs H Q E h => ?_) (fun cdv A outer s H vs Q E hr h => ⟨t_l_refused_right5 K a.c, ?_, pure_refused_right5  h⟩)
  · repeat' (first | (obtain ⟨e, _⟩ := h; (first | (subst e; rfl) | (rw [e]; rfl))) | (obtain ⟨_, h⟩ := h))
  · exact (pss_cons (ps_set (i := 4) sc_l_refused_right.nd rfl (Or.inl rfl) (pe_call (ok_l_not_within T) (hr.mono (by decide)) (by rfl) T.l_not_within.gl T.l_not_within.fn.kp T.l_not_within.bd .nil pass0 (pa_cons (pv 0) (pa_cons pe_int (pa_cons (pe_op op_pow pe_int pe_int) pa_nil)))))
  (pss_cons (ps_set (i := 5) sc_l_refused_right.nd rfl (Or.inl rfl) (pe_call (ok_l_not_alignment T) (hr.mono (by decide)) (by rfl) T.l_not_alignment.gl T.l_not_alignment.fn.kp T.l_not_alignment.bd .nil pass0 (pa_cons (pv 0) (pa_cons (pe_op op_pow pe_int pe_int) pa_nil))))
  (pss_cons (ps_set (i := 6) sc_l_refused_right.nd rfl (Or.inl rfl) (pe_call (ok_l_among T) (hr.mono (by decide)) (by rfl) T.l_among.gl T.l_among.fn.kp T.l_among.bd .nil pass0 (pa_cons (pv 0) (pa_cons (pe_lst (pa_cons (pe_lst (pa_cons pe_int (pa_cons pe_int pa_nil))) (pa_cons (pe_tup (pa_cons pe_int (pa_cons pe_int (pa_cons pe_int pa_nil)))) (pa_cons (pe_tup (pa_cons pe_int pa_nil)) (pa_cons (pe_tup (pa_cons pe_int (pa_cons pe_int pa_nil))) (pa_cons (pe_tup (pa_cons (pe_un un_neg pe_int) (pa_cons pe_int pa_nil))) (pa_cons (pe_tup (pa_cons pe_int (pa_cons (pe_un un_neg pe_int) pa_nil))) (pa_cons (pe_tup (pa_cons pe_int (pa_cons (pe_op op_sub (pe_op op_pow pe_int pe_int) pe_int) pa_nil))) (pa_cons (pe_tup (pa_cons pe_bl (pa_cons pe_int pa_nil))) (pa_cons pe_non pa_nil)))))))))) pa_nil))))
  (pss_cons (ps_set (i := 7) sc_l_refused_right.nd rfl (Or.inl rfl) (pe_call (ok_l_copy T 6) (hr.mono (by decide)) (by rfl) T.l_copy.gl T.l_copy.fn.kp T.l_copy.bd .nil pass0 (pa_cons (pe_lst (pa_cons (pv 4) (pa_cons (pv 5) (pa_cons (pv 6) pa_nil)))) pa_nil)))
  (pss_cons (ps_for PassesOwn.never rfl (pi_list (pe_lst (pa_cons pe_str (pa_cons pe_str pa_nil)))) (pg_name (i := 8) sc_l_refused_right.nd rfl (Or.inl rfl)) (pss_cons (ps_if (pt_not (pt_val (pe_call (ok_l_same T 6) (hr.mono (by decide)) (by rfl) T.l_same.gl T.l_same.fn.kp T.l_same.bd .nil pass0 (pa_cons (pe_call (ok_l_asked T) (hr.mono (by decide)) (by rfl) T.l_asked.gl T.l_asked.fn.kp T.l_asked.bd .nil pass0 (pa_cons (pv 1) (pa_cons (pv 8) (pa_cons (pv 4) (pa_cons (pv 3) pa_nil))))) (pa_cons (pe_call (ok_l_refused T) (hr.mono (by decide)) (by rfl) T.l_refused.gl T.l_refused.fn.kp T.l_refused.bd .nil pass0 (pa_cons pe_str (pa_cons (pe_tup (pa_cons pe_str pa_nil)) pa_nil))) pa_nil))))) (pss_one (ps_ret pe_bl)) pss_nil)
  (pss_cons (ps_if (pt_not (pt_val (pe_call (ok_l_same T 6) (hr.mono (by decide)) (by rfl) T.l_same.gl T.l_same.fn.kp T.l_same.bd .nil pass0 (pa_cons (pe_call (ok_l_asked T) (hr.mono (by decide)) (by rfl) T.l_asked.gl T.l_asked.fn.kp T.l_asked.bd .nil pass0 (pa_cons (pv 1) (pa_cons (pv 8) (pa_cons (pv 2) (pa_cons (pv 5) pa_nil))))) (pa_cons (pe_call (ok_l_refused T) (hr.mono (by decide)) (by rfl) T.l_refused.gl T.l_refused.fn.kp T.l_refused.bd .nil pass0 (pa_cons pe_str (pa_cons (pe_tup (pa_cons pe_str pa_nil)) pa_nil))) pa_nil))))) (pss_one (ps_ret pe_bl)) pss_nil)
  (pss_one (ps_if (pt_not (pt_val (pe_call (ok_l_same T 6) (hr.mono (by decide)) (by rfl) T.l_same.gl T.l_same.fn.kp T.l_same.bd .nil pass0 (pa_cons (pe_call (ok_l_asked T) (hr.mono (by decide)) (by rfl) T.l_asked.gl T.l_asked.fn.kp T.l_asked.bd .nil pass0 (pa_cons (pv 1) (pa_cons (pv 8) (pa_cons (pv 4) (pa_cons (pv 5) pa_nil))))) (pa_cons (pe_call (ok_l_refused T) (hr.mono (by decide)) (by rfl) T.l_refused.gl T.l_refused.fn.kp T.l_refused.bd .nil pass0 (pa_cons pe_str (pa_cons (pe_tup (pa_cons pe_str pa_nil)) pa_nil))) pa_nil))))) (pss_one (ps_ret pe_bl)) pss_nil)))))
  (pss_cons (ps_if (pt_not (pt_val (pe_call (ok_l_same T 6) (hr.mono (by decide)) (by rfl) T.l_same.gl T.l_same.fn.kp T.l_same.bd .nil pass0 (pa_cons (pe_call (ok_l_asked T) (hr.mono (by decide)) (by rfl) T.l_asked.gl T.l_asked.fn.kp T.l_asked.bd .nil pass0 (pa_cons (pv 1) (pa_cons pe_str (pa_cons (pv 6) (pa_cons pe_non pa_nil))))) (pa_cons (pe_call (ok_l_refused T) (hr.mono (by decide)) (by rfl) T.l_refused.gl T.l_refused.fn.kp T.l_refused.bd .nil pass0 (pa_cons pe_str (pa_cons (pe_tup (pa_cons pe_str pa_nil)) pa_nil))) pa_nil))))) (pss_one (ps_ret pe_bl)) pss_nil)
  (pss_one (ps_ret (pe_call (ok_l_same T 6) (hr.mono (by decide)) (by rfl) T.l_same.gl T.l_same.fn.kp T.l_same.bd .nil pass0 (pa_cons (pe_lst (pa_cons (pv 4) (pa_cons (pv 5) (pa_cons (pv 6) pa_nil)))) (pa_cons (pv 7) pa_nil)))))))))))
theorem ok_l_law (T : Txt K mg a) : FnOk P w K mg base CX0 9 a.l_law a.l_law_d ["_law_script"] (sp_law05 K a.c) := by
  refine T.l_law.fn.ok sc_l_law (fun vs H Q E h => ?_) (fun cdv A outer s H vs Q E hr h => ⟨t_l_law K a.c, ?_, pure_law05  h⟩)
  · repeat' (first | (obtain ⟨e, _⟩ := h; (first | (subst e; rfl) | (rw [e]; rfl))) | (obtain ⟨_, h⟩ := h))
  · exact (pss_cons (ps_set (i := 1) sc_l_law.nd rfl (Or.inr rfl) (pe_call (ok_l_draws T) (hr.mono (by decide)) (by rfl) T.l_draws.gl T.l_draws.fn.kp T.l_draws.bd .nil pass0 (pa_cons (pv 0) pa_nil)))
  (pss_cons (ps_set (i := 2) sc_l_law.nd rfl (Or.inr rfl) (pe_call (ok_l_among T) (hr.mono (by decide)) (by rfl) T.l_among.gl T.l_among.fn.kp T.l_among.bd .nil pass0 (pa_cons (pv 1) (pa_cons (pe_lst (pa_cons pe_int (pa_cons pe_int (pa_cons (pe_op op_pow pe_int pe_int) pa_nil)))) pa_nil))))
  (pss_cons (ps_setLc (i := 3) (own := [("_law_k", 10)]) (g := (gName 10)) (tt := tYes) (by rfl) sc_l_law.nd rfl rfl (sw_true rfl rfl rfl (by decide +kernel)) (pi_range1 (by rfl) T.b_range (pa_cons pe_int pa_nil)) (blkOk_by (own := [("_law_k", 10)]) (N := N_l_law) (sc := defScope s_l_law) (by decide +kernel)) (fun _ _ _ _ _ => pg_name (i := 10) sc_l_law.nd rfl (Or.inl rfl)) (fun _ _ _ _ _ => pts_nil) (fun _ _ _ _ _ => (pe_call (ok_l_spans T) (hr.mono (by decide)) (by rfl) T.l_spans.gl T.l_spans.fn.kp T.l_spans.bd .nil pass0 (pa_cons (pv 1) (pa_cons (pe_call (ok_l_count T) (hr.mono (by decide)) (by rfl) T.l_count.gl T.l_count.fn.kp T.l_count.bd .nil pass0 (pa_cons (pv 1) (pa_cons pe_int (pa_cons pe_int pa_nil)))) (pa_cons (pv 2) pa_nil))))))
  (pss_cons (ps_setLc (i := 4) (own := [("_law_row", 11)]) (g := (gName 11)) (tt := tYes) (by rfl) sc_l_law.nd rfl rfl (sw_true rfl rfl rfl (by decide +kernel)) (pi_list (pv 3)) (blkOk_by (own := [("_law_row", 11)]) (N := N_l_law) (sc := defScope s_l_law) (by decide +kernel)) (fun _ _ _ _ _ => pg_name (i := 11) sc_l_law.nd rfl (Or.inl rfl)) (fun _ _ _ _ _ => pts_nil) (fun _ _ _ _ _ => (pe_call (ok_l_normal_of T) (hr.mono (by decide)) (by rfl) T.l_normal_of.gl T.l_normal_of.fn.kp T.l_normal_of.bd .nil pass0 (pa_cons (pv 11) pa_nil))))
  (pss_cons (ps_setLc (i := 5) (own := [("_law_row", 11)]) (g := (gName 11)) (tt := tYes) (by rfl) sc_l_law.nd rfl rfl (sw_true rfl rfl rfl (by decide +kernel)) (pi_list (pv 3)) (blkOk_by (own := [("_law_row", 11)]) (N := N_l_law) (sc := defScope s_l_law) (by decide +kernel)) (fun _ _ _ _ _ => pg_name (i := 11) sc_l_law.nd rfl (Or.inl rfl)) (fun _ _ _ _ _ => pts_nil) (fun _ _ _ _ _ => (pe_make T.mk_Places (ok_c_Places_init T) (hr.mono (by decide)) (by rfl) T.k_Places T.c_Places_init.bd .nil passLN (pa_cons (pe_callTy call_list_of (by rfl) T.b_list (by decide +kernel) (pa_cons (pv 11) pa_nil)) pa_nil))))
  (pss_cons (ps_set (i := 6) sc_l_law.nd rfl (Or.inl rfl) pe_int)
  (pss_cons (ps_set (i := 7) sc_l_law.nd rfl (Or.inl rfl) pe_int)
  (pss_cons (ps_for PassesOwn.never rfl (pi_range1 (by rfl) T.b_range (pa_cons pe_int pa_nil)) (pg_name (i := 8) sc_l_law.nd rfl (Or.inl rfl)) (pss_cons (ps_set (i := 9) sc_l_law.nd rfl (Or.inl rfl) (pe_op op_mod (pv 8) pe_int))
  (pss_cons (ps_set (i := 6) sc_l_law.nd rfl (Or.inl rfl) (pe_call (ok_l_size T) (hr.mono (by decide)) (by rfl) T.l_size.gl T.l_size.fn.kp T.l_size.bd .nil pass0 (pa_cons (pv 1) (pa_cons (pe_ix ix_list (pv 4) (pv 9) (fun _ _ => rfl)) pa_nil))))
  (pss_cons (ps_set (i := 7) sc_l_law.nd rfl (Or.inl rfl) (pe_call (ok_l_alignment T) (hr.mono (by decide)) (by rfl) T.l_alignment.gl T.l_alignment.fn.kp T.l_alignment.bd .nil pass0 (pa_cons (pv 1) (pa_cons (pe_op op_add pe_int (pe_op op_mul pe_int (pe_op op_fdivW (pe_call (ok_l_take T) (hr.mono (by decide)) (by rfl) T.l_take.gl T.l_take.fn.kp T.l_take.bd .nil pass0 (pa_cons (pv 1) (pa_cons pe_int pa_nil))) pe_int))) pa_nil))))
  (pss_cons (ps_if (pt_not (pt_val (pe_call (ok_l_starts_right T) (hr.mono (by decide)) (by rfl) T.l_starts_right.gl T.l_starts_right.fn.kp T.l_starts_right.bd .nil pass0 (pa_cons (pe_ix ix_list (pv 5) (pv 9) (fun _ _ => rfl)) (pa_cons (pe_ix ix_list (pv 3) (pv 9) (fun _ _ => rfl)) (pa_cons (pv 6) (pa_cons (pv 7) pa_nil))))))) (pss_one (ps_ret pe_bl)) pss_nil)
  (pss_cons (ps_if (pt_not (pt_val (pe_call (ok_l_starts_right T) (hr.mono (by decide)) (by rfl) T.l_starts_right.gl T.l_starts_right.fn.kp T.l_starts_right.bd .nil pass0 (pa_cons (pe_ix ix_list (pv 5) (pe_op op_sub pe_int (pv 9)) (fun _ _ => rfl)) (pa_cons (pe_ix ix_list (pv 3) (pe_op op_sub pe_int (pv 9)) (fun _ _ => rfl)) (pa_cons (pv 6) (pa_cons (pv 7) pa_nil))))))) (pss_one (ps_ret pe_bl)) pss_nil)
  (pss_one (ps_if (pt_not (pt_val (pe_call (ok_l_covers_right T) (hr.mono (by decide)) (by rfl) T.l_covers_right.gl T.l_covers_right.fn.kp T.l_covers_right.bd .nil pass0 (pa_cons (pe_ix ix_list (pv 5) (pv 9) (fun _ _ => rfl)) (pa_cons (pe_ix ix_list (pv 4) (pv 9) (fun _ _ => rfl)) (pa_cons (pe_call (ok_l_tried_spans T) (hr.mono (by decide)) (by rfl) T.l_tried_spans.gl T.l_tried_spans.fn.kp T.l_tried_spans.bd .nil pass0 (pa_cons (pv 1) (pa_cons (pe_ix ix_list (pv 4) (pv 9) (fun _ _ => rfl)) pa_nil))) pa_nil)))))) (pss_one (ps_ret pe_bl)) pss_nil))))))))
  (pss_cons (ps_if (pt_not (pt_val (pe_call (ok_l_refused_right T) (hr.mono (by decide)) (by rfl) T.l_refused_right.gl T.l_refused_right.fn.kp T.l_refused_right.bd .nil pass0 (pa_cons (pv 1) (pa_cons (pe_ix ix_list (pv 5) pe_int (fun _ _ => rfl)) (pa_cons (pv 6) (pa_cons (pv 7) pa_nil))))))) (pss_one (ps_ret pe_bl)) pss_nil)
  (pss_one (ps_ret (pe_and (pe_call (ok_l_starts_right T) (hr.mono (by decide)) (by rfl) T.l_starts_right.gl T.l_starts_right.fn.kp T.l_starts_right.bd .nil pass0 (pa_cons (pe_ix ix_list (pv 5) pe_int (fun _ _ => rfl)) (pa_cons (pe_ix ix_list (pv 3) pe_int (fun _ _ => rfl)) (pa_cons (pv 6) (pa_cons (pv 7) pa_nil))))) (pe_one (pe_call (ok_l_same T 6) (hr.mono (by decide)) (by rfl) T.l_same.gl T.l_same.fn.kp T.l_same.bd .nil pass0 (pa_cons (pe_prop (pe_ix ix_list (pv 5) pe_int (fun _ _ => rfl)) T.cl_Places T.pr_c_Places_spans (ok_c_Places_spans T) (hr.mono (by decide)) T.c_Places_spans.bd .nil pass0 rfl) (pa_cons (pe_ix ix_list (pv 4) pe_int (fun _ _ => rfl)) pa_nil))))))))))))))))
end
/-- the facts of the top, gathered -/
theorem all_mk {P : Program} {w : World} {K : PySem.W.Frag} {h : Heap} {mg : Str → Option Value} {fa : Addr} (X : K.In h) (G : h.Ns mainGlobals mg) (hfa : mg "law" = some (.ref fa))
    {C_StoreError C_BadValue C_Broken C_Unknown C_NotHeld C_Fault C_NoRoom C_Cut C_BadLine C_Places C_Merged f_c_BadValue_init f_p_is_whole f_p_whole_between f_p_is_span f_p_is_power f_p_is_align f_p_align_up f_p_joined_rows f_p_span_from f_p_start_within f_p_check_wish f_c_Places_init T_c_Places_init E0_c_Places_init f_c_Places_spans p_c_Places_spans f_c_Places_covers f_c_Places_first_start f_c_Places_best_start f_l_draws f_l_next_cell f_l_mixed f_l_take f_l_among f_l_between f_l_number f_l_count f_l_alignment f_l_up f_l_long f_l_not_integer f_l_not_within f_l_not_alignment f_l_same f_l_copy f_l_span f_l_spans f_l_start_due f_l_kinds f_l_refused f_l_held f_l_cuts_of f_l_glued f_l_normal_of f_l_asked f_l_all_inside f_l_walked f_l_due f_l_size f_l_tried_spans f_l_starts_right f_l_covers_right f_l_refused_right f_l_law D_Places_best_start D_Places_first_start : Addr}
    {oc_c_BadValue_init kV_c_BadValue_init dc_c_BadValue_init pm_c_BadValue_init cd_c_BadValue_init ct_c_BadValue_init oc_p_is_whole kV_p_is_whole dc_p_is_whole pm_p_is_whole cd_p_is_whole ct_p_is_whole oc_p_whole_between kV_p_whole_between dc_p_whole_between pm_p_whole_between cd_p_whole_between ct_p_whole_between oc_p_is_span kV_p_is_span dc_p_is_span pm_p_is_span cd_p_is_span ct_p_is_span oc_p_is_power kV_p_is_power dc_p_is_power pm_p_is_power cd_p_is_power ct_p_is_power oc_p_is_align kV_p_is_align dc_p_is_align pm_p_is_align cd_p_is_align ct_p_is_align oc_p_align_up kV_p_align_up dc_p_align_up pm_p_align_up cd_p_align_up ct_p_align_up oc_p_joined_rows kV_p_joined_rows dc_p_joined_rows pm_p_joined_rows cd_p_joined_rows ct_p_joined_rows oc_p_span_from kV_p_span_from dc_p_span_from pm_p_span_from cd_p_span_from ct_p_span_from oc_p_start_within kV_p_start_within dc_p_start_within pm_p_start_within cd_p_start_within ct_p_start_within oc_p_check_wish kV_p_check_wish dc_p_check_wish pm_p_check_wish cd_p_check_wish ct_p_check_wish oc_c_Places_init kV_c_Places_init dc_c_Places_init pm_c_Places_init cd_c_Places_init ct_c_Places_init oc_c_Places_spans kV_c_Places_spans dc_c_Places_spans pm_c_Places_spans cd_c_Places_spans ct_c_Places_spans oc_c_Places_covers kV_c_Places_covers dc_c_Places_covers pm_c_Places_covers cd_c_Places_covers ct_c_Places_covers oc_c_Places_first_start kV_c_Places_first_start dc_c_Places_first_start pm_c_Places_first_start cd_c_Places_first_start ct_c_Places_first_start oc_c_Places_best_start kV_c_Places_best_start dc_c_Places_best_start pm_c_Places_best_start cd_c_Places_best_start ct_c_Places_best_start oc_l_draws kV_l_draws dc_l_draws pm_l_draws cd_l_draws ct_l_draws oc_l_next_cell kV_l_next_cell dc_l_next_cell pm_l_next_cell cd_l_next_cell ct_l_next_cell oc_l_mixed kV_l_mixed dc_l_mixed pm_l_mixed cd_l_mixed ct_l_mixed oc_l_take kV_l_take dc_l_take pm_l_take cd_l_take ct_l_take oc_l_among kV_l_among dc_l_among pm_l_among cd_l_among ct_l_among oc_l_between kV_l_between dc_l_between pm_l_between cd_l_between ct_l_between oc_l_number kV_l_number dc_l_number pm_l_number cd_l_number ct_l_number oc_l_count kV_l_count dc_l_count pm_l_count cd_l_count ct_l_count oc_l_alignment kV_l_alignment dc_l_alignment pm_l_alignment cd_l_alignment ct_l_alignment oc_l_up kV_l_up dc_l_up pm_l_up cd_l_up ct_l_up oc_l_long kV_l_long dc_l_long pm_l_long cd_l_long ct_l_long oc_l_not_integer kV_l_not_integer dc_l_not_integer pm_l_not_integer cd_l_not_integer ct_l_not_integer oc_l_not_within kV_l_not_within dc_l_not_within pm_l_not_within cd_l_not_within ct_l_not_within oc_l_not_alignment kV_l_not_alignment dc_l_not_alignment pm_l_not_alignment cd_l_not_alignment ct_l_not_alignment oc_l_same kV_l_same dc_l_same pm_l_same cd_l_same ct_l_same oc_l_copy kV_l_copy dc_l_copy pm_l_copy cd_l_copy ct_l_copy oc_l_span kV_l_span dc_l_span pm_l_span cd_l_span ct_l_span oc_l_spans kV_l_spans dc_l_spans pm_l_spans cd_l_spans ct_l_spans oc_l_start_due kV_l_start_due dc_l_start_due pm_l_start_due cd_l_start_due ct_l_start_due oc_l_kinds kV_l_kinds dc_l_kinds pm_l_kinds cd_l_kinds ct_l_kinds oc_l_refused kV_l_refused dc_l_refused pm_l_refused cd_l_refused ct_l_refused oc_l_held kV_l_held dc_l_held pm_l_held cd_l_held ct_l_held oc_l_cuts_of kV_l_cuts_of dc_l_cuts_of pm_l_cuts_of cd_l_cuts_of ct_l_cuts_of oc_l_glued kV_l_glued dc_l_glued pm_l_glued cd_l_glued ct_l_glued oc_l_normal_of kV_l_normal_of dc_l_normal_of pm_l_normal_of cd_l_normal_of ct_l_normal_of oc_l_asked kV_l_asked dc_l_asked pm_l_asked cd_l_asked ct_l_asked oc_l_all_inside kV_l_all_inside dc_l_all_inside pm_l_all_inside cd_l_all_inside ct_l_all_inside oc_l_walked kV_l_walked dc_l_walked pm_l_walked cd_l_walked ct_l_walked oc_l_due kV_l_due dc_l_due pm_l_due cd_l_due ct_l_due oc_l_size kV_l_size dc_l_size pm_l_size cd_l_size ct_l_size oc_l_tried_spans kV_l_tried_spans dc_l_tried_spans pm_l_tried_spans cd_l_tried_spans ct_l_tried_spans oc_l_starts_right kV_l_starts_right dc_l_starts_right pm_l_starts_right cd_l_starts_right ct_l_starts_right oc_l_covers_right kV_l_covers_right dc_l_covers_right pm_l_covers_right cd_l_covers_right ct_l_covers_right oc_l_refused_right kV_l_refused_right dc_l_refused_right pm_l_refused_right cd_l_refused_right ct_l_refused_right oc_l_law kV_l_law dc_l_law pm_l_law cd_l_law ct_l_law kv_Places_best_start_align kv_Places_first_start_align v_MOST_ALIGN v_MOST_END v_MOST_SPANS : Value}
    {od_c_BadValue_init an_c_BadValue_init od_p_is_whole an_p_is_whole od_p_whole_between an_p_whole_between od_p_is_span an_p_is_span od_p_is_power an_p_is_power od_p_is_align an_p_is_align od_p_align_up an_p_align_up od_p_joined_rows an_p_joined_rows od_p_span_from an_p_span_from od_p_start_within an_p_start_within od_p_check_wish an_p_check_wish od_c_Places_init an_c_Places_init od_c_Places_spans an_c_Places_spans od_c_Places_covers an_c_Places_covers od_c_Places_first_start an_c_Places_first_start od_c_Places_best_start an_c_Places_best_start od_l_draws an_l_draws od_l_next_cell an_l_next_cell od_l_mixed an_l_mixed od_l_take an_l_take od_l_among an_l_among od_l_between an_l_between od_l_number an_l_number od_l_count an_l_count od_l_alignment an_l_alignment od_l_up an_l_up od_l_long an_l_long od_l_not_integer an_l_not_integer od_l_not_within an_l_not_within od_l_not_alignment an_l_not_alignment od_l_same an_l_same od_l_copy an_l_copy od_l_span an_l_span od_l_spans an_l_spans od_l_start_due an_l_start_due od_l_kinds an_l_kinds od_l_refused an_l_refused od_l_held an_l_held od_l_cuts_of an_l_cuts_of od_l_glued an_l_glued od_l_normal_of an_l_normal_of od_l_asked an_l_asked od_l_all_inside an_l_all_inside od_l_walked an_l_walked od_l_due an_l_due od_l_size an_l_size od_l_tried_spans an_l_tried_spans od_l_starts_right an_l_starts_right od_l_covers_right an_l_covers_right od_l_refused_right an_l_refused_right od_l_law an_l_law : Option Addr} {sl_c_BadValue_init sl_p_is_whole sl_p_whole_between sl_p_is_span sl_p_is_power sl_p_is_align sl_p_align_up sl_p_joined_rows sl_p_span_from sl_p_start_within sl_p_check_wish sl_c_Places_init sl_c_Places_spans sl_c_Places_covers sl_c_Places_first_start sl_c_Places_best_start sl_l_draws sl_l_next_cell sl_l_mixed sl_l_take sl_l_among sl_l_between sl_l_number sl_l_count sl_l_alignment sl_l_up sl_l_long sl_l_not_integer sl_l_not_within sl_l_not_alignment sl_l_same sl_l_copy sl_l_span sl_l_spans sl_l_start_due sl_l_kinds sl_l_refused sl_l_held sl_l_cuts_of sl_l_glued sl_l_normal_of sl_l_asked sl_l_all_inside sl_l_walked sl_l_due sl_l_size sl_l_tried_spans sl_l_starts_right sl_l_covers_right sl_l_refused_right sl_l_law : Array (Option Value)}
    {nm_BadValue qn_BadValue : Str} {N_BadValue : Addr} {bs_BadValue : List Value} {sn_BadValue : List Str} {sub_BadValue : List Value} {ab_BadValue : Bool} {col_BadValue : Option Bool} {dd_BadValue : Option Addr} {m0_BadValue m1_BadValue m2_BadValue m3_BadValue m5_BadValue : Option Value}
    (q_StoreError : PySem.W.nsIn K mainGlobals "StoreError" = some (some (.ref C_StoreError)))
    (q_BadValue : PySem.W.nsIn K mainGlobals "BadValue" = some (some (.ref C_BadValue)))
    (q_Broken : PySem.W.nsIn K mainGlobals "Broken" = some (some (.ref C_Broken)))
    (q_Unknown : PySem.W.nsIn K mainGlobals "Unknown" = some (some (.ref C_Unknown)))
    (q_NotHeld : PySem.W.nsIn K mainGlobals "NotHeld" = some (some (.ref C_NotHeld)))
    (q_Fault : PySem.W.nsIn K mainGlobals "Fault" = some (some (.ref C_Fault)))
    (q_NoRoom : PySem.W.nsIn K mainGlobals "NoRoom" = some (some (.ref C_NoRoom)))
    (q_Cut : PySem.W.nsIn K mainGlobals "Cut" = some (some (.ref C_Cut)))
    (q_BadLine : PySem.W.nsIn K mainGlobals "BadLine" = some (some (.ref C_BadLine)))
    (q_Places : PySem.W.nsIn K mainGlobals "Places" = some (some (.ref C_Places)))
    (q_Merged : PySem.W.nsIn K mainGlobals "Merged" = some (some (.ref C_Merged)))
    (a_c_BadValue_init : PySem.W.findIn K (.ref C_BadValue) "__init__" = some (some (.ref f_c_BadValue_init)))
    (t_c_BadValue_init : PySem.W.typeIn K (.ref f_c_BadValue_init) = some (.type "function"))
    (l_c_BadValue_init : K.lookup f_c_BadValue_init = some ⟨oc_c_BadValue_init, od_c_BadValue_init, .func (PySem.W.fnOf "__init__" "BadValue.__init__" (defArgs s_c_BadValue_init) (defBody s_c_BadValue_init) (defScope s_c_BadValue_init) .none kV_c_BadValue_init dc_c_BadValue_init pm_c_BadValue_init an_c_BadValue_init cd_c_BadValue_init ct_c_BadValue_init), sl_c_BadValue_init⟩)
    (c_c_BadValue_init : PySem.W.codeIn K cd_c_BadValue_init "BadValue.__init__" = true)
    (k_c_BadValue_init : PySem.W.keepIn K (.ref f_c_BadValue_init) = true)
    (a_p_is_whole : PySem.W.nsIn K mainGlobals "is_whole" = some (some (.ref f_p_is_whole)))
    (l_p_is_whole : K.lookup f_p_is_whole = some ⟨oc_p_is_whole, od_p_is_whole, .func (PySem.W.fnOf "is_whole" "is_whole" (defArgs s_p_is_whole) (defBody s_p_is_whole) (defScope s_p_is_whole) .none kV_p_is_whole dc_p_is_whole pm_p_is_whole an_p_is_whole cd_p_is_whole ct_p_is_whole), sl_p_is_whole⟩)
    (c_p_is_whole : PySem.W.codeIn K cd_p_is_whole "is_whole" = true)
    (k_p_is_whole : PySem.W.keepIn K (.ref f_p_is_whole) = true)
    (a_p_whole_between : PySem.W.nsIn K mainGlobals "whole_between" = some (some (.ref f_p_whole_between)))
    (l_p_whole_between : K.lookup f_p_whole_between = some ⟨oc_p_whole_between, od_p_whole_between, .func (PySem.W.fnOf "whole_between" "whole_between" (defArgs s_p_whole_between) (defBody s_p_whole_between) (defScope s_p_whole_between) .none kV_p_whole_between dc_p_whole_between pm_p_whole_between an_p_whole_between cd_p_whole_between ct_p_whole_between), sl_p_whole_between⟩)
    (c_p_whole_between : PySem.W.codeIn K cd_p_whole_between "whole_between" = true)
    (k_p_whole_between : PySem.W.keepIn K (.ref f_p_whole_between) = true)
    (a_p_is_span : PySem.W.nsIn K mainGlobals "is_span" = some (some (.ref f_p_is_span)))
    (l_p_is_span : K.lookup f_p_is_span = some ⟨oc_p_is_span, od_p_is_span, .func (PySem.W.fnOf "is_span" "is_span" (defArgs s_p_is_span) (defBody s_p_is_span) (defScope s_p_is_span) .none kV_p_is_span dc_p_is_span pm_p_is_span an_p_is_span cd_p_is_span ct_p_is_span), sl_p_is_span⟩)
    (c_p_is_span : PySem.W.codeIn K cd_p_is_span "is_span" = true)
    (k_p_is_span : PySem.W.keepIn K (.ref f_p_is_span) = true)
    (a_p_is_power : PySem.W.nsIn K mainGlobals "is_power" = some (some (.ref f_p_is_power)))
    (l_p_is_power : K.lookup f_p_is_power = some ⟨oc_p_is_power, od_p_is_power, .func (PySem.W.fnOf "is_power" "is_power" (defArgs s_p_is_power) (defBody s_p_is_power) (defScope s_p_is_power) .none kV_p_is_power dc_p_is_power pm_p_is_power an_p_is_power cd_p_is_power ct_p_is_power), sl_p_is_power⟩)
    (c_p_is_power : PySem.W.codeIn K cd_p_is_power "is_power" = true)
    (k_p_is_power : PySem.W.keepIn K (.ref f_p_is_power) = true)
    (a_p_is_align : PySem.W.nsIn K mainGlobals "is_align" = some (some (.ref f_p_is_align)))
    (l_p_is_align : K.lookup f_p_is_align = some ⟨oc_p_is_align, od_p_is_align, .func (PySem.W.fnOf "is_align" "is_align" (defArgs s_p_is_align) (defBody s_p_is_align) (defScope s_p_is_align) .none kV_p_is_align dc_p_is_align pm_p_is_align an_p_is_align cd_p_is_align ct_p_is_align), sl_p_is_align⟩)
    (c_p_is_align : PySem.W.codeIn K cd_p_is_align "is_align" = true)
    (k_p_is_align : PySem.W.keepIn K (.ref f_p_is_align) = true)
    (a_p_align_up : PySem.W.nsIn K mainGlobals "align_up" = some (some (.ref f_p_align_up)))
    (l_p_align_up : K.lookup f_p_align_up = some ⟨oc_p_align_up, od_p_align_up, .func (PySem.W.fnOf "align_up" "align_up" (defArgs s_p_align_up) (defBody s_p_align_up) (defScope s_p_align_up) .none kV_p_align_up dc_p_align_up pm_p_align_up an_p_align_up cd_p_align_up ct_p_align_up), sl_p_align_up⟩)
    (c_p_align_up : PySem.W.codeIn K cd_p_align_up "align_up" = true)
    (k_p_align_up : PySem.W.keepIn K (.ref f_p_align_up) = true)
    (a_p_joined_rows : PySem.W.nsIn K mainGlobals "joined_rows" = some (some (.ref f_p_joined_rows)))
    (l_p_joined_rows : K.lookup f_p_joined_rows = some ⟨oc_p_joined_rows, od_p_joined_rows, .func (PySem.W.fnOf "joined_rows" "joined_rows" (defArgs s_p_joined_rows) (defBody s_p_joined_rows) (defScope s_p_joined_rows) .none kV_p_joined_rows dc_p_joined_rows pm_p_joined_rows an_p_joined_rows cd_p_joined_rows ct_p_joined_rows), sl_p_joined_rows⟩)
    (c_p_joined_rows : PySem.W.codeIn K cd_p_joined_rows "joined_rows" = true)
    (k_p_joined_rows : PySem.W.keepIn K (.ref f_p_joined_rows) = true)
    (a_p_span_from : PySem.W.nsIn K mainGlobals "span_from" = some (some (.ref f_p_span_from)))
    (l_p_span_from : K.lookup f_p_span_from = some ⟨oc_p_span_from, od_p_span_from, .func (PySem.W.fnOf "span_from" "span_from" (defArgs s_p_span_from) (defBody s_p_span_from) (defScope s_p_span_from) .none kV_p_span_from dc_p_span_from pm_p_span_from an_p_span_from cd_p_span_from ct_p_span_from), sl_p_span_from⟩)
    (c_p_span_from : PySem.W.codeIn K cd_p_span_from "span_from" = true)
    (k_p_span_from : PySem.W.keepIn K (.ref f_p_span_from) = true)
    (a_p_start_within : PySem.W.nsIn K mainGlobals "start_within" = some (some (.ref f_p_start_within)))
    (l_p_start_within : K.lookup f_p_start_within = some ⟨oc_p_start_within, od_p_start_within, .func (PySem.W.fnOf "start_within" "start_within" (defArgs s_p_start_within) (defBody s_p_start_within) (defScope s_p_start_within) .none kV_p_start_within dc_p_start_within pm_p_start_within an_p_start_within cd_p_start_within ct_p_start_within), sl_p_start_within⟩)
    (c_p_start_within : PySem.W.codeIn K cd_p_start_within "start_within" = true)
    (k_p_start_within : PySem.W.keepIn K (.ref f_p_start_within) = true)
    (a_p_check_wish : PySem.W.nsIn K mainGlobals "check_wish" = some (some (.ref f_p_check_wish)))
    (l_p_check_wish : K.lookup f_p_check_wish = some ⟨oc_p_check_wish, od_p_check_wish, .func (PySem.W.fnOf "check_wish" "check_wish" (defArgs s_p_check_wish) (defBody s_p_check_wish) (defScope s_p_check_wish) .none kV_p_check_wish dc_p_check_wish pm_p_check_wish an_p_check_wish cd_p_check_wish ct_p_check_wish), sl_p_check_wish⟩)
    (c_p_check_wish : PySem.W.codeIn K cd_p_check_wish "check_wish" = true)
    (k_p_check_wish : PySem.W.keepIn K (.ref f_p_check_wish) = true)
    (a_c_Places_init : PySem.W.findIn K (.ref C_Places) "__init__" = some (some (.ref f_c_Places_init)))
    (fn_c_Places_init : PySem.W.isFn K (.ref f_c_Places_init) = true)
    (t_c_Places_init : PySem.W.typeIn K (.ref f_c_Places_init) = some (.type "function"))
    (l_c_Places_init : K.lookup f_c_Places_init = some ⟨oc_c_Places_init, od_c_Places_init, .func (PySem.W.fnOf "__init__" "Places.__init__" (defArgs s_c_Places_init) (defBody s_c_Places_init) (defScope s_c_Places_init) (.ref T_c_Places_init) kV_c_Places_init dc_c_Places_init pm_c_Places_init an_c_Places_init cd_c_Places_init ct_c_Places_init), sl_c_Places_init⟩)
    (td_c_Places_init : ∃ (o : Obj) (n : Nat), K.lookup T_c_Places_init = some o ∧ o.data = .seq ([.ref E0_c_Places_init] : List Value).toArray n)
    (c_c_Places_init : PySem.W.codeIn K cd_c_Places_init "Places.__init__" = true)
    (k_c_Places_init : PySem.W.keepIn K (.ref f_c_Places_init) = true)
    (a_c_Places_spans : PySem.W.findIn K (.ref C_Places) "spans" = some (some (.ref p_c_Places_spans)))
    (pg_c_Places_spans : PySem.W.specialIn K (.ref p_c_Places_spans) "__get__" = some (some (.builtin "property.__get__")))
    (pt_c_Places_spans : PySem.W.takesIn K (.ref p_c_Places_spans) = some true)
    (rc_c_Places_spans : ∃ rest, PySem.W.recIn K p_c_Places_spans "property" = some (.ref f_c_Places_spans :: rest))
    (l_c_Places_spans : K.lookup f_c_Places_spans = some ⟨oc_c_Places_spans, od_c_Places_spans, .func (PySem.W.fnOf "spans" "Places.spans" (defArgs s_c_Places_spans) (defBody s_c_Places_spans) (defScope s_c_Places_spans) .none kV_c_Places_spans dc_c_Places_spans pm_c_Places_spans an_c_Places_spans cd_c_Places_spans ct_c_Places_spans), sl_c_Places_spans⟩)
    (c_c_Places_spans : PySem.W.codeIn K cd_c_Places_spans "Places.spans" = true)
    (k_c_Places_spans : PySem.W.keepIn K (.ref f_c_Places_spans) = true)
    (a_c_Places_covers : PySem.W.findIn K (.ref C_Places) "covers" = some (some (.ref f_c_Places_covers)))
    (fn_c_Places_covers : PySem.W.isFn K (.ref f_c_Places_covers) = true)
    (t_c_Places_covers : PySem.W.typeIn K (.ref f_c_Places_covers) = some (.type "function"))
    (l_c_Places_covers : K.lookup f_c_Places_covers = some ⟨oc_c_Places_covers, od_c_Places_covers, .func (PySem.W.fnOf "covers" "Places.covers" (defArgs s_c_Places_covers) (defBody s_c_Places_covers) (defScope s_c_Places_covers) .none kV_c_Places_covers dc_c_Places_covers pm_c_Places_covers an_c_Places_covers cd_c_Places_covers ct_c_Places_covers), sl_c_Places_covers⟩)
    (c_c_Places_covers : PySem.W.codeIn K cd_c_Places_covers "Places.covers" = true)
    (k_c_Places_covers : PySem.W.keepIn K (.ref f_c_Places_covers) = true)
    (a_c_Places_first_start : PySem.W.findIn K (.ref C_Places) "first_start" = some (some (.ref f_c_Places_first_start)))
    (fn_c_Places_first_start : PySem.W.isFn K (.ref f_c_Places_first_start) = true)
    (t_c_Places_first_start : PySem.W.typeIn K (.ref f_c_Places_first_start) = some (.type "function"))
    (l_c_Places_first_start : K.lookup f_c_Places_first_start = some ⟨oc_c_Places_first_start, od_c_Places_first_start, .func (PySem.W.fnOf "first_start" "Places.first_start" (defArgs s_c_Places_first_start) (defBody s_c_Places_first_start) (defScope s_c_Places_first_start) .none kV_c_Places_first_start dc_c_Places_first_start pm_c_Places_first_start an_c_Places_first_start cd_c_Places_first_start ct_c_Places_first_start), sl_c_Places_first_start⟩)
    (c_c_Places_first_start : PySem.W.codeIn K cd_c_Places_first_start "Places.first_start" = true)
    (k_c_Places_first_start : PySem.W.keepIn K (.ref f_c_Places_first_start) = true)
    (a_c_Places_best_start : PySem.W.findIn K (.ref C_Places) "best_start" = some (some (.ref f_c_Places_best_start)))
    (fn_c_Places_best_start : PySem.W.isFn K (.ref f_c_Places_best_start) = true)
    (t_c_Places_best_start : PySem.W.typeIn K (.ref f_c_Places_best_start) = some (.type "function"))
    (l_c_Places_best_start : K.lookup f_c_Places_best_start = some ⟨oc_c_Places_best_start, od_c_Places_best_start, .func (PySem.W.fnOf "best_start" "Places.best_start" (defArgs s_c_Places_best_start) (defBody s_c_Places_best_start) (defScope s_c_Places_best_start) .none kV_c_Places_best_start dc_c_Places_best_start pm_c_Places_best_start an_c_Places_best_start cd_c_Places_best_start ct_c_Places_best_start), sl_c_Places_best_start⟩)
    (c_c_Places_best_start : PySem.W.codeIn K cd_c_Places_best_start "Places.best_start" = true)
    (k_c_Places_best_start : PySem.W.keepIn K (.ref f_c_Places_best_start) = true)
    (a_l_draws : PySem.W.nsIn K mainGlobals "_law_draws" = some (some (.ref f_l_draws)))
    (l_l_draws : K.lookup f_l_draws = some ⟨oc_l_draws, od_l_draws, .func (PySem.W.fnOf "_law_draws" "_law_draws" (defArgs s_l_draws) (defBody s_l_draws) (defScope s_l_draws) .none kV_l_draws dc_l_draws pm_l_draws an_l_draws cd_l_draws ct_l_draws), sl_l_draws⟩)
    (c_l_draws : PySem.W.codeIn K cd_l_draws "_law_draws" = true)
    (k_l_draws : PySem.W.keepIn K (.ref f_l_draws) = true)
    (a_l_next_cell : PySem.W.nsIn K mainGlobals "_law_next_cell" = some (some (.ref f_l_next_cell)))
    (l_l_next_cell : K.lookup f_l_next_cell = some ⟨oc_l_next_cell, od_l_next_cell, .func (PySem.W.fnOf "_law_next_cell" "_law_next_cell" (defArgs s_l_next_cell) (defBody s_l_next_cell) (defScope s_l_next_cell) .none kV_l_next_cell dc_l_next_cell pm_l_next_cell an_l_next_cell cd_l_next_cell ct_l_next_cell), sl_l_next_cell⟩)
    (c_l_next_cell : PySem.W.codeIn K cd_l_next_cell "_law_next_cell" = true)
    (k_l_next_cell : PySem.W.keepIn K (.ref f_l_next_cell) = true)
    (a_l_mixed : PySem.W.nsIn K mainGlobals "_law_mixed" = some (some (.ref f_l_mixed)))
    (l_l_mixed : K.lookup f_l_mixed = some ⟨oc_l_mixed, od_l_mixed, .func (PySem.W.fnOf "_law_mixed" "_law_mixed" (defArgs s_l_mixed) (defBody s_l_mixed) (defScope s_l_mixed) .none kV_l_mixed dc_l_mixed pm_l_mixed an_l_mixed cd_l_mixed ct_l_mixed), sl_l_mixed⟩)
    (c_l_mixed : PySem.W.codeIn K cd_l_mixed "_law_mixed" = true)
    (k_l_mixed : PySem.W.keepIn K (.ref f_l_mixed) = true)
    (a_l_take : PySem.W.nsIn K mainGlobals "_law_take" = some (some (.ref f_l_take)))
    (l_l_take : K.lookup f_l_take = some ⟨oc_l_take, od_l_take, .func (PySem.W.fnOf "_law_take" "_law_take" (defArgs s_l_take) (defBody s_l_take) (defScope s_l_take) .none kV_l_take dc_l_take pm_l_take an_l_take cd_l_take ct_l_take), sl_l_take⟩)
    (c_l_take : PySem.W.codeIn K cd_l_take "_law_take" = true)
    (k_l_take : PySem.W.keepIn K (.ref f_l_take) = true)
    (a_l_among : PySem.W.nsIn K mainGlobals "_law_among" = some (some (.ref f_l_among)))
    (l_l_among : K.lookup f_l_among = some ⟨oc_l_among, od_l_among, .func (PySem.W.fnOf "_law_among" "_law_among" (defArgs s_l_among) (defBody s_l_among) (defScope s_l_among) .none kV_l_among dc_l_among pm_l_among an_l_among cd_l_among ct_l_among), sl_l_among⟩)
    (c_l_among : PySem.W.codeIn K cd_l_among "_law_among" = true)
    (k_l_among : PySem.W.keepIn K (.ref f_l_among) = true)
    (a_l_between : PySem.W.nsIn K mainGlobals "_law_between" = some (some (.ref f_l_between)))
    (l_l_between : K.lookup f_l_between = some ⟨oc_l_between, od_l_between, .func (PySem.W.fnOf "_law_between" "_law_between" (defArgs s_l_between) (defBody s_l_between) (defScope s_l_between) .none kV_l_between dc_l_between pm_l_between an_l_between cd_l_between ct_l_between), sl_l_between⟩)
    (c_l_between : PySem.W.codeIn K cd_l_between "_law_between" = true)
    (k_l_between : PySem.W.keepIn K (.ref f_l_between) = true)
    (a_l_number : PySem.W.nsIn K mainGlobals "_law_number" = some (some (.ref f_l_number)))
    (l_l_number : K.lookup f_l_number = some ⟨oc_l_number, od_l_number, .func (PySem.W.fnOf "_law_number" "_law_number" (defArgs s_l_number) (defBody s_l_number) (defScope s_l_number) .none kV_l_number dc_l_number pm_l_number an_l_number cd_l_number ct_l_number), sl_l_number⟩)
    (c_l_number : PySem.W.codeIn K cd_l_number "_law_number" = true)
    (k_l_number : PySem.W.keepIn K (.ref f_l_number) = true)
    (a_l_count : PySem.W.nsIn K mainGlobals "_law_count" = some (some (.ref f_l_count)))
    (l_l_count : K.lookup f_l_count = some ⟨oc_l_count, od_l_count, .func (PySem.W.fnOf "_law_count" "_law_count" (defArgs s_l_count) (defBody s_l_count) (defScope s_l_count) .none kV_l_count dc_l_count pm_l_count an_l_count cd_l_count ct_l_count), sl_l_count⟩)
    (c_l_count : PySem.W.codeIn K cd_l_count "_law_count" = true)
    (k_l_count : PySem.W.keepIn K (.ref f_l_count) = true)
    (a_l_alignment : PySem.W.nsIn K mainGlobals "_law_alignment" = some (some (.ref f_l_alignment)))
    (l_l_alignment : K.lookup f_l_alignment = some ⟨oc_l_alignment, od_l_alignment, .func (PySem.W.fnOf "_law_alignment" "_law_alignment" (defArgs s_l_alignment) (defBody s_l_alignment) (defScope s_l_alignment) .none kV_l_alignment dc_l_alignment pm_l_alignment an_l_alignment cd_l_alignment ct_l_alignment), sl_l_alignment⟩)
    (c_l_alignment : PySem.W.codeIn K cd_l_alignment "_law_alignment" = true)
    (k_l_alignment : PySem.W.keepIn K (.ref f_l_alignment) = true)
    (a_l_up : PySem.W.nsIn K mainGlobals "_law_up" = some (some (.ref f_l_up)))
    (l_l_up : K.lookup f_l_up = some ⟨oc_l_up, od_l_up, .func (PySem.W.fnOf "_law_up" "_law_up" (defArgs s_l_up) (defBody s_l_up) (defScope s_l_up) .none kV_l_up dc_l_up pm_l_up an_l_up cd_l_up ct_l_up), sl_l_up⟩)
    (c_l_up : PySem.W.codeIn K cd_l_up "_law_up" = true)
    (k_l_up : PySem.W.keepIn K (.ref f_l_up) = true)
    (a_l_long : PySem.W.nsIn K mainGlobals "_law_long" = some (some (.ref f_l_long)))
    (l_l_long : K.lookup f_l_long = some ⟨oc_l_long, od_l_long, .func (PySem.W.fnOf "_law_long" "_law_long" (defArgs s_l_long) (defBody s_l_long) (defScope s_l_long) .none kV_l_long dc_l_long pm_l_long an_l_long cd_l_long ct_l_long), sl_l_long⟩)
    (c_l_long : PySem.W.codeIn K cd_l_long "_law_long" = true)
    (k_l_long : PySem.W.keepIn K (.ref f_l_long) = true)
    (a_l_not_integer : PySem.W.nsIn K mainGlobals "_law_not_integer" = some (some (.ref f_l_not_integer)))
    (l_l_not_integer : K.lookup f_l_not_integer = some ⟨oc_l_not_integer, od_l_not_integer, .func (PySem.W.fnOf "_law_not_integer" "_law_not_integer" (defArgs s_l_not_integer) (defBody s_l_not_integer) (defScope s_l_not_integer) .none kV_l_not_integer dc_l_not_integer pm_l_not_integer an_l_not_integer cd_l_not_integer ct_l_not_integer), sl_l_not_integer⟩)
    (c_l_not_integer : PySem.W.codeIn K cd_l_not_integer "_law_not_integer" = true)
    (k_l_not_integer : PySem.W.keepIn K (.ref f_l_not_integer) = true)
    (a_l_not_within : PySem.W.nsIn K mainGlobals "_law_not_within" = some (some (.ref f_l_not_within)))
    (l_l_not_within : K.lookup f_l_not_within = some ⟨oc_l_not_within, od_l_not_within, .func (PySem.W.fnOf "_law_not_within" "_law_not_within" (defArgs s_l_not_within) (defBody s_l_not_within) (defScope s_l_not_within) .none kV_l_not_within dc_l_not_within pm_l_not_within an_l_not_within cd_l_not_within ct_l_not_within), sl_l_not_within⟩)
    (c_l_not_within : PySem.W.codeIn K cd_l_not_within "_law_not_within" = true)
    (k_l_not_within : PySem.W.keepIn K (.ref f_l_not_within) = true)
    (a_l_not_alignment : PySem.W.nsIn K mainGlobals "_law_not_alignment" = some (some (.ref f_l_not_alignment)))
    (l_l_not_alignment : K.lookup f_l_not_alignment = some ⟨oc_l_not_alignment, od_l_not_alignment, .func (PySem.W.fnOf "_law_not_alignment" "_law_not_alignment" (defArgs s_l_not_alignment) (defBody s_l_not_alignment) (defScope s_l_not_alignment) .none kV_l_not_alignment dc_l_not_alignment pm_l_not_alignment an_l_not_alignment cd_l_not_alignment ct_l_not_alignment), sl_l_not_alignment⟩)
    (c_l_not_alignment : PySem.W.codeIn K cd_l_not_alignment "_law_not_alignment" = true)
    (k_l_not_alignment : PySem.W.keepIn K (.ref f_l_not_alignment) = true)
    (a_l_same : PySem.W.nsIn K mainGlobals "_law_same" = some (some (.ref f_l_same)))
    (l_l_same : K.lookup f_l_same = some ⟨oc_l_same, od_l_same, .func (PySem.W.fnOf "_law_same" "_law_same" (defArgs s_l_same) (defBody s_l_same) (defScope s_l_same) .none kV_l_same dc_l_same pm_l_same an_l_same cd_l_same ct_l_same), sl_l_same⟩)
    (c_l_same : PySem.W.codeIn K cd_l_same "_law_same" = true)
    (k_l_same : PySem.W.keepIn K (.ref f_l_same) = true)
    (a_l_copy : PySem.W.nsIn K mainGlobals "_law_copy" = some (some (.ref f_l_copy)))
    (l_l_copy : K.lookup f_l_copy = some ⟨oc_l_copy, od_l_copy, .func (PySem.W.fnOf "_law_copy" "_law_copy" (defArgs s_l_copy) (defBody s_l_copy) (defScope s_l_copy) .none kV_l_copy dc_l_copy pm_l_copy an_l_copy cd_l_copy ct_l_copy), sl_l_copy⟩)
    (c_l_copy : PySem.W.codeIn K cd_l_copy "_law_copy" = true)
    (k_l_copy : PySem.W.keepIn K (.ref f_l_copy) = true)
    (a_l_span : PySem.W.nsIn K mainGlobals "_law_span" = some (some (.ref f_l_span)))
    (l_l_span : K.lookup f_l_span = some ⟨oc_l_span, od_l_span, .func (PySem.W.fnOf "_law_span" "_law_span" (defArgs s_l_span) (defBody s_l_span) (defScope s_l_span) .none kV_l_span dc_l_span pm_l_span an_l_span cd_l_span ct_l_span), sl_l_span⟩)
    (c_l_span : PySem.W.codeIn K cd_l_span "_law_span" = true)
    (k_l_span : PySem.W.keepIn K (.ref f_l_span) = true)
    (a_l_spans : PySem.W.nsIn K mainGlobals "_law_spans" = some (some (.ref f_l_spans)))
    (l_l_spans : K.lookup f_l_spans = some ⟨oc_l_spans, od_l_spans, .func (PySem.W.fnOf "_law_spans" "_law_spans" (defArgs s_l_spans) (defBody s_l_spans) (defScope s_l_spans) .none kV_l_spans dc_l_spans pm_l_spans an_l_spans cd_l_spans ct_l_spans), sl_l_spans⟩)
    (c_l_spans : PySem.W.codeIn K cd_l_spans "_law_spans" = true)
    (k_l_spans : PySem.W.keepIn K (.ref f_l_spans) = true)
    (a_l_start_due : PySem.W.nsIn K mainGlobals "_law_start_due" = some (some (.ref f_l_start_due)))
    (l_l_start_due : K.lookup f_l_start_due = some ⟨oc_l_start_due, od_l_start_due, .func (PySem.W.fnOf "_law_start_due" "_law_start_due" (defArgs s_l_start_due) (defBody s_l_start_due) (defScope s_l_start_due) .none kV_l_start_due dc_l_start_due pm_l_start_due an_l_start_due cd_l_start_due ct_l_start_due), sl_l_start_due⟩)
    (c_l_start_due : PySem.W.codeIn K cd_l_start_due "_law_start_due" = true)
    (k_l_start_due : PySem.W.keepIn K (.ref f_l_start_due) = true)
    (a_l_kinds : PySem.W.nsIn K mainGlobals "_law_kinds" = some (some (.ref f_l_kinds)))
    (l_l_kinds : K.lookup f_l_kinds = some ⟨oc_l_kinds, od_l_kinds, .func (PySem.W.fnOf "_law_kinds" "_law_kinds" (defArgs s_l_kinds) (defBody s_l_kinds) (defScope s_l_kinds) .none kV_l_kinds dc_l_kinds pm_l_kinds an_l_kinds cd_l_kinds ct_l_kinds), sl_l_kinds⟩)
    (c_l_kinds : PySem.W.codeIn K cd_l_kinds "_law_kinds" = true)
    (k_l_kinds : PySem.W.keepIn K (.ref f_l_kinds) = true)
    (a_l_refused : PySem.W.nsIn K mainGlobals "_law_refused" = some (some (.ref f_l_refused)))
    (l_l_refused : K.lookup f_l_refused = some ⟨oc_l_refused, od_l_refused, .func (PySem.W.fnOf "_law_refused" "_law_refused" (defArgs s_l_refused) (defBody s_l_refused) (defScope s_l_refused) .none kV_l_refused dc_l_refused pm_l_refused an_l_refused cd_l_refused ct_l_refused), sl_l_refused⟩)
    (c_l_refused : PySem.W.codeIn K cd_l_refused "_law_refused" = true)
    (k_l_refused : PySem.W.keepIn K (.ref f_l_refused) = true)
    (a_l_held : PySem.W.nsIn K mainGlobals "_law_held" = some (some (.ref f_l_held)))
    (l_l_held : K.lookup f_l_held = some ⟨oc_l_held, od_l_held, .func (PySem.W.fnOf "_law_held" "_law_held" (defArgs s_l_held) (defBody s_l_held) (defScope s_l_held) .none kV_l_held dc_l_held pm_l_held an_l_held cd_l_held ct_l_held), sl_l_held⟩)
    (c_l_held : PySem.W.codeIn K cd_l_held "_law_held" = true)
    (k_l_held : PySem.W.keepIn K (.ref f_l_held) = true)
    (a_l_cuts_of : PySem.W.nsIn K mainGlobals "_law_cuts_of" = some (some (.ref f_l_cuts_of)))
    (l_l_cuts_of : K.lookup f_l_cuts_of = some ⟨oc_l_cuts_of, od_l_cuts_of, .func (PySem.W.fnOf "_law_cuts_of" "_law_cuts_of" (defArgs s_l_cuts_of) (defBody s_l_cuts_of) (defScope s_l_cuts_of) .none kV_l_cuts_of dc_l_cuts_of pm_l_cuts_of an_l_cuts_of cd_l_cuts_of ct_l_cuts_of), sl_l_cuts_of⟩)
    (c_l_cuts_of : PySem.W.codeIn K cd_l_cuts_of "_law_cuts_of" = true)
    (k_l_cuts_of : PySem.W.keepIn K (.ref f_l_cuts_of) = true)
    (a_l_glued : PySem.W.nsIn K mainGlobals "_law_glued" = some (some (.ref f_l_glued)))
    (l_l_glued : K.lookup f_l_glued = some ⟨oc_l_glued, od_l_glued, .func (PySem.W.fnOf "_law_glued" "_law_glued" (defArgs s_l_glued) (defBody s_l_glued) (defScope s_l_glued) .none kV_l_glued dc_l_glued pm_l_glued an_l_glued cd_l_glued ct_l_glued), sl_l_glued⟩)
    (c_l_glued : PySem.W.codeIn K cd_l_glued "_law_glued" = true)
    (k_l_glued : PySem.W.keepIn K (.ref f_l_glued) = true)
    (a_l_normal_of : PySem.W.nsIn K mainGlobals "_law_normal_of" = some (some (.ref f_l_normal_of)))
    (l_l_normal_of : K.lookup f_l_normal_of = some ⟨oc_l_normal_of, od_l_normal_of, .func (PySem.W.fnOf "_law_normal_of" "_law_normal_of" (defArgs s_l_normal_of) (defBody s_l_normal_of) (defScope s_l_normal_of) .none kV_l_normal_of dc_l_normal_of pm_l_normal_of an_l_normal_of cd_l_normal_of ct_l_normal_of), sl_l_normal_of⟩)
    (c_l_normal_of : PySem.W.codeIn K cd_l_normal_of "_law_normal_of" = true)
    (k_l_normal_of : PySem.W.keepIn K (.ref f_l_normal_of) = true)
    (a_l_asked : PySem.W.nsIn K mainGlobals "_law_asked" = some (some (.ref f_l_asked)))
    (l_l_asked : K.lookup f_l_asked = some ⟨oc_l_asked, od_l_asked, .func (PySem.W.fnOf "_law_asked" "_law_asked" (defArgs s_l_asked) (defBody s_l_asked) (defScope s_l_asked) .none kV_l_asked dc_l_asked pm_l_asked an_l_asked cd_l_asked ct_l_asked), sl_l_asked⟩)
    (c_l_asked : PySem.W.codeIn K cd_l_asked "_law_asked" = true)
    (k_l_asked : PySem.W.keepIn K (.ref f_l_asked) = true)
    (a_l_all_inside : PySem.W.nsIn K mainGlobals "_law_all_inside" = some (some (.ref f_l_all_inside)))
    (l_l_all_inside : K.lookup f_l_all_inside = some ⟨oc_l_all_inside, od_l_all_inside, .func (PySem.W.fnOf "_law_all_inside" "_law_all_inside" (defArgs s_l_all_inside) (defBody s_l_all_inside) (defScope s_l_all_inside) .none kV_l_all_inside dc_l_all_inside pm_l_all_inside an_l_all_inside cd_l_all_inside ct_l_all_inside), sl_l_all_inside⟩)
    (c_l_all_inside : PySem.W.codeIn K cd_l_all_inside "_law_all_inside" = true)
    (k_l_all_inside : PySem.W.keepIn K (.ref f_l_all_inside) = true)
    (a_l_walked : PySem.W.nsIn K mainGlobals "_law_walked" = some (some (.ref f_l_walked)))
    (l_l_walked : K.lookup f_l_walked = some ⟨oc_l_walked, od_l_walked, .func (PySem.W.fnOf "_law_walked" "_law_walked" (defArgs s_l_walked) (defBody s_l_walked) (defScope s_l_walked) .none kV_l_walked dc_l_walked pm_l_walked an_l_walked cd_l_walked ct_l_walked), sl_l_walked⟩)
    (c_l_walked : PySem.W.codeIn K cd_l_walked "_law_walked" = true)
    (k_l_walked : PySem.W.keepIn K (.ref f_l_walked) = true)
    (a_l_due : PySem.W.nsIn K mainGlobals "_law_due" = some (some (.ref f_l_due)))
    (l_l_due : K.lookup f_l_due = some ⟨oc_l_due, od_l_due, .func (PySem.W.fnOf "_law_due" "_law_due" (defArgs s_l_due) (defBody s_l_due) (defScope s_l_due) .none kV_l_due dc_l_due pm_l_due an_l_due cd_l_due ct_l_due), sl_l_due⟩)
    (c_l_due : PySem.W.codeIn K cd_l_due "_law_due" = true)
    (k_l_due : PySem.W.keepIn K (.ref f_l_due) = true)
    (a_l_size : PySem.W.nsIn K mainGlobals "_law_size" = some (some (.ref f_l_size)))
    (l_l_size : K.lookup f_l_size = some ⟨oc_l_size, od_l_size, .func (PySem.W.fnOf "_law_size" "_law_size" (defArgs s_l_size) (defBody s_l_size) (defScope s_l_size) .none kV_l_size dc_l_size pm_l_size an_l_size cd_l_size ct_l_size), sl_l_size⟩)
    (c_l_size : PySem.W.codeIn K cd_l_size "_law_size" = true)
    (k_l_size : PySem.W.keepIn K (.ref f_l_size) = true)
    (a_l_tried_spans : PySem.W.nsIn K mainGlobals "_law_tried_spans" = some (some (.ref f_l_tried_spans)))
    (l_l_tried_spans : K.lookup f_l_tried_spans = some ⟨oc_l_tried_spans, od_l_tried_spans, .func (PySem.W.fnOf "_law_tried_spans" "_law_tried_spans" (defArgs s_l_tried_spans) (defBody s_l_tried_spans) (defScope s_l_tried_spans) .none kV_l_tried_spans dc_l_tried_spans pm_l_tried_spans an_l_tried_spans cd_l_tried_spans ct_l_tried_spans), sl_l_tried_spans⟩)
    (c_l_tried_spans : PySem.W.codeIn K cd_l_tried_spans "_law_tried_spans" = true)
    (k_l_tried_spans : PySem.W.keepIn K (.ref f_l_tried_spans) = true)
    (a_l_starts_right : PySem.W.nsIn K mainGlobals "_law_starts_right" = some (some (.ref f_l_starts_right)))
    (l_l_starts_right : K.lookup f_l_starts_right = some ⟨oc_l_starts_right, od_l_starts_right, .func (PySem.W.fnOf "_law_starts_right" "_law_starts_right" (defArgs s_l_starts_right) (defBody s_l_starts_right) (defScope s_l_starts_right) .none kV_l_starts_right dc_l_starts_right pm_l_starts_right an_l_starts_right cd_l_starts_right ct_l_starts_right), sl_l_starts_right⟩)
    (c_l_starts_right : PySem.W.codeIn K cd_l_starts_right "_law_starts_right" = true)
    (k_l_starts_right : PySem.W.keepIn K (.ref f_l_starts_right) = true)
    (a_l_covers_right : PySem.W.nsIn K mainGlobals "_law_covers_right" = some (some (.ref f_l_covers_right)))
    (l_l_covers_right : K.lookup f_l_covers_right = some ⟨oc_l_covers_right, od_l_covers_right, .func (PySem.W.fnOf "_law_covers_right" "_law_covers_right" (defArgs s_l_covers_right) (defBody s_l_covers_right) (defScope s_l_covers_right) .none kV_l_covers_right dc_l_covers_right pm_l_covers_right an_l_covers_right cd_l_covers_right ct_l_covers_right), sl_l_covers_right⟩)
    (c_l_covers_right : PySem.W.codeIn K cd_l_covers_right "_law_covers_right" = true)
    (k_l_covers_right : PySem.W.keepIn K (.ref f_l_covers_right) = true)
    (a_l_refused_right : PySem.W.nsIn K mainGlobals "_law_refused_right" = some (some (.ref f_l_refused_right)))
    (l_l_refused_right : K.lookup f_l_refused_right = some ⟨oc_l_refused_right, od_l_refused_right, .func (PySem.W.fnOf "_law_refused_right" "_law_refused_right" (defArgs s_l_refused_right) (defBody s_l_refused_right) (defScope s_l_refused_right) .none kV_l_refused_right dc_l_refused_right pm_l_refused_right an_l_refused_right cd_l_refused_right ct_l_refused_right), sl_l_refused_right⟩)
    (c_l_refused_right : PySem.W.codeIn K cd_l_refused_right "_law_refused_right" = true)
    (k_l_refused_right : PySem.W.keepIn K (.ref f_l_refused_right) = true)
    (a_l_law : PySem.W.nsIn K mainGlobals "law" = some (some (.ref f_l_law)))
    (l_l_law : K.lookup f_l_law = some ⟨oc_l_law, od_l_law, .func (PySem.W.fnOf "law" "law" (defArgs s_l_law) (defBody s_l_law) (defScope s_l_law) .none kV_l_law dc_l_law pm_l_law an_l_law cd_l_law ct_l_law), sl_l_law⟩)
    (c_l_law : PySem.W.codeIn K cd_l_law "law" = true)
    (k_l_law : PySem.W.keepIn K (.ref f_l_law) = true)
    (kd_Places_best_start : kV_c_Places_best_start = .ref D_Places_best_start)
    (kx_Places_best_start_align : PySem.W.nsIn K D_Places_best_start "align" = some (some kv_Places_best_start_align))
    (kr_Places_best_start_align : RelV (.int 1) kv_Places_best_start_align)
    (kd_Places_first_start : kV_c_Places_first_start = .ref D_Places_first_start)
    (kx_Places_first_start_align : PySem.W.nsIn K D_Places_first_start "align" = some (some kv_Places_first_start_align))
    (kr_Places_first_start_align : RelV (.int 1) kv_Places_first_start_align)
    (z_ValueError : PySem.W.nsIn K mainGlobals "ValueError" = some none)
    (z_all : PySem.W.nsIn K mainGlobals "all" = some none)
    (z_bool : PySem.W.nsIn K mainGlobals "bool" = some none)
    (z_dict : PySem.W.nsIn K mainGlobals "dict" = some none)
    (z_int : PySem.W.nsIn K mainGlobals "int" = some none)
    (z_isinstance : PySem.W.nsIn K mainGlobals "isinstance" = some none)
    (z_len : PySem.W.nsIn K mainGlobals "len" = some none)
    (z_list : PySem.W.nsIn K mainGlobals "list" = some none)
    (z_max : PySem.W.nsIn K mainGlobals "max" = some none)
    (z_min : PySem.W.nsIn K mainGlobals "min" = some none)
    (z_range : PySem.W.nsIn K mainGlobals "range" = some none)
    (z_sorted : PySem.W.nsIn K mainGlobals "sorted" = some none)
    (z_str : PySem.W.nsIn K mainGlobals "str" = some none)
    (z_tuple : PySem.W.nsIn K mainGlobals "tuple" = some none)
    (g_MOST_ALIGN : PySem.W.nsIn K mainGlobals "MOST_ALIGN" = some (some v_MOST_ALIGN))
    (r_MOST_ALIGN : RelV (.int 1073741824) v_MOST_ALIGN)
    (g_MOST_END : PySem.W.nsIn K mainGlobals "MOST_END" = some (some v_MOST_END))
    (r_MOST_END : RelV (.int 1000000000) v_MOST_END)
    (g_MOST_SPANS : PySem.W.nsIn K mainGlobals "MOST_SPANS" = some (some v_MOST_SPANS))
    (r_MOST_SPANS : RelV (.int 20000) v_MOST_SPANS)
    (sa_StoreError : PySem.W.findIn K (.ref C_StoreError) "__setattr__" = some (some (.builtin "object.__setattr__")))
    (ga_StoreError : PySem.W.findIn K (.ref C_StoreError) "__getattribute__" = some (some (.builtin "BaseException.__getattribute__")))
    (gg_StoreError : PySem.W.findIn K (.ref C_StoreError) "__getattr__" = some none)
    (cc_StoreError : PySem.W.findIn K (.ref C_StoreError) "__class__" = some (some (.builtin "object.__class__")))
    (eb_StoreError : PySem.W.subIn K (.ref C_StoreError) (.type "BaseException") = some true)
    (ty_StoreError : PySem.W.typeIn K (.ref C_StoreError) = some (.type "type"))
    (kp_StoreError : PySem.W.keepIn K (.ref C_StoreError) = true)
    (hd_StoreError : PySem.W.hasDictIn K C_StoreError = true)
    (mo_StoreError : PySem.W.mroIn K C_StoreError (.type "object") = some true)
    (sa_BadValue : PySem.W.findIn K (.ref C_BadValue) "__setattr__" = some (some (.builtin "object.__setattr__")))
    (ga_BadValue : PySem.W.findIn K (.ref C_BadValue) "__getattribute__" = some (some (.builtin "BaseException.__getattribute__")))
    (gg_BadValue : PySem.W.findIn K (.ref C_BadValue) "__getattr__" = some none)
    (cc_BadValue : PySem.W.findIn K (.ref C_BadValue) "__class__" = some (some (.builtin "object.__class__")))
    (eb_BadValue : PySem.W.subIn K (.ref C_BadValue) (.type "BaseException") = some true)
    (ty_BadValue : PySem.W.typeIn K (.ref C_BadValue) = some (.type "type"))
    (kp_BadValue : PySem.W.keepIn K (.ref C_BadValue) = true)
    (hd_BadValue : PySem.W.hasDictIn K C_BadValue = true)
    (mo_BadValue : PySem.W.mroIn K C_BadValue (.type "object") = some true)
    (x_BadValue : K.lookup C_BadValue = some (excClassObj nm_BadValue qn_BadValue C_BadValue N_BadValue bs_BadValue [.ref C_StoreError, .type "ValueError", .type "Exception", .type "BaseException", .type "object"] true sn_BadValue sub_BadValue ab_BadValue col_BadValue dd_BadValue m0_BadValue m1_BadValue m2_BadValue m3_BadValue m5_BadValue "ValueError.__new__"))
    (nf_BadValue_parameter : PySem.W.findIn K (.ref C_BadValue) "parameter" = some none)
    (nf_BadValue_told : PySem.W.findIn K (.ref C_BadValue) "told" = some none)
    (pg_Places : PySem.W.plainGet K C_Places Str.empty = true)
    (hd_Places : PySem.W.hasDictIn K C_Places = true)
    (po_Places : PySem.W.plainOver K C_Places = true)
    (sa_Places : PySem.W.findIn K (.ref C_Places) "__setattr__" = some (some (.builtin "object.__setattr__")))
    (kp_Places : PySem.W.keepIn K (.ref C_Places) = true)
    (mi_Places : PySem.W.makesIn K C_Places = true)
    (na_Places_parts : PySem.W.findIn K (.ref C_Places) "parts" = some none)
    (sp1 : PySem.W.specialIn K (.builtin "object.__class__") "__get__" = some (some (.builtin "getset_descriptor.__get__")))
    (sp2 : PySem.W.takesIn K (.builtin "object.__class__") = some true)
    (kit_list_Merged : PySem.W.kitOne K (.type "list") (.ref C_Merged) = some false)
    (kit_Places_Places : PySem.W.kitOne K (.ref C_Places) (.ref C_Places) = some true)
    (cc_Places : PySem.W.findIn K (.ref C_Places) "__class__" = some (some (.builtin "object.__class__")))
    (mo_Places : PySem.W.mroIn K C_Places (.type "object") = some true)
    (kit_BadValue_StoreError : PySem.W.kitOne K (.ref C_BadValue) (.ref C_StoreError) = some true)
    (kit_BadValue_ValueError : PySem.W.kitOne K (.ref C_BadValue) (.type "ValueError") = some true)
    (kit_BadValue_BadValue : PySem.W.kitOne K (.ref C_BadValue) (.ref C_BadValue) = some true)
    (kit_BadValue_Broken : PySem.W.kitOne K (.ref C_BadValue) (.ref C_Broken) = some false)
    (kit_BadValue_Unknown : PySem.W.kitOne K (.ref C_BadValue) (.ref C_Unknown) = some false)
    (kit_BadValue_NotHeld : PySem.W.kitOne K (.ref C_BadValue) (.ref C_NotHeld) = some false)
    (kit_BadValue_Fault : PySem.W.kitOne K (.ref C_BadValue) (.ref C_Fault) = some false)
    (kit_BadValue_NoRoom : PySem.W.kitOne K (.ref C_BadValue) (.ref C_NoRoom) = some false)
    (kit_BadValue_Cut : PySem.W.kitOne K (.ref C_BadValue) (.ref C_Cut) = some false)
    (kit_BadValue_BadLine : PySem.W.kitOne K (.ref C_BadValue) (.ref C_BadLine) = some false)
    (sub_BadValue_BadValue : PySem.W.subIn K (.ref C_BadValue) (.ref C_BadValue) = some true)
    : ∃ fd : FuncData, (∀ (s : Shared) (u : Value), BindsTo s fd ⟨[u], []⟩ [("_law_script", u)]) ∧ ∀ base : Heap, K.In base → base.Ns mainGlobals mg → FnOk P w K mg base CX0 9 fa fd ["_law_script"] (sp_end K) := by
  have e := hfa.symm.trans (PySem.W.mg_of X G a_l_law)
  cases e
  have F_c_BadValue_init := fun_mk (st := s_c_BadValue_init) l_c_BadValue_init c_c_BadValue_init k_c_BadValue_init
  have B_c_BadValue_init := F_c_BadValue_init.binds (ps := ["self", "parameter"]) fun _ _ _ _ _ _ us hl => match us, hl with | [_, _], _ => rfl
  have F_p_is_whole := fun_mk (st := s_p_is_whole) l_p_is_whole c_p_is_whole k_p_is_whole
  have B_p_is_whole := F_p_is_whole.binds (ps := ["value"]) fun _ _ _ _ _ _ us hl => match us, hl with | [_], _ => rfl
  have F_p_whole_between := fun_mk (st := s_p_whole_between) l_p_whole_between c_p_whole_between k_p_whole_between
  have B_p_whole_between := F_p_whole_between.binds (ps := ["value", "low", "high"]) fun _ _ _ _ _ _ us hl => match us, hl with | [_, _, _], _ => rfl
  have F_p_is_span := fun_mk (st := s_p_is_span) l_p_is_span c_p_is_span k_p_is_span
  have B_p_is_span := F_p_is_span.binds (ps := ["value"]) fun _ _ _ _ _ _ us hl => match us, hl with | [_], _ => rfl
  have F_p_is_power := fun_mk (st := s_p_is_power) l_p_is_power c_p_is_power k_p_is_power
  have B_p_is_power := F_p_is_power.binds (ps := ["value"]) fun _ _ _ _ _ _ us hl => match us, hl with | [_], _ => rfl
  have F_p_is_align := fun_mk (st := s_p_is_align) l_p_is_align c_p_is_align k_p_is_align
  have B_p_is_align := F_p_is_align.binds (ps := ["value", "most"]) fun _ _ _ _ _ _ us hl => match us, hl with | [_, _], _ => rfl
  have F_p_align_up := fun_mk (st := s_p_align_up) l_p_align_up c_p_align_up k_p_align_up
  have B_p_align_up := F_p_align_up.binds (ps := ["number", "align"]) fun _ _ _ _ _ _ us hl => match us, hl with | [_, _], _ => rfl
  have F_p_joined_rows := fun_mk (st := s_p_joined_rows) l_p_joined_rows c_p_joined_rows k_p_joined_rows
  have B_p_joined_rows := F_p_joined_rows.binds (ps := ["rows"]) fun _ _ _ _ _ _ us hl => match us, hl with | [_], _ => rfl
  have F_p_span_from := fun_mk (st := s_p_span_from) l_p_span_from c_p_span_from k_p_span_from
  have B_p_span_from := F_p_span_from.binds (ps := ["rows", "place"]) fun _ _ _ _ _ _ us hl => match us, hl with | [_, _], _ => rfl
  have F_p_start_within := fun_mk (st := s_p_start_within) l_p_start_within c_p_start_within k_p_start_within
  have B_p_start_within := F_p_start_within.binds (ps := ["span", "size", "align"]) fun _ _ _ _ _ _ us hl => match us, hl with | [_, _, _], _ => rfl
  have F_p_check_wish := fun_mk (st := s_p_check_wish) l_p_check_wish c_p_check_wish k_p_check_wish
  have B_p_check_wish := F_p_check_wish.binds (ps := ["size", "align"]) fun _ _ _ _ _ _ us hl => match us, hl with | [_, _], _ => rfl
  have F_c_Places_init : FunD K "__init__" "Places.__init__" (defArgs s_c_Places_init) (defBody s_c_Places_init) (defScope s_c_Places_init) [.ref E0_c_Places_init] [] f_c_Places_init (PySem.W.fnOf "__init__" "Places.__init__" (defArgs s_c_Places_init) (defBody s_c_Places_init) (defScope s_c_Places_init) (.ref T_c_Places_init) kV_c_Places_init dc_c_Places_init pm_c_Places_init an_c_Places_init cd_c_Places_init ct_c_Places_init) := by
    obtain ⟨o, n, h1, h2⟩ := td_c_Places_init
    exact ⟨⟨_, _, _, _, _, _, _, _, _, _, rfl, l_c_Places_init, c_c_Places_init, .inr ⟨by simp, T_c_Places_init, o, [.ref E0_c_Places_init], n, rfl, h1, h2, (.cons rfl .nil)⟩, .inl rfl⟩, k_c_Places_init⟩
  have B_c_Places_init : Binds K (PySem.W.fnOf "__init__" "Places.__init__" (defArgs s_c_Places_init) (defBody s_c_Places_init) (defScope s_c_Places_init) (.ref T_c_Places_init) kV_c_Places_init dc_c_Places_init pm_c_Places_init an_c_Places_init cd_c_Places_init ct_c_Places_init) ["self", "spans"] [] := by
    obtain ⟨ds, r, B⟩ := F_c_Places_init.binds1 (ps := ["self", "spans"]) 2 1 (by simp) rfl fun _ _ _ _ _ _ _ us its h1 h2 => match us, its, h1, h2 with | [_, _], [_], _, _ => ⟨_, rfl, rfl⟩
    cases r
    exact B
  have F_c_Places_spans := fun_mk (st := s_c_Places_spans) l_c_Places_spans c_c_Places_spans k_c_Places_spans
  have B_c_Places_spans := F_c_Places_spans.binds (ps := ["self"]) fun _ _ _ _ _ _ us hl => match us, hl with | [_], _ => rfl
  have F_c_Places_covers := fun_mk (st := s_c_Places_covers) l_c_Places_covers c_c_Places_covers k_c_Places_covers
  have B_c_Places_covers := F_c_Places_covers.binds (ps := ["self", "span"]) fun _ _ _ _ _ _ us hl => match us, hl with | [_, _], _ => rfl
  have F_c_Places_first_start := fun_mk (st := s_c_Places_first_start) l_c_Places_first_start c_c_Places_first_start k_c_Places_first_start
  have F_c_Places_best_start := fun_mk (st := s_c_Places_best_start) l_c_Places_best_start c_c_Places_best_start k_c_Places_best_start
  have F_l_draws := fun_mk (st := s_l_draws) l_l_draws c_l_draws k_l_draws
  have B_l_draws := F_l_draws.binds (ps := ["_law_script"]) fun _ _ _ _ _ _ us hl => match us, hl with | [_], _ => rfl
  have F_l_next_cell := fun_mk (st := s_l_next_cell) l_l_next_cell c_l_next_cell k_l_next_cell
  have B_l_next_cell := F_l_next_cell.binds (ps := ["_law_draws_here"]) fun _ _ _ _ _ _ us hl => match us, hl with | [_], _ => rfl
  have F_l_mixed := fun_mk (st := s_l_mixed) l_l_mixed c_l_mixed k_l_mixed
  have B_l_mixed := F_l_mixed.binds (ps := ["_law_seed", "_law_turn", "_law_many"]) fun _ _ _ _ _ _ us hl => match us, hl with | [_, _, _], _ => rfl
  have F_l_take := fun_mk (st := s_l_take) l_l_take c_l_take k_l_take
  have B_l_take := F_l_take.binds (ps := ["_law_draws_here", "_law_many"]) fun _ _ _ _ _ _ us hl => match us, hl with | [_, _], _ => rfl
  have F_l_among := fun_mk (st := s_l_among) l_l_among c_l_among k_l_among
  have B_l_among := F_l_among.binds (ps := ["_law_draws_here", "_law_row"]) fun _ _ _ _ _ _ us hl => match us, hl with | [_, _], _ => rfl
  have F_l_between := fun_mk (st := s_l_between) l_l_between c_l_between k_l_between
  have B_l_between := F_l_between.binds (ps := ["_law_draws_here", "_law_low", "_law_high"]) fun _ _ _ _ _ _ us hl => match us, hl with | [_, _, _], _ => rfl
  have F_l_number := fun_mk (st := s_l_number) l_l_number c_l_number k_l_number
  have B_l_number := F_l_number.binds (ps := ["_law_draws_here", "_law_low", "_law_high"]) fun _ _ _ _ _ _ us hl => match us, hl with | [_, _, _], _ => rfl
  have F_l_count := fun_mk (st := s_l_count) l_l_count c_l_count k_l_count
  have B_l_count := F_l_count.binds (ps := ["_law_draws_here", "_law_small", "_law_great"]) fun _ _ _ _ _ _ us hl => match us, hl with | [_, _, _], _ => rfl
  have F_l_alignment := fun_mk (st := s_l_alignment) l_l_alignment c_l_alignment k_l_alignment
  have B_l_alignment := F_l_alignment.binds (ps := ["_law_draws_here", "_law_most"]) fun _ _ _ _ _ _ us hl => match us, hl with | [_, _], _ => rfl
  have F_l_up := fun_mk (st := s_l_up) l_l_up c_l_up k_l_up
  have B_l_up := F_l_up.binds (ps := ["_law_number_here", "_law_alignment_here"]) fun _ _ _ _ _ _ us hl => match us, hl with | [_, _], _ => rfl
  have F_l_long := fun_mk (st := s_l_long) l_l_long c_l_long k_l_long
  have B_l_long := F_l_long.binds (ps := []) fun _ _ _ _ _ _ us hl => match us, hl with | [], _ => rfl
  have F_l_not_integer := fun_mk (st := s_l_not_integer) l_l_not_integer c_l_not_integer k_l_not_integer
  have B_l_not_integer := F_l_not_integer.binds (ps := ["_law_draws_here"]) fun _ _ _ _ _ _ us hl => match us, hl with | [_], _ => rfl
  have F_l_not_within := fun_mk (st := s_l_not_within) l_l_not_within c_l_not_within k_l_not_within
  have B_l_not_within := F_l_not_within.binds (ps := ["_law_draws_here", "_law_low", "_law_high"]) fun _ _ _ _ _ _ us hl => match us, hl with | [_, _, _], _ => rfl
  have F_l_not_alignment := fun_mk (st := s_l_not_alignment) l_l_not_alignment c_l_not_alignment k_l_not_alignment
  have B_l_not_alignment := F_l_not_alignment.binds (ps := ["_law_draws_here", "_law_most"]) fun _ _ _ _ _ _ us hl => match us, hl with | [_, _], _ => rfl
  have F_l_same := fun_mk (st := s_l_same) l_l_same c_l_same k_l_same
  have B_l_same := F_l_same.binds (ps := ["_law_actual", "_law_expected"]) fun _ _ _ _ _ _ us hl => match us, hl with | [_, _], _ => rfl
  have F_l_copy := fun_mk (st := s_l_copy) l_l_copy c_l_copy k_l_copy
  have B_l_copy := F_l_copy.binds (ps := ["_law_value"]) fun _ _ _ _ _ _ us hl => match us, hl with | [_], _ => rfl
  have F_l_span := fun_mk (st := s_l_span) l_l_span c_l_span k_l_span
  have B_l_span := F_l_span.binds (ps := ["_law_draws_here", "_law_most"]) fun _ _ _ _ _ _ us hl => match us, hl with | [_, _], _ => rfl
  have F_l_spans := fun_mk (st := s_l_spans) l_l_spans c_l_spans k_l_spans
  have B_l_spans := F_l_spans.binds (ps := ["_law_draws_here", "_law_count_here", "_law_most"]) fun _ _ _ _ _ _ us hl => match us, hl with | [_, _, _], _ => rfl
  have F_l_start_due := fun_mk (st := s_l_start_due) l_l_start_due c_l_start_due k_l_start_due
  have B_l_start_due := F_l_start_due.binds (ps := ["_law_spans_here", "_law_size_here", "_law_alignment_here", "_law_best"]) fun _ _ _ _ _ _ us hl => match us, hl with | [_, _, _, _], _ => rfl
  have F_l_kinds := fun_mk (st := s_l_kinds) l_l_kinds c_l_kinds k_l_kinds
  have B_l_kinds := F_l_kinds.binds (ps := ["_law_error"]) fun _ _ _ _ _ _ us hl => match us, hl with | [_], _ => rfl
  have F_l_refused := fun_mk (st := s_l_refused) l_l_refused c_l_refused k_l_refused
  have B_l_refused := F_l_refused.binds (ps := ["_law_title", "_law_fields"]) fun _ _ _ _ _ _ us hl => match us, hl with | [_, _], _ => rfl
  have F_l_held := fun_mk (st := s_l_held) l_l_held c_l_held k_l_held
  have B_l_held := F_l_held.binds (ps := ["_law_place", "_law_spans_here"]) fun _ _ _ _ _ _ us hl => match us, hl with | [_, _], _ => rfl
  have F_l_cuts_of := fun_mk (st := s_l_cuts_of) l_l_cuts_of c_l_cuts_of k_l_cuts_of
  have B_l_cuts_of := F_l_cuts_of.binds (ps := ["_law_spans_here"]) fun _ _ _ _ _ _ us hl => match us, hl with | [_], _ => rfl
  have F_l_glued := fun_mk (st := s_l_glued) l_l_glued c_l_glued k_l_glued
  have B_l_glued := F_l_glued.binds (ps := ["_law_row", "_law_low", "_law_high"]) fun _ _ _ _ _ _ us hl => match us, hl with | [_, _, _], _ => rfl
  have F_l_normal_of := fun_mk (st := s_l_normal_of) l_l_normal_of c_l_normal_of k_l_normal_of
  have B_l_normal_of := F_l_normal_of.binds (ps := ["_law_spans_here"]) fun _ _ _ _ _ _ us hl => match us, hl with | [_], _ => rfl
  have F_l_asked := fun_mk (st := s_l_asked) l_l_asked c_l_asked k_l_asked
  have B_l_asked := F_l_asked.binds (ps := ["_law_places", "_law_title", "_law_size_here", "_law_alignment_here"]) fun _ _ _ _ _ _ us hl => match us, hl with | [_, _, _, _], _ => rfl
  have F_l_all_inside := fun_mk (st := s_l_all_inside) l_l_all_inside c_l_all_inside k_l_all_inside
  have B_l_all_inside := F_l_all_inside.binds (ps := ["_law_inside", "_law_start", "_law_size_here"]) fun _ _ _ _ _ _ us hl => match us, hl with | [_, _, _], _ => rfl
  have F_l_walked := fun_mk (st := s_l_walked) l_l_walked c_l_walked k_l_walked
  have B_l_walked := F_l_walked.binds (ps := ["_law_spans_here", "_law_size_here", "_law_alignment_here", "_law_best"]) fun _ _ _ _ _ _ us hl => match us, hl with | [_, _, _, _], _ => rfl
  have F_l_due := fun_mk (st := s_l_due) l_l_due c_l_due k_l_due
  have B_l_due := F_l_due.binds (ps := ["_law_spans_here", "_law_size_here", "_law_alignment_here", "_law_best"]) fun _ _ _ _ _ _ us hl => match us, hl with | [_, _, _, _], _ => rfl
  have F_l_size := fun_mk (st := s_l_size) l_l_size c_l_size k_l_size
  have B_l_size := F_l_size.binds (ps := ["_law_draws_here", "_law_due_here"]) fun _ _ _ _ _ _ us hl => match us, hl with | [_, _], _ => rfl
  have F_l_tried_spans := fun_mk (st := s_l_tried_spans) l_l_tried_spans c_l_tried_spans k_l_tried_spans
  have B_l_tried_spans := F_l_tried_spans.binds (ps := ["_law_draws_here", "_law_due_here"]) fun _ _ _ _ _ _ us hl => match us, hl with | [_, _], _ => rfl
  have F_l_starts_right := fun_mk (st := s_l_starts_right) l_l_starts_right c_l_starts_right k_l_starts_right
  have B_l_starts_right := F_l_starts_right.binds (ps := ["_law_places", "_law_spans_here", "_law_size_here", "_law_alignment_here"]) fun _ _ _ _ _ _ us hl => match us, hl with | [_, _, _, _], _ => rfl
  have F_l_covers_right := fun_mk (st := s_l_covers_right) l_l_covers_right c_l_covers_right k_l_covers_right
  have B_l_covers_right := F_l_covers_right.binds (ps := ["_law_places", "_law_due_here", "_law_tried"]) fun _ _ _ _ _ _ us hl => match us, hl with | [_, _, _], _ => rfl
  have F_l_refused_right := fun_mk (st := s_l_refused_right) l_l_refused_right c_l_refused_right k_l_refused_right
  have B_l_refused_right := F_l_refused_right.binds (ps := ["_law_draws_here", "_law_places", "_law_size_here", "_law_alignment_here"]) fun _ _ _ _ _ _ us hl => match us, hl with | [_, _, _, _], _ => rfl
  have F_l_law := fun_mk (st := s_l_law) l_l_law c_l_law k_l_law
  have B_l_law := F_l_law.binds (ps := ["_law_script"]) fun _ _ _ _ _ _ us hl => match us, hl with | [_], _ => rfl
  have FD_Places_best_start : FunD K "best_start" "Places.best_start" (defArgs s_c_Places_best_start) (defBody s_c_Places_best_start) (defScope s_c_Places_best_start) [] [("align", (.int 1))] f_c_Places_best_start (PySem.W.fnOf "best_start" "Places.best_start" (defArgs s_c_Places_best_start) (defBody s_c_Places_best_start) (defScope s_c_Places_best_start) .none kV_c_Places_best_start dc_c_Places_best_start pm_c_Places_best_start an_c_Places_best_start cd_c_Places_best_start ct_c_Places_best_start) := ⟨⟨_, _, _, _, _, _, _, _, _, _, rfl, l_c_Places_best_start, c_c_Places_best_start, .inl ⟨rfl, rfl⟩, .inr ⟨D_Places_best_start, kd_Places_best_start, by intro q hq; simp only [List.mem_cons, List.not_mem_nil, or_false] at hq; rcases hq with rfl <;> first | exact ⟨_, kx_Places_best_start_align, kr_Places_best_start_align⟩⟩⟩, k_c_Places_best_start⟩
  have FD_Places_first_start : FunD K "first_start" "Places.first_start" (defArgs s_c_Places_first_start) (defBody s_c_Places_first_start) (defScope s_c_Places_first_start) [] [("align", (.int 1))] f_c_Places_first_start (PySem.W.fnOf "first_start" "Places.first_start" (defArgs s_c_Places_first_start) (defBody s_c_Places_first_start) (defScope s_c_Places_first_start) .none kV_c_Places_first_start dc_c_Places_first_start pm_c_Places_first_start an_c_Places_first_start cd_c_Places_first_start ct_c_Places_first_start) := ⟨⟨_, _, _, _, _, _, _, _, _, _, rfl, l_c_Places_first_start, c_c_Places_first_start, .inl ⟨rfl, rfl⟩, .inr ⟨D_Places_first_start, kd_Places_first_start, by intro q hq; simp only [List.mem_cons, List.not_mem_nil, or_false] at hq; rcases hq with rfl <;> first | exact ⟨_, kx_Places_first_start_align, kr_Places_first_start_align⟩⟩⟩, k_c_Places_first_start⟩
  have df_Places_best_start_2 : ∃ ds, Vals [(.int 1)] ds ∧ Binds K (PySem.W.fnOf "best_start" "Places.best_start" (defArgs s_c_Places_best_start) (defBody s_c_Places_best_start) (defScope s_c_Places_best_start) .none kV_c_Places_best_start dc_c_Places_best_start pm_c_Places_best_start an_c_Places_best_start cd_c_Places_best_start ct_c_Places_best_start) ["self", "size", "align"] ds := FD_Places_best_start.binds0 2 (by simp) rfl fun _ _ _ _ _ _ us ks h1 h2 => match us, ks, h1, h2 with | [_, _], [_], _, _ => ⟨_, _, _, _, _, _, rfl, rfl, rfl⟩
  have df_Places_first_start_2 : ∃ ds, Vals [(.int 1)] ds ∧ Binds K (PySem.W.fnOf "first_start" "Places.first_start" (defArgs s_c_Places_first_start) (defBody s_c_Places_first_start) (defScope s_c_Places_first_start) .none kV_c_Places_first_start dc_c_Places_first_start pm_c_Places_first_start an_c_Places_first_start cd_c_Places_first_start ct_c_Places_first_start) ["self", "size", "align"] ds := FD_Places_first_start.binds0 2 (by simp) rfl fun _ _ _ _ _ _ us ks h1 h2 => match us, ks, h1, h2 with | [_, _], [_], _, _ => ⟨_, _, _, _, _, _, rfl, rfl, rfl⟩
  have kf_Places_best_start_2_align : ∃ g, KBn K (PySem.W.fnOf "best_start" "Places.best_start" (defArgs s_c_Places_best_start) (defBody s_c_Places_best_start) (defScope s_c_Places_best_start) .none kV_c_Places_best_start dc_c_Places_best_start pm_c_Places_best_start an_c_Places_best_start cd_c_Places_best_start ct_c_Places_best_start) ["self", "size", "align"] 2 ["align"] g gv_all := ⟨fun us ws => us ++ ws, ⟨fun s us ws _ h1 h2 => match us, ws, h1, h2 with | [_, _], [_], _, _ => .of_eq rfl, fun r1 r2 => r1.append r2⟩⟩
  have kf_Places_first_start_2_align : ∃ g, KBn K (PySem.W.fnOf "first_start" "Places.first_start" (defArgs s_c_Places_first_start) (defBody s_c_Places_first_start) (defScope s_c_Places_first_start) .none kV_c_Places_first_start dc_c_Places_first_start pm_c_Places_first_start an_c_Places_first_start cd_c_Places_first_start ct_c_Places_first_start) ["self", "size", "align"] 2 ["align"] g gv_all := ⟨fun us ws => us ++ ws, ⟨fun s us ws _ h1 h2 => match us, ws, h1, h2 with | [_, _], [_], _, _ => .of_eq rfl, fun r1 r2 => r1.append r2⟩⟩
  have cl_Places : Cls K C_Places := ⟨pg_Places, hd_Places, po_Places, sa_Places⟩
  have ox_BadValue : OexC K C_BadValue := { cls := ⟨nm_BadValue, qn_BadValue, N_BadValue, bs_BadValue, _, sn_BadValue, sub_BadValue, ab_BadValue, col_BadValue, dd_BadValue, m0_BadValue, m1_BadValue, m2_BadValue, m3_BadValue, m5_BadValue, x_BadValue, rfl⟩, sa := sa_BadValue, exC := eb_BadValue, tyC := ty_BadValue, kC := kp_BadValue }
  have xf_BadValue : XfC K C_BadValue := ⟨ga_BadValue, gg_BadValue, eb_BadValue, hd_BadValue⟩
  have ex_BadValue : ExcC K C_BadValue := ⟨ga_BadValue, gg_BadValue, eb_BadValue, hd_BadValue, cc_BadValue, sp1, sp2, mo_BadValue⟩
  have xm_BadValue_BadValue : PySem.W.exmOne K (.ref C_BadValue) (.ref C_BadValue) = some true := PySem.W.exm_ref eb_BadValue hd_BadValue ty_BadValue sub_BadValue_BadValue
  have bv : BvC K C_BadValue := ⟨ox_BadValue, nf_BadValue_parameter, nf_BadValue_told⟩
  have bk : BvK K { k_StoreError := C_StoreError, k_BadValue := C_BadValue, k_Broken := C_Broken, k_Unknown := C_Unknown, k_NotHeld := C_NotHeld, k_Fault := C_Fault, k_NoRoom := C_NoRoom, k_Cut := C_Cut, k_BadLine := C_BadLine, k_Places := C_Places, k_Merged := C_Merged } := ⟨bv, ⟨ex_BadValue, xf_BadValue, kit_BadValue_StoreError, kit_BadValue_ValueError, kit_BadValue_BadValue, kit_BadValue_Broken, kit_BadValue_Unknown, kit_BadValue_NotHeld, kit_BadValue_Fault, kit_BadValue_NoRoom, kit_BadValue_Cut, kit_BadValue_BadLine⟩, xm_BadValue_BadValue⟩
  have pl : PlK K { k_StoreError := C_StoreError, k_BadValue := C_BadValue, k_Broken := C_Broken, k_Unknown := C_Unknown, k_NotHeld := C_NotHeld, k_Fault := C_Fault, k_NoRoom := C_NoRoom, k_Cut := C_Cut, k_BadLine := C_BadLine, k_Places := C_Places, k_Merged := C_Merged } := ⟨cl_Places, na_Places_parts, kit_list_Merged, cc_Places, sp1, sp2, mo_Places, kit_Places_Places⟩
  have kk : K05K K { k_StoreError := C_StoreError, k_BadValue := C_BadValue, k_Broken := C_Broken, k_Unknown := C_Unknown, k_NotHeld := C_NotHeld, k_Fault := C_Fault, k_NoRoom := C_NoRoom, k_Cut := C_Cut, k_BadLine := C_BadLine, k_Places := C_Places, k_Merged := C_Merged } := ⟨bk, pl⟩
  let a : Ad := { c := { k_StoreError := C_StoreError, k_BadValue := C_BadValue, k_Broken := C_Broken, k_Unknown := C_Unknown, k_NotHeld := C_NotHeld, k_Fault := C_Fault, k_NoRoom := C_NoRoom, k_Cut := C_Cut, k_BadLine := C_BadLine, k_Places := C_Places, k_Merged := C_Merged }, c_BadValue_init := f_c_BadValue_init, c_BadValue_init_d := (PySem.W.fnOf "__init__" "BadValue.__init__" (defArgs s_c_BadValue_init) (defBody s_c_BadValue_init) (defScope s_c_BadValue_init) .none kV_c_BadValue_init dc_c_BadValue_init pm_c_BadValue_init an_c_BadValue_init cd_c_BadValue_init ct_c_BadValue_init), p_is_whole := f_p_is_whole, p_is_whole_d := (PySem.W.fnOf "is_whole" "is_whole" (defArgs s_p_is_whole) (defBody s_p_is_whole) (defScope s_p_is_whole) .none kV_p_is_whole dc_p_is_whole pm_p_is_whole an_p_is_whole cd_p_is_whole ct_p_is_whole), p_whole_between := f_p_whole_between, p_whole_between_d := (PySem.W.fnOf "whole_between" "whole_between" (defArgs s_p_whole_between) (defBody s_p_whole_between) (defScope s_p_whole_between) .none kV_p_whole_between dc_p_whole_between pm_p_whole_between an_p_whole_between cd_p_whole_between ct_p_whole_between), p_is_span := f_p_is_span, p_is_span_d := (PySem.W.fnOf "is_span" "is_span" (defArgs s_p_is_span) (defBody s_p_is_span) (defScope s_p_is_span) .none kV_p_is_span dc_p_is_span pm_p_is_span an_p_is_span cd_p_is_span ct_p_is_span), p_is_power := f_p_is_power, p_is_power_d := (PySem.W.fnOf "is_power" "is_power" (defArgs s_p_is_power) (defBody s_p_is_power) (defScope s_p_is_power) .none kV_p_is_power dc_p_is_power pm_p_is_power an_p_is_power cd_p_is_power ct_p_is_power), p_is_align := f_p_is_align, p_is_align_d := (PySem.W.fnOf "is_align" "is_align" (defArgs s_p_is_align) (defBody s_p_is_align) (defScope s_p_is_align) .none kV_p_is_align dc_p_is_align pm_p_is_align an_p_is_align cd_p_is_align ct_p_is_align), p_align_up := f_p_align_up, p_align_up_d := (PySem.W.fnOf "align_up" "align_up" (defArgs s_p_align_up) (defBody s_p_align_up) (defScope s_p_align_up) .none kV_p_align_up dc_p_align_up pm_p_align_up an_p_align_up cd_p_align_up ct_p_align_up), p_joined_rows := f_p_joined_rows, p_joined_rows_d := (PySem.W.fnOf "joined_rows" "joined_rows" (defArgs s_p_joined_rows) (defBody s_p_joined_rows) (defScope s_p_joined_rows) .none kV_p_joined_rows dc_p_joined_rows pm_p_joined_rows an_p_joined_rows cd_p_joined_rows ct_p_joined_rows), p_span_from := f_p_span_from, p_span_from_d := (PySem.W.fnOf "span_from" "span_from" (defArgs s_p_span_from) (defBody s_p_span_from) (defScope s_p_span_from) .none kV_p_span_from dc_p_span_from pm_p_span_from an_p_span_from cd_p_span_from ct_p_span_from), p_start_within := f_p_start_within, p_start_within_d := (PySem.W.fnOf "start_within" "start_within" (defArgs s_p_start_within) (defBody s_p_start_within) (defScope s_p_start_within) .none kV_p_start_within dc_p_start_within pm_p_start_within an_p_start_within cd_p_start_within ct_p_start_within), p_check_wish := f_p_check_wish, p_check_wish_d := (PySem.W.fnOf "check_wish" "check_wish" (defArgs s_p_check_wish) (defBody s_p_check_wish) (defScope s_p_check_wish) .none kV_p_check_wish dc_p_check_wish pm_p_check_wish an_p_check_wish cd_p_check_wish ct_p_check_wish), c_Places_init := f_c_Places_init, c_Places_init_d := (PySem.W.fnOf "__init__" "Places.__init__" (defArgs s_c_Places_init) (defBody s_c_Places_init) (defScope s_c_Places_init) (.ref T_c_Places_init) kV_c_Places_init dc_c_Places_init pm_c_Places_init an_c_Places_init cd_c_Places_init ct_c_Places_init), c_Places_spans := f_c_Places_spans, c_Places_spans_d := (PySem.W.fnOf "spans" "Places.spans" (defArgs s_c_Places_spans) (defBody s_c_Places_spans) (defScope s_c_Places_spans) .none kV_c_Places_spans dc_c_Places_spans pm_c_Places_spans an_c_Places_spans cd_c_Places_spans ct_c_Places_spans), c_Places_covers := f_c_Places_covers, c_Places_covers_d := (PySem.W.fnOf "covers" "Places.covers" (defArgs s_c_Places_covers) (defBody s_c_Places_covers) (defScope s_c_Places_covers) .none kV_c_Places_covers dc_c_Places_covers pm_c_Places_covers an_c_Places_covers cd_c_Places_covers ct_c_Places_covers), c_Places_first_start := f_c_Places_first_start, c_Places_first_start_d := (PySem.W.fnOf "first_start" "Places.first_start" (defArgs s_c_Places_first_start) (defBody s_c_Places_first_start) (defScope s_c_Places_first_start) .none kV_c_Places_first_start dc_c_Places_first_start pm_c_Places_first_start an_c_Places_first_start cd_c_Places_first_start ct_c_Places_first_start), c_Places_best_start := f_c_Places_best_start, c_Places_best_start_d := (PySem.W.fnOf "best_start" "Places.best_start" (defArgs s_c_Places_best_start) (defBody s_c_Places_best_start) (defScope s_c_Places_best_start) .none kV_c_Places_best_start dc_c_Places_best_start pm_c_Places_best_start an_c_Places_best_start cd_c_Places_best_start ct_c_Places_best_start), l_draws := f_l_draws, l_draws_d := (PySem.W.fnOf "_law_draws" "_law_draws" (defArgs s_l_draws) (defBody s_l_draws) (defScope s_l_draws) .none kV_l_draws dc_l_draws pm_l_draws an_l_draws cd_l_draws ct_l_draws), l_next_cell := f_l_next_cell, l_next_cell_d := (PySem.W.fnOf "_law_next_cell" "_law_next_cell" (defArgs s_l_next_cell) (defBody s_l_next_cell) (defScope s_l_next_cell) .none kV_l_next_cell dc_l_next_cell pm_l_next_cell an_l_next_cell cd_l_next_cell ct_l_next_cell), l_mixed := f_l_mixed, l_mixed_d := (PySem.W.fnOf "_law_mixed" "_law_mixed" (defArgs s_l_mixed) (defBody s_l_mixed) (defScope s_l_mixed) .none kV_l_mixed dc_l_mixed pm_l_mixed an_l_mixed cd_l_mixed ct_l_mixed), l_take := f_l_take, l_take_d := (PySem.W.fnOf "_law_take" "_law_take" (defArgs s_l_take) (defBody s_l_take) (defScope s_l_take) .none kV_l_take dc_l_take pm_l_take an_l_take cd_l_take ct_l_take), l_among := f_l_among, l_among_d := (PySem.W.fnOf "_law_among" "_law_among" (defArgs s_l_among) (defBody s_l_among) (defScope s_l_among) .none kV_l_among dc_l_among pm_l_among an_l_among cd_l_among ct_l_among), l_between := f_l_between, l_between_d := (PySem.W.fnOf "_law_between" "_law_between" (defArgs s_l_between) (defBody s_l_between) (defScope s_l_between) .none kV_l_between dc_l_between pm_l_between an_l_between cd_l_between ct_l_between), l_number := f_l_number, l_number_d := (PySem.W.fnOf "_law_number" "_law_number" (defArgs s_l_number) (defBody s_l_number) (defScope s_l_number) .none kV_l_number dc_l_number pm_l_number an_l_number cd_l_number ct_l_number), l_count := f_l_count, l_count_d := (PySem.W.fnOf "_law_count" "_law_count" (defArgs s_l_count) (defBody s_l_count) (defScope s_l_count) .none kV_l_count dc_l_count pm_l_count an_l_count cd_l_count ct_l_count), l_alignment := f_l_alignment, l_alignment_d := (PySem.W.fnOf "_law_alignment" "_law_alignment" (defArgs s_l_alignment) (defBody s_l_alignment) (defScope s_l_alignment) .none kV_l_alignment dc_l_alignment pm_l_alignment an_l_alignment cd_l_alignment ct_l_alignment), l_up := f_l_up, l_up_d := (PySem.W.fnOf "_law_up" "_law_up" (defArgs s_l_up) (defBody s_l_up) (defScope s_l_up) .none kV_l_up dc_l_up pm_l_up an_l_up cd_l_up ct_l_up), l_long := f_l_long, l_long_d := (PySem.W.fnOf "_law_long" "_law_long" (defArgs s_l_long) (defBody s_l_long) (defScope s_l_long) .none kV_l_long dc_l_long pm_l_long an_l_long cd_l_long ct_l_long), l_not_integer := f_l_not_integer, l_not_integer_d := (PySem.W.fnOf "_law_not_integer" "_law_not_integer" (defArgs s_l_not_integer) (defBody s_l_not_integer) (defScope s_l_not_integer) .none kV_l_not_integer dc_l_not_integer pm_l_not_integer an_l_not_integer cd_l_not_integer ct_l_not_integer), l_not_within := f_l_not_within, l_not_within_d := (PySem.W.fnOf "_law_not_within" "_law_not_within" (defArgs s_l_not_within) (defBody s_l_not_within) (defScope s_l_not_within) .none kV_l_not_within dc_l_not_within pm_l_not_within an_l_not_within cd_l_not_within ct_l_not_within), l_not_alignment := f_l_not_alignment, l_not_alignment_d := (PySem.W.fnOf "_law_not_alignment" "_law_not_alignment" (defArgs s_l_not_alignment) (defBody s_l_not_alignment) (defScope s_l_not_alignment) .none kV_l_not_alignment dc_l_not_alignment pm_l_not_alignment an_l_not_alignment cd_l_not_alignment ct_l_not_alignment), l_same := f_l_same, l_same_d := (PySem.W.fnOf "_law_same" "_law_same" (defArgs s_l_same) (defBody s_l_same) (defScope s_l_same) .none kV_l_same dc_l_same pm_l_same an_l_same cd_l_same ct_l_same), l_copy := f_l_copy, l_copy_d := (PySem.W.fnOf "_law_copy" "_law_copy" (defArgs s_l_copy) (defBody s_l_copy) (defScope s_l_copy) .none kV_l_copy dc_l_copy pm_l_copy an_l_copy cd_l_copy ct_l_copy), l_span := f_l_span, l_span_d := (PySem.W.fnOf "_law_span" "_law_span" (defArgs s_l_span) (defBody s_l_span) (defScope s_l_span) .none kV_l_span dc_l_span pm_l_span an_l_span cd_l_span ct_l_span), l_spans := f_l_spans, l_spans_d := (PySem.W.fnOf "_law_spans" "_law_spans" (defArgs s_l_spans) (defBody s_l_spans) (defScope s_l_spans) .none kV_l_spans dc_l_spans pm_l_spans an_l_spans cd_l_spans ct_l_spans), l_start_due := f_l_start_due, l_start_due_d := (PySem.W.fnOf "_law_start_due" "_law_start_due" (defArgs s_l_start_due) (defBody s_l_start_due) (defScope s_l_start_due) .none kV_l_start_due dc_l_start_due pm_l_start_due an_l_start_due cd_l_start_due ct_l_start_due), l_kinds := f_l_kinds, l_kinds_d := (PySem.W.fnOf "_law_kinds" "_law_kinds" (defArgs s_l_kinds) (defBody s_l_kinds) (defScope s_l_kinds) .none kV_l_kinds dc_l_kinds pm_l_kinds an_l_kinds cd_l_kinds ct_l_kinds), l_refused := f_l_refused, l_refused_d := (PySem.W.fnOf "_law_refused" "_law_refused" (defArgs s_l_refused) (defBody s_l_refused) (defScope s_l_refused) .none kV_l_refused dc_l_refused pm_l_refused an_l_refused cd_l_refused ct_l_refused), l_held := f_l_held, l_held_d := (PySem.W.fnOf "_law_held" "_law_held" (defArgs s_l_held) (defBody s_l_held) (defScope s_l_held) .none kV_l_held dc_l_held pm_l_held an_l_held cd_l_held ct_l_held), l_cuts_of := f_l_cuts_of, l_cuts_of_d := (PySem.W.fnOf "_law_cuts_of" "_law_cuts_of" (defArgs s_l_cuts_of) (defBody s_l_cuts_of) (defScope s_l_cuts_of) .none kV_l_cuts_of dc_l_cuts_of pm_l_cuts_of an_l_cuts_of cd_l_cuts_of ct_l_cuts_of), l_glued := f_l_glued, l_glued_d := (PySem.W.fnOf "_law_glued" "_law_glued" (defArgs s_l_glued) (defBody s_l_glued) (defScope s_l_glued) .none kV_l_glued dc_l_glued pm_l_glued an_l_glued cd_l_glued ct_l_glued), l_normal_of := f_l_normal_of, l_normal_of_d := (PySem.W.fnOf "_law_normal_of" "_law_normal_of" (defArgs s_l_normal_of) (defBody s_l_normal_of) (defScope s_l_normal_of) .none kV_l_normal_of dc_l_normal_of pm_l_normal_of an_l_normal_of cd_l_normal_of ct_l_normal_of), l_asked := f_l_asked, l_asked_d := (PySem.W.fnOf "_law_asked" "_law_asked" (defArgs s_l_asked) (defBody s_l_asked) (defScope s_l_asked) .none kV_l_asked dc_l_asked pm_l_asked an_l_asked cd_l_asked ct_l_asked), l_all_inside := f_l_all_inside, l_all_inside_d := (PySem.W.fnOf "_law_all_inside" "_law_all_inside" (defArgs s_l_all_inside) (defBody s_l_all_inside) (defScope s_l_all_inside) .none kV_l_all_inside dc_l_all_inside pm_l_all_inside an_l_all_inside cd_l_all_inside ct_l_all_inside), l_walked := f_l_walked, l_walked_d := (PySem.W.fnOf "_law_walked" "_law_walked" (defArgs s_l_walked) (defBody s_l_walked) (defScope s_l_walked) .none kV_l_walked dc_l_walked pm_l_walked an_l_walked cd_l_walked ct_l_walked), l_due := f_l_due, l_due_d := (PySem.W.fnOf "_law_due" "_law_due" (defArgs s_l_due) (defBody s_l_due) (defScope s_l_due) .none kV_l_due dc_l_due pm_l_due an_l_due cd_l_due ct_l_due), l_size := f_l_size, l_size_d := (PySem.W.fnOf "_law_size" "_law_size" (defArgs s_l_size) (defBody s_l_size) (defScope s_l_size) .none kV_l_size dc_l_size pm_l_size an_l_size cd_l_size ct_l_size), l_tried_spans := f_l_tried_spans, l_tried_spans_d := (PySem.W.fnOf "_law_tried_spans" "_law_tried_spans" (defArgs s_l_tried_spans) (defBody s_l_tried_spans) (defScope s_l_tried_spans) .none kV_l_tried_spans dc_l_tried_spans pm_l_tried_spans an_l_tried_spans cd_l_tried_spans ct_l_tried_spans), l_starts_right := f_l_starts_right, l_starts_right_d := (PySem.W.fnOf "_law_starts_right" "_law_starts_right" (defArgs s_l_starts_right) (defBody s_l_starts_right) (defScope s_l_starts_right) .none kV_l_starts_right dc_l_starts_right pm_l_starts_right an_l_starts_right cd_l_starts_right ct_l_starts_right), l_covers_right := f_l_covers_right, l_covers_right_d := (PySem.W.fnOf "_law_covers_right" "_law_covers_right" (defArgs s_l_covers_right) (defBody s_l_covers_right) (defScope s_l_covers_right) .none kV_l_covers_right dc_l_covers_right pm_l_covers_right an_l_covers_right cd_l_covers_right ct_l_covers_right), l_refused_right := f_l_refused_right, l_refused_right_d := (PySem.W.fnOf "_law_refused_right" "_law_refused_right" (defArgs s_l_refused_right) (defBody s_l_refused_right) (defScope s_l_refused_right) .none kV_l_refused_right dc_l_refused_right pm_l_refused_right an_l_refused_right cd_l_refused_right ct_l_refused_right), l_law := fa, l_law_d := (PySem.W.fnOf "law" "law" (defArgs s_l_law) (defBody s_l_law) (defScope s_l_law) .none kV_l_law dc_l_law pm_l_law an_l_law cd_l_law ct_l_law), p_c_Places_spans := p_c_Places_spans, v_MOST_ALIGN := v_MOST_ALIGN, v_MOST_END := v_MOST_END, v_MOST_SPANS := v_MOST_SPANS }
  have T : Txt K mg a := { b_ValueError := PySem.W.mg_none_of X G z_ValueError, b_all := PySem.W.mg_none_of X G z_all, b_bool := PySem.W.mg_none_of X G z_bool, b_dict := PySem.W.mg_none_of X G z_dict, b_int := PySem.W.mg_none_of X G z_int, b_isinstance := PySem.W.mg_none_of X G z_isinstance, b_len := PySem.W.mg_none_of X G z_len, b_list := PySem.W.mg_none_of X G z_list, b_max := PySem.W.mg_none_of X G z_max, b_min := PySem.W.mg_none_of X G z_min, b_range := PySem.W.mg_none_of X G z_range, b_sorted := PySem.W.mg_none_of X G z_sorted, b_str := PySem.W.mg_none_of X G z_str, b_tuple := PySem.W.mg_none_of X G z_tuple, g_MOST_ALIGN := PySem.W.mg_of X G g_MOST_ALIGN, r_MOST_ALIGN := r_MOST_ALIGN, g_MOST_END := PySem.W.mg_of X G g_MOST_END, r_MOST_END := r_MOST_END, g_MOST_SPANS := PySem.W.mg_of X G g_MOST_SPANS, r_MOST_SPANS := r_MOST_SPANS, k_StoreError := PySem.W.mg_of X G q_StoreError, k_BadValue := PySem.W.mg_of X G q_BadValue, k_Broken := PySem.W.mg_of X G q_Broken, k_Unknown := PySem.W.mg_of X G q_Unknown, k_NotHeld := PySem.W.mg_of X G q_NotHeld, k_Fault := PySem.W.mg_of X G q_Fault, k_NoRoom := PySem.W.mg_of X G q_NoRoom, k_Cut := PySem.W.mg_of X G q_Cut, k_BadLine := PySem.W.mg_of X G q_BadLine, k_Merged := PySem.W.mg_of X G q_Merged, k_Places := PySem.W.mg_of X G q_Places, c_BadValue_init := ⟨F_c_BadValue_init, B_c_BadValue_init⟩, p_is_whole := ⟨F_p_is_whole, PySem.W.mg_of X G a_p_is_whole, B_p_is_whole⟩, p_whole_between := ⟨F_p_whole_between, PySem.W.mg_of X G a_p_whole_between, B_p_whole_between⟩, p_is_span := ⟨F_p_is_span, PySem.W.mg_of X G a_p_is_span, B_p_is_span⟩, p_is_power := ⟨F_p_is_power, PySem.W.mg_of X G a_p_is_power, B_p_is_power⟩, p_is_align := ⟨F_p_is_align, PySem.W.mg_of X G a_p_is_align, B_p_is_align⟩, p_align_up := ⟨F_p_align_up, PySem.W.mg_of X G a_p_align_up, B_p_align_up⟩, p_joined_rows := ⟨F_p_joined_rows, PySem.W.mg_of X G a_p_joined_rows, B_p_joined_rows⟩, p_span_from := ⟨F_p_span_from, PySem.W.mg_of X G a_p_span_from, B_p_span_from⟩, p_start_within := ⟨F_p_start_within, PySem.W.mg_of X G a_p_start_within, B_p_start_within⟩, p_check_wish := ⟨F_p_check_wish, PySem.W.mg_of X G a_p_check_wish, B_p_check_wish⟩, c_Places_init := ⟨⟨_, F_c_Places_init⟩, B_c_Places_init⟩, c_Places_spans := ⟨F_c_Places_spans, B_c_Places_spans⟩, c_Places_covers := ⟨F_c_Places_covers, B_c_Places_covers⟩, c_Places_first_start := ⟨F_c_Places_first_start⟩, c_Places_best_start := ⟨F_c_Places_best_start⟩, l_draws := ⟨F_l_draws, PySem.W.mg_of X G a_l_draws, B_l_draws⟩, l_next_cell := ⟨F_l_next_cell, PySem.W.mg_of X G a_l_next_cell, B_l_next_cell⟩, l_mixed := ⟨F_l_mixed, PySem.W.mg_of X G a_l_mixed, B_l_mixed⟩, l_take := ⟨F_l_take, PySem.W.mg_of X G a_l_take, B_l_take⟩, l_among := ⟨F_l_among, PySem.W.mg_of X G a_l_among, B_l_among⟩, l_between := ⟨F_l_between, PySem.W.mg_of X G a_l_between, B_l_between⟩, l_number := ⟨F_l_number, PySem.W.mg_of X G a_l_number, B_l_number⟩, l_count := ⟨F_l_count, PySem.W.mg_of X G a_l_count, B_l_count⟩, l_alignment := ⟨F_l_alignment, PySem.W.mg_of X G a_l_alignment, B_l_alignment⟩, l_up := ⟨F_l_up, PySem.W.mg_of X G a_l_up, B_l_up⟩, l_long := ⟨F_l_long, PySem.W.mg_of X G a_l_long, B_l_long⟩, l_not_integer := ⟨F_l_not_integer, PySem.W.mg_of X G a_l_not_integer, B_l_not_integer⟩, l_not_within := ⟨F_l_not_within, PySem.W.mg_of X G a_l_not_within, B_l_not_within⟩, l_not_alignment := ⟨F_l_not_alignment, PySem.W.mg_of X G a_l_not_alignment, B_l_not_alignment⟩, l_same := ⟨F_l_same, PySem.W.mg_of X G a_l_same, B_l_same⟩, l_copy := ⟨F_l_copy, PySem.W.mg_of X G a_l_copy, B_l_copy⟩, l_span := ⟨F_l_span, PySem.W.mg_of X G a_l_span, B_l_span⟩, l_spans := ⟨F_l_spans, PySem.W.mg_of X G a_l_spans, B_l_spans⟩, l_start_due := ⟨F_l_start_due, PySem.W.mg_of X G a_l_start_due, B_l_start_due⟩, l_kinds := ⟨F_l_kinds, PySem.W.mg_of X G a_l_kinds, B_l_kinds⟩, l_refused := ⟨F_l_refused, PySem.W.mg_of X G a_l_refused, B_l_refused⟩, l_held := ⟨F_l_held, PySem.W.mg_of X G a_l_held, B_l_held⟩, l_cuts_of := ⟨F_l_cuts_of, PySem.W.mg_of X G a_l_cuts_of, B_l_cuts_of⟩, l_glued := ⟨F_l_glued, PySem.W.mg_of X G a_l_glued, B_l_glued⟩, l_normal_of := ⟨F_l_normal_of, PySem.W.mg_of X G a_l_normal_of, B_l_normal_of⟩, l_asked := ⟨F_l_asked, PySem.W.mg_of X G a_l_asked, B_l_asked⟩, l_all_inside := ⟨F_l_all_inside, PySem.W.mg_of X G a_l_all_inside, B_l_all_inside⟩, l_walked := ⟨F_l_walked, PySem.W.mg_of X G a_l_walked, B_l_walked⟩, l_due := ⟨F_l_due, PySem.W.mg_of X G a_l_due, B_l_due⟩, l_size := ⟨F_l_size, PySem.W.mg_of X G a_l_size, B_l_size⟩, l_tried_spans := ⟨F_l_tried_spans, PySem.W.mg_of X G a_l_tried_spans, B_l_tried_spans⟩, l_starts_right := ⟨F_l_starts_right, PySem.W.mg_of X G a_l_starts_right, B_l_starts_right⟩, l_covers_right := ⟨F_l_covers_right, PySem.W.mg_of X G a_l_covers_right, B_l_covers_right⟩, l_refused_right := ⟨F_l_refused_right, PySem.W.mg_of X G a_l_refused_right, B_l_refused_right⟩, l_law := ⟨F_l_law, PySem.W.mg_of X G a_l_law, B_l_law⟩, cl_Places := cl_Places, mk_Places := ⟨mi_Places, a_c_Places_init, fn_c_Places_init, kp_Places⟩, kf_Places_best_start_2_align := kf_Places_best_start_2_align, kf_Places_first_start_2_align := kf_Places_first_start_2_align, df_Places_best_start_2 := df_Places_best_start_2, df_Places_first_start_2 := df_Places_first_start_2, pr_c_Places_spans := ⟨a_c_Places_spans, pg_c_Places_spans, pt_c_Places_spans, rc_c_Places_spans⟩, mt_c_Places_covers := ⟨a_c_Places_covers, fn_c_Places_covers, k_c_Places_covers⟩, mt_c_Places_first_start := ⟨a_c_Places_first_start, fn_c_Places_first_start, k_c_Places_first_start⟩, mt_c_Places_best_start := ⟨a_c_Places_best_start, fn_c_Places_best_start, k_c_Places_best_start⟩, bv := bv, iC := a_c_BadValue_init, tI := t_c_BadValue_init, bk := bk, kk := kk }
  exact ⟨PySem.W.fnOf "law" "law" (defArgs s_l_law) (defBody s_l_law) (defScope s_l_law) .none kV_l_law dc_l_law pm_l_law an_l_law cd_l_law ct_l_law, fun s u => .of_eq rfl, fun base _ _ => (ok_l_law T).imp fun vs H Q E h => by obtain ⟨x, ns, e, h1, h2, h3⟩ := h; exact ⟨x, ns, e, h1, h2, kk, h3⟩⟩
end K05
section
open PySem PySem.W PyProof.Rows
set_option maxHeartbeats 8000000
open_top K05_hd for PySem.Challenge.rw_allgivenback_k05_starts
end
open PySem PySem.W PyProof.Rows
set_option maxRecDepth 100000 in
set_option maxHeartbeats 8000000 in
theorem PySem.Challenge.cw_allgivenback_k05_starts_holds : PySem.Challenge.rw_allgivenback_k05_starts.Holds := by
  refine K05_hd ?_
  k_fill
  refine L2.walk_ofK (l := PySem.Challenge.rw_allgivenback_k05_starts) (n := 63) (k := 9) (x := "_law_script") (CX := L2.CX0) (sp := Gv.sp_end) rfl (by decide) rfl ⟨rfl, by decide, by decide⟩ (fun w h Y => PySem.W.kIn_of Y) ?F (fun K H a ns hl _ hS => ⟨a, ns, rfl, hS, hl, fun _ => rfl⟩) (fun _ _ _ _ z => z)
  case F =>
    intro w mg fa h KX G hmg
    refine' K05.all_mk KX G hmg ?q_StoreError ?q_BadValue ?q_Broken ?q_Unknown ?q_NotHeld ?q_Fault ?q_NoRoom ?q_Cut ?q_BadLine ?q_Places ?q_Merged ?a_c_BadValue_init ?t_c_BadValue_init ?l_c_BadValue_init ?c_c_BadValue_init ?k_c_BadValue_init ?a_p_is_whole ?l_p_is_whole ?c_p_is_whole ?k_p_is_whole ?a_p_whole_between ?l_p_whole_between ?c_p_whole_between ?k_p_whole_between ?a_p_is_span ?l_p_is_span ?c_p_is_span ?k_p_is_span ?a_p_is_power ?l_p_is_power ?c_p_is_power ?k_p_is_power ?a_p_is_align ?l_p_is_align ?c_p_is_align ?k_p_is_align ?a_p_align_up ?l_p_align_up ?c_p_align_up ?k_p_align_up ?a_p_joined_rows ?l_p_joined_rows ?c_p_joined_rows ?k_p_joined_rows ?a_p_span_from ?l_p_span_from ?c_p_span_from ?k_p_span_from ?a_p_start_within ?l_p_start_within ?c_p_start_within ?k_p_start_within ?a_p_check_wish ?l_p_check_wish ?c_p_check_wish ?k_p_check_wish ?a_c_Places_init ?fn_c_Places_init ?t_c_Places_init ?l_c_Places_init ?td_c_Places_init ?c_c_Places_init ?k_c_Places_init ?a_c_Places_spans ?pg_c_Places_spans ?pt_c_Places_spans ?rc_c_Places_spans ?l_c_Places_spans ?c_c_Places_spans ?k_c_Places_spans ?a_c_Places_covers ?fn_c_Places_covers ?t_c_Places_covers ?l_c_Places_covers ?c_c_Places_covers ?k_c_Places_covers ?a_c_Places_first_start ?fn_c_Places_first_start ?t_c_Places_first_start ?l_c_Places_first_start ?c_c_Places_first_start ?k_c_Places_first_start ?a_c_Places_best_start ?fn_c_Places_best_start ?t_c_Places_best_start ?l_c_Places_best_start ?c_c_Places_best_start ?k_c_Places_best_start ?a_l_draws ?l_l_draws ?c_l_draws ?k_l_draws ?a_l_next_cell ?l_l_next_cell ?c_l_next_cell ?k_l_next_cell ?a_l_mixed ?l_l_mixed ?c_l_mixed ?k_l_mixed ?a_l_take ?l_l_take ?c_l_take ?k_l_take ?a_l_among ?l_l_among ?c_l_among ?k_l_among ?a_l_between ?l_l_between ?c_l_between ?k_l_between ?a_l_number ?l_l_number ?c_l_number ?k_l_number ?a_l_count ?l_l_count ?c_l_count ?k_l_count ?a_l_alignment ?l_l_alignment ?c_l_alignment ?k_l_alignment ?a_l_up ?l_l_up ?c_l_up ?k_l_up ?a_l_long ?l_l_long ?c_l_long ?k_l_long ?a_l_not_integer ?l_l_not_integer ?c_l_not_integer ?k_l_not_integer ?a_l_not_within ?l_l_not_within ?c_l_not_within ?k_l_not_within ?a_l_not_alignment ?l_l_not_alignment ?c_l_not_alignment ?k_l_not_alignment ?a_l_same ?l_l_same ?c_l_same ?k_l_same ?a_l_copy ?l_l_copy ?c_l_copy ?k_l_copy ?a_l_span ?l_l_span ?c_l_span ?k_l_span ?a_l_spans ?l_l_spans ?c_l_spans ?k_l_spans ?a_l_start_due ?l_l_start_due ?c_l_start_due ?k_l_start_due ?a_l_kinds ?l_l_kinds ?c_l_kinds ?k_l_kinds ?a_l_refused ?l_l_refused ?c_l_refused ?k_l_refused ?a_l_held ?l_l_held ?c_l_held ?k_l_held ?a_l_cuts_of ?l_l_cuts_of ?c_l_cuts_of ?k_l_cuts_of ?a_l_glued ?l_l_glued ?c_l_glued ?k_l_glued ?a_l_normal_of ?l_l_normal_of ?c_l_normal_of ?k_l_normal_of ?a_l_asked ?l_l_asked ?c_l_asked ?k_l_asked ?a_l_all_inside ?l_l_all_inside ?c_l_all_inside ?k_l_all_inside ?a_l_walked ?l_l_walked ?c_l_walked ?k_l_walked ?a_l_due ?l_l_due ?c_l_due ?k_l_due ?a_l_size ?l_l_size ?c_l_size ?k_l_size ?a_l_tried_spans ?l_l_tried_spans ?c_l_tried_spans ?k_l_tried_spans ?a_l_starts_right ?l_l_starts_right ?c_l_starts_right ?k_l_starts_right ?a_l_covers_right ?l_l_covers_right ?c_l_covers_right ?k_l_covers_right ?a_l_refused_right ?l_l_refused_right ?c_l_refused_right ?k_l_refused_right ?a_l_law ?l_l_law ?c_l_law ?k_l_law ?kd_Places_best_start ?kx_Places_best_start_align ?kr_Places_best_start_align ?kd_Places_first_start ?kx_Places_first_start_align ?kr_Places_first_start_align ?z_ValueError ?z_all ?z_bool ?z_dict ?z_int ?z_isinstance ?z_len ?z_list ?z_max ?z_min ?z_range ?z_sorted ?z_str ?z_tuple ?g_MOST_ALIGN ?r_MOST_ALIGN ?g_MOST_END ?r_MOST_END ?g_MOST_SPANS ?r_MOST_SPANS ?sa_StoreError ?ga_StoreError ?gg_StoreError ?cc_StoreError ?eb_StoreError ?ty_StoreError ?kp_StoreError ?hd_StoreError ?mo_StoreError ?sa_BadValue ?ga_BadValue ?gg_BadValue ?cc_BadValue ?eb_BadValue ?ty_BadValue ?kp_BadValue ?hd_BadValue ?mo_BadValue ?x_BadValue ?nf_BadValue_parameter ?nf_BadValue_told ?pg_Places ?hd_Places ?po_Places ?sa_Places ?kp_Places ?mi_Places ?na_Places_parts ?sp1 ?sp2 ?kit_list_Merged ?kit_Places_Places ?cc_Places ?mo_Places ?kit_BadValue_StoreError ?kit_BadValue_ValueError ?kit_BadValue_BadValue ?kit_BadValue_Broken ?kit_BadValue_Unknown ?kit_BadValue_NotHeld ?kit_BadValue_Fault ?kit_BadValue_NoRoom ?kit_BadValue_Cut ?kit_BadValue_BadLine ?sub_BadValue_BadValue
    (case q_StoreError => k_is)
    (case q_BadValue => k_is)
    (case q_Broken => k_is)
    (case q_Unknown => k_is)
    (case q_NotHeld => k_is)
    (case q_Fault => k_is)
    (case q_NoRoom => k_is)
    (case q_Cut => k_is)
    (case q_BadLine => k_is)
    (case q_Places => k_is)
    (case q_Merged => k_is)
    (case a_c_BadValue_init => k_is)
    (case t_c_BadValue_init => k_is)
    (case l_c_BadValue_init => k_is)
    (case c_c_BadValue_init => k_is)
    (case k_c_BadValue_init => k_is)
    (case a_p_is_whole => k_is)
    (case l_p_is_whole => k_is)
    (case c_p_is_whole => k_is)
    (case k_p_is_whole => k_is)
    (case a_p_whole_between => k_is)
    (case l_p_whole_between => k_is)
    (case c_p_whole_between => k_is)
    (case k_p_whole_between => k_is)
    (case a_p_is_span => k_is)
    (case l_p_is_span => k_is)
    (case c_p_is_span => k_is)
    (case k_p_is_span => k_is)
    (case a_p_is_power => k_is)
    (case l_p_is_power => k_is)
    (case c_p_is_power => k_is)
    (case k_p_is_power => k_is)
    (case a_p_is_align => k_is)
    (case l_p_is_align => k_is)
    (case c_p_is_align => k_is)
    (case k_p_is_align => k_is)
    (case a_p_align_up => k_is)
    (case l_p_align_up => k_is)
    (case c_p_align_up => k_is)
    (case k_p_align_up => k_is)
    (case a_p_joined_rows => k_is)
    (case l_p_joined_rows => k_is)
    (case c_p_joined_rows => k_is)
    (case k_p_joined_rows => k_is)
    (case a_p_span_from => k_is)
    (case l_p_span_from => k_is)
    (case c_p_span_from => k_is)
    (case k_p_span_from => k_is)
    (case a_p_start_within => k_is)
    (case l_p_start_within => k_is)
    (case c_p_start_within => k_is)
    (case k_p_start_within => k_is)
    (case a_p_check_wish => k_is)
    (case l_p_check_wish => k_is)
    (case c_p_check_wish => k_is)
    (case k_p_check_wish => k_is)
    (case a_c_Places_init => k_is)
    (case fn_c_Places_init => k_is)
    (case t_c_Places_init => k_is)
    (case l_c_Places_init => k_is)
    (case td_c_Places_init => first | exact ⟨_, _, rfl, rfl⟩ | exact ⟨_, _, by k_is, rfl⟩)
    (case c_c_Places_init => k_is)
    (case k_c_Places_init => k_is)
    (case a_c_Places_spans => k_is)
    (case pg_c_Places_spans => k_is)
    (case pt_c_Places_spans => k_is)
    (case rc_c_Places_spans => first | exact ⟨_, rfl⟩ | exact ⟨_, by k_is⟩)
    (case l_c_Places_spans => k_is)
    (case c_c_Places_spans => k_is)
    (case k_c_Places_spans => k_is)
    (case a_c_Places_covers => k_is)
    (case fn_c_Places_covers => k_is)
    (case t_c_Places_covers => k_is)
    (case l_c_Places_covers => k_is)
    (case c_c_Places_covers => k_is)
    (case k_c_Places_covers => k_is)
    (case a_c_Places_first_start => k_is)
    (case fn_c_Places_first_start => k_is)
    (case t_c_Places_first_start => k_is)
    (case l_c_Places_first_start => k_is)
    (case c_c_Places_first_start => k_is)
    (case k_c_Places_first_start => k_is)
    (case a_c_Places_best_start => k_is)
    (case fn_c_Places_best_start => k_is)
    (case t_c_Places_best_start => k_is)
    (case l_c_Places_best_start => k_is)
    (case c_c_Places_best_start => k_is)
    (case k_c_Places_best_start => k_is)
    (case a_l_draws => k_is)
    (case l_l_draws => k_is)
    (case c_l_draws => k_is)
    (case k_l_draws => k_is)
    (case a_l_next_cell => k_is)
    (case l_l_next_cell => k_is)
    (case c_l_next_cell => k_is)
    (case k_l_next_cell => k_is)
    (case a_l_mixed => k_is)
    (case l_l_mixed => k_is)
    (case c_l_mixed => k_is)
    (case k_l_mixed => k_is)
    (case a_l_take => k_is)
    (case l_l_take => k_is)
    (case c_l_take => k_is)
    (case k_l_take => k_is)
    (case a_l_among => k_is)
    (case l_l_among => k_is)
    (case c_l_among => k_is)
    (case k_l_among => k_is)
    (case a_l_between => k_is)
    (case l_l_between => k_is)
    (case c_l_between => k_is)
    (case k_l_between => k_is)
    (case a_l_number => k_is)
    (case l_l_number => k_is)
    (case c_l_number => k_is)
    (case k_l_number => k_is)
    (case a_l_count => k_is)
    (case l_l_count => k_is)
    (case c_l_count => k_is)
    (case k_l_count => k_is)
    (case a_l_alignment => k_is)
    (case l_l_alignment => k_is)
    (case c_l_alignment => k_is)
    (case k_l_alignment => k_is)
    (case a_l_up => k_is)
    (case l_l_up => k_is)
    (case c_l_up => k_is)
    (case k_l_up => k_is)
    (case a_l_long => k_is)
    (case l_l_long => k_is)
    (case c_l_long => k_is)
    (case k_l_long => k_is)
    (case a_l_not_integer => k_is)
    (case l_l_not_integer => k_is)
    (case c_l_not_integer => k_is)
    (case k_l_not_integer => k_is)
    (case a_l_not_within => k_is)
    (case l_l_not_within => k_is)
    (case c_l_not_within => k_is)
    (case k_l_not_within => k_is)
    (case a_l_not_alignment => k_is)
    (case l_l_not_alignment => k_is)
    (case c_l_not_alignment => k_is)
    (case k_l_not_alignment => k_is)
    (case a_l_same => k_is)
    (case l_l_same => k_is)
    (case c_l_same => k_is)
    (case k_l_same => k_is)
    (case a_l_copy => k_is)
    (case l_l_copy => k_is)
    (case c_l_copy => k_is)
    (case k_l_copy => k_is)
    (case a_l_span => k_is)
    (case l_l_span => k_is)
    (case c_l_span => k_is)
    (case k_l_span => k_is)
    (case a_l_spans => k_is)
    (case l_l_spans => k_is)
    (case c_l_spans => k_is)
    (case k_l_spans => k_is)
    (case a_l_start_due => k_is)
    (case l_l_start_due => k_is)
    (case c_l_start_due => k_is)
    (case k_l_start_due => k_is)
    (case a_l_kinds => k_is)
    (case l_l_kinds => k_is)
    (case c_l_kinds => k_is)
    (case k_l_kinds => k_is)
    (case a_l_refused => k_is)
    (case l_l_refused => k_is)
    (case c_l_refused => k_is)
    (case k_l_refused => k_is)
    (case a_l_held => k_is)
    (case l_l_held => k_is)
    (case c_l_held => k_is)
    (case k_l_held => k_is)
    (case a_l_cuts_of => k_is)
    (case l_l_cuts_of => k_is)
    (case c_l_cuts_of => k_is)
    (case k_l_cuts_of => k_is)
    (case a_l_glued => k_is)
    (case l_l_glued => k_is)
    (case c_l_glued => k_is)
    (case k_l_glued => k_is)
    (case a_l_normal_of => k_is)
    (case l_l_normal_of => k_is)
    (case c_l_normal_of => k_is)
    (case k_l_normal_of => k_is)
    (case a_l_asked => k_is)
    (case l_l_asked => k_is)
    (case c_l_asked => k_is)
    (case k_l_asked => k_is)
    (case a_l_all_inside => k_is)
    (case l_l_all_inside => k_is)
    (case c_l_all_inside => k_is)
    (case k_l_all_inside => k_is)
    (case a_l_walked => k_is)
    (case l_l_walked => k_is)
    (case c_l_walked => k_is)
    (case k_l_walked => k_is)
    (case a_l_due => k_is)
    (case l_l_due => k_is)
    (case c_l_due => k_is)
    (case k_l_due => k_is)
    (case a_l_size => k_is)
    (case l_l_size => k_is)
    (case c_l_size => k_is)
    (case k_l_size => k_is)
    (case a_l_tried_spans => k_is)
    (case l_l_tried_spans => k_is)
    (case c_l_tried_spans => k_is)
    (case k_l_tried_spans => k_is)
    (case a_l_starts_right => k_is)
    (case l_l_starts_right => k_is)
    (case c_l_starts_right => k_is)
    (case k_l_starts_right => k_is)
    (case a_l_covers_right => k_is)
    (case l_l_covers_right => k_is)
    (case c_l_covers_right => k_is)
    (case k_l_covers_right => k_is)
    (case a_l_refused_right => k_is)
    (case l_l_refused_right => k_is)
    (case c_l_refused_right => k_is)
    (case k_l_refused_right => k_is)
    (case a_l_law => k_is)
    (case l_l_law => k_is)
    (case c_l_law => k_is)
    (case k_l_law => k_is)
    (case kd_Places_best_start => rfl)
    (case kx_Places_best_start_align => k_is)
    (case kr_Places_best_start_align => first | exact rfl | exact ⟨_, rfl⟩)
    (case kd_Places_first_start => rfl)
    (case kx_Places_first_start_align => k_is)
    (case kr_Places_first_start_align => first | exact rfl | exact ⟨_, rfl⟩)
    (case z_ValueError => k_is)
    (case z_all => k_is)
    (case z_bool => k_is)
    (case z_dict => k_is)
    (case z_int => k_is)
    (case z_isinstance => k_is)
    (case z_len => k_is)
    (case z_list => k_is)
    (case z_max => k_is)
    (case z_min => k_is)
    (case z_range => k_is)
    (case z_sorted => k_is)
    (case z_str => k_is)
    (case z_tuple => k_is)
    (case g_MOST_ALIGN => k_is)
    (case r_MOST_ALIGN => exact ⟨_, rfl⟩)
    (case g_MOST_END => k_is)
    (case r_MOST_END => exact ⟨_, rfl⟩)
    (case g_MOST_SPANS => k_is)
    (case r_MOST_SPANS => exact ⟨_, rfl⟩)
    (case sa_StoreError => k_is)
    (case ga_StoreError => k_is)
    (case gg_StoreError => k_is)
    (case cc_StoreError => k_is)
    (case eb_StoreError => k_is)
    (case ty_StoreError => k_is)
    (case kp_StoreError => k_is)
    (case hd_StoreError => k_is)
    (case mo_StoreError => k_is)
    (case sa_BadValue => k_is)
    (case ga_BadValue => k_is)
    (case gg_BadValue => k_is)
    (case cc_BadValue => k_is)
    (case eb_BadValue => k_is)
    (case ty_BadValue => k_is)
    (case kp_BadValue => k_is)
    (case hd_BadValue => k_is)
    (case mo_BadValue => k_is)
    (case x_BadValue => k_is)
    (case nf_BadValue_parameter => k_is)
    (case nf_BadValue_told => k_is)
    (case pg_Places => k_is)
    (case hd_Places => k_is)
    (case po_Places => k_is)
    (case sa_Places => k_is)
    (case kp_Places => k_is)
    (case mi_Places => k_is)
    (case na_Places_parts => k_is)
    (case sp1 => k_is)
    (case sp2 => k_is)
    (case kit_list_Merged => first | rfl | k_is)
    (case kit_Places_Places => first | rfl | k_is)
    (case cc_Places => first | rfl | k_is)
    (case mo_Places => first | rfl | k_is)
    (case kit_BadValue_StoreError => first | rfl | k_is)
    (case kit_BadValue_ValueError => first | rfl | k_is)
    (case kit_BadValue_BadValue => first | rfl | k_is)
    (case kit_BadValue_Broken => first | rfl | k_is)
    (case kit_BadValue_Unknown => first | rfl | k_is)
    (case kit_BadValue_NotHeld => first | rfl | k_is)
    (case kit_BadValue_Fault => first | rfl | k_is)
    (case kit_BadValue_NoRoom => first | rfl | k_is)
    (case kit_BadValue_Cut => first | rfl | k_is)
    (case kit_BadValue_BadLine => first | rfl | k_is)
    (case sub_BadValue_BadValue => first | rfl | k_is)
