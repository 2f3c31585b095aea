import PyProof.Rows.All
import Wide.All
import OpenK.AllK
import Wide.FinOn
import HandS.ForMost
import HandS.ForExc
import HandS.ExcInit
import HandS.ExcField
import HandS.ExcIs
import HandS.IsInst
import HandS.HotCalls
import HandS.Wide
import HandS.WideBits
import HandS.Flow
import KE.KExcIs
import KE.KCount
import KE.KBytesJoin
import HandS.More
import HandS.Iter
import PySem.Challenge.RW_allgivenback_k26_classes
set_option Elab.async false
set_option linter.all false
set_option maxRecDepth 100000
set_option maxHeartbeats 3000000
namespace Gv
open PySem L2 PySem.Spec PyProof.Rows
/-! ## Rules -/
/-! Own rules: a caught exception tracked in the abstract heap; defs that run while one is handled. -/
abbrev St := L2.St
/-- at a: an exception object of the class cls, its dict at d -/
def exi (a : Addr) (cls : Value) (d : Option Addr) : HO := .ext fun g => ∃ (ob : Obj) (fv : Array Value), g.get? a = some ob ∧ Zc cls d ob ∧ ob.data = .fields fv
theorem exi_ok {P : Program} {w : World} {H : Hp} {g : Heap} {a : Addr} {cls : Value} {d : Option Addr} {ob : Obj} {fv : Array Value} (e : g.get? a = some ob) (z : Zc cls d ob) (hd : ob.data = .fields fv) : ObjOk P w H g a (exi a cls d) :=
  ⟨⟨ob, fv, e, z, hd⟩, ⟨ob, e⟩, fun _ _ ⟨o, v, q, r⟩ k => ⟨o, v, k o q, r⟩⟩
theorem exi_at {P : Program} {w : World} {H : Hp} {g : Heap} {a : Addr} {cls : Value} {d : Option Addr} (ok : HOk P w H g) (he : H a = some (exi a cls d)) : ∃ (ob : Obj) (fv : Array Value), g.get? a = some ob ∧ Zc cls d ob ∧ ob.data = .fields fv :=
  (show ObjOk P w H g a (.ext fun g => ∃ (ob : Obj) (fv : Array Value), g.get? a = some ob ∧ Zc cls d ob ∧ ob.data = .fields fv) from ok a _ he).1
/-- a pinned exception that the entry did not know becomes a tracked one -/
theorem track {X : Cx} {σ : St} {H : Hp} {s : Shared} {a : Addr} {ob : Obj} {pn : List (Addr × Obj)} {cls : Value} {d : Option Addr} (okX : X.Ok) (I : Inv (X.suite a ((a, ob) :: pn)) [] σ H s) (new0 : X.s_0.heap.get? a = none) (off : ∀ p ∈ pn, p.1 ≠ a) (hz : Zc cls d ob) (hd : ∃ fv, ob.data = .fields fv) :
    Inv (X.suite a pn) [] σ (upd H a (exi a cls d)) s := by
  obtain ⟨at0, free0, nloc, _, ncell⟩ := I.pin (a, ob) (List.mem_append_left _ List.mem_cons_self)
  obtain ⟨fv, hd⟩ := hd
  have old : ∀ {b : Addr} {o : HO}, H b = some o → upd H a (exi a cls d) b = some o := fun {b o} e => by rw [upd_ne (ne_of_none e free0)]; exact e
  have non : ∀ {b : Addr}, b ≠ a → H b = none → upd H a (exi a cls d) b = none := fun {b} n e => by rw [upd_ne n]; exact e
  exact
    { ok := okX.suite _ _, os := I.os, bare := I.bare, loc := I.loc, cell := I.cell, len := I.len
      base :=
        { keep := I.base.keep, slot := I.base.slot, there := I.base.there
          free := fun b o e n hx => non (fun z => by rw [z, new0] at e; cases e) (I.base.free b o e n hx)
          tups := fun b xs e => old (I.base.tups b xs e), frzs := fun b o u e => old (I.base.frzs b o u e)
          tbls := fun b ps e => (I.base.tbls b ps e).elim fun m q => ⟨m, old q⟩ }
      free := non (Ne.symm nloc) I.free
      freeC := fun x c e => non (fun z => (I.cell x c e).elim fun v ⟨o, ho, hv⟩ => ncell v (by rw [z] at ho; have q := Option.some.inj (at0.symm.trans ho); rw [← hv, ← q])) (I.freeC x c e)
      pin := fun p hp => by
        have hp' : p ∈ pn := by simpa using hp
        obtain ⟨c1, c2, c3⟩ := I.pin p (List.mem_append_left _ (List.mem_cons_of_mem _ hp'))
        exact ⟨c1, non (off p hp') c2, c3⟩
      hok := fun b o e => by
        by_cases hb : b = a
        · rw [hb, upd_same] at e
          rw [hb, ← Option.some.inj e]
          exact exi_ok at0 hz hd
        · rw [upd_ne hb] at e
          exact (I.hok b o e).stay (fun _ _ _ q => q) (fun _ q => old q) fun _ _ q => old q }
theorem unsuite0 {X : Cx} {pins pn' : List (Addr × Obj)} {σ : St} {H : Hp} {s : Shared} {a : Addr} (I : Inv (X.suite a (X.pn ++ pins)) pn' σ H s) (okX : X.Ok) : Inv X pins σ H s :=
  { ok := okX, os := I.os, bare := I.bare, base := I.base, loc := I.loc, cell := I.cell, free := I.free, freeC := I.freeC, pin := fun p hp => I.pin p (List.mem_append_left _ hp), hok := I.hok, len := I.len }
/-- except x as n: the exception is tracked while the suite runs, and behind it -/
def wAsT (K : PySem.W.Frag) (c : Value) (i : Nat) (ts : TS) (Wout : WX) (D : Ends) : WX := fun cls d σ H => ∃ yes, PySem.W.exmOne K cls c = some yes ∧ (yes = false → Wout cls d σ H) ∧
  (yes = true → ∀ a, H a = none → ts ⟨fun σ' H' => D.nx (σ'.set i none) H', D.rt, fun σ' H' => D.bk (σ'.set i none) H', fun σ' H' => D.ct (σ'.set i none) H'⟩ (σ.set i (some (.ref a))) (upd H a (exi a cls d)))
section
variable {X : Cx} {x n : Str} {c : Value} {i : Nat} {body suite : List Stmt} {b₀ : Stmt} {np pos pos' : Pos} {tb : WX → TS} {ts : TS} {Wout : WX} {pins : List (Addr × Obj)} {D : Ends}
/-- the way of an exception of the body into the clause -/
theorem caught (hs : X.stack = X.env :: X.outer) (hf : X.env.frame = some X.env.locals) (hex : X.ex = []) (hN : X.N.Nodup) (hi : X.N[i]? = some n) (hln : X.env.kindOf n = some .local) (hc : Names X x c) (tk : Takes X Wout)
    (hsu : ∀ (a : Addr) (pn : List (Addr × Obj)), PSs (X.suite a pn) (b₀ :: suite) ts) (okX : X.Ok) {ev : Value} {sE : Shared} {xe : Value → Shared → Prop} (air : XE (X.tr (X.pn ++ pins) xe) (wAsT X.K c i ts Wout D) ev sE) :
    wpAny (model X.prog X.w) X.A (noteFrame ev X.env) (fun _ s2 => wpAny (model X.prog X.w) X.A (setFlight ev none) (fun _ s3 => wpAny (model X.prog X.w) X.A (handleBy ev X.env [.ExceptHandler (some (.Name x np)) (some n) (b₀ :: suite) pos']) (SP X pins D) X.xe s3) X.xe s2) X.xe sE := by
  obtain ⟨ea, gr, sG, pG, σ1, H1, cls, dd, rfl, J1, inB, lift, sky, unk, eos, ebare, yes, hyes, hout, hin⟩ := air
  have J : Inv X pins σ1 H1 sG := J1.ofTry okX
  rw [show (X.tr (X.pn ++ pins) xe).stack = X.env :: X.outer from hs] at inB sky
  have frm : X.A.frames = some (X.env :: X.outer) := hs ▸ okX.frames
  have inB' : ∀ b o, sG.heap.get? b = some o → b ∉ frs X.stack → gr.get? b = some o := by rw [hs]; exact inB
  refine Sky.land Zc.steady frm hf sky fun hA flA upA => ?_
  obtain ⟨obA, fvA, getA, zA, dA⟩ := flA.there
  have offFr : ea ∉ frs (X.env :: X.outer) := fun hm => (flA.2.2.1.mem hm).elim fun _ ⟨o', e', hn⟩ => by
    rw [getA] at e'
    cases e'
    exact hn _ dA
  have offL : ea ≠ X.env.locals := fun z => offFr (List.mem_filterMap.mpr ⟨X.env, List.mem_cons_self, z ▸ hf⟩)
  have offF : ea ∉ X.fs := fun hm => offFr ((List.mem_filterMap.mp hm).elim fun e ⟨he, q⟩ => List.mem_filterMap.mpr ⟨e, List.mem_cons_of_mem _ he, q⟩)
  have newG : sG.heap.get? ea = none := by
    cases e : sG.heap.get? ea with
    | none => rfl
    | some o => exact absurd ((inB ea o e offFr).symm.trans flA.2.1) (by simp)
  have new0 : X.s_0.heap.get? ea = none := by
    cases e : X.s_0.heap.get? ea with
    | none => rfl
    | some o => exact (J.base.there ea o e (by rw [hex]; simp)).elim fun o' q => absurd (q.symm.trans newG) (by simp)
  have off : ∀ p ∈ X.pn ++ pins, p.1 ≠ ea := fun p hp z => absurd ((J.pin p hp).1.symm.trans (z ▸ newG)) (by simp)
  have JA : Inv X pins σ1 H1 { sE with heap := hA } := J.landed inB' flA.1 (lift.trans upA) eos ebare
  have SA := JA.suite getA dA unk offL offF
  refine wpAny_handleBy_cons (codeAny_handlers_test ?_) (fun q => nomatch q)
  have clsOf : PySem.W.Looks (model X.prog X.w) hA (typeOf (.ref ea)) cls := fun _ _ _ _ k q => wpAny_typeOf_ref (k _ _ getA) (by rw [zA.1]; exact q)
  have look : ∀ {Q : Value → Shared → Prop} {E : Value → Shared → Prop}, Q c { sE with heap := hA } → wpAny (model X.prog X.w) (X.A.mark (some (.ref ea))) (eval (.Name x np) X.env) Q E { sE with heap := hA } := fun {Q E} q => by
    rcases hc with ⟨hg, hdb, hm | ⟨hm, hv, hnn⟩⟩
    · exact ld_glob (X := X.suite ea ((ea, obA) :: (X.pn ++ pins))) SA hg hm q hdb
    · exact ld_blt (X := X.suite ea ((ea, obA) :: (X.pn ++ pins))) SA hg hm hv q hnn hdb
  refine look ((PySem.W.exm_one (M := model X.prog X.w) JA.kIn clsOf hyes).here ?_)
  cases yes with
  | false =>
    refine wpAny_handleBy_nil ?_
    obtain ⟨_, _, _, ob, fv, tr, _, _, e1, _, e3, e4, _⟩ := id flA
    have up : wpAny (model X.prog X.w) X.A (setFlight (.ref ea) X.env.frame) (fun _ s4 => wpAny (model X.prog X.w) X.A (throw (.ref ea) : Sem Flow) (SP X pins D) X.xe s4) X.xe { sE with heap := hA } := by
      rw [hf]
      exact HandSPX.setFlight_upZ flA fun h4 held u4 => wpAny_throw (tk _ _ ⟨ea, gr, sG, pins, σ1, H1, cls, dd, rfl, J, inB', (lift.trans upA).trans u4, .inr (.inr (by rw [hs]; exact held)), unk, eos, ebare, hout rfl⟩)
    unfold PySem.passOn
    refine wpAny_bind (wpAny_field e1 e3 e4 ?_)
    rw [if_neg (show ¬ ((Value.ref tr == Value.none) = true) by simp)]
    first
      | exact wpAny_bind up
      | exact wpAny_bind (wpAny_pure (wpAny_bind up))
  | true =>
    refine codeAny_handlers_suite_as (HandSPX.lands_againZ flA fun hB flB upB => ?_)
    obtain ⟨obB, fvB, getB, zB, dB⟩ := flB.there
    have SB := (J.landed (s' := { sE with heap := hB }) inB' flB.1 ((lift.trans upA).trans upB) eos ebare).suite getB dB unk offL offF
    refine store_ok (X := X.suite ea ((ea, obB) :: (X.pn ++ pins))) (v := .ref ea) SB hN hi (.inl hln) rfl (fun s5 S5 => ?_) (.inr hln)
    refine wpAny_mono ((hsu ea (X.pn ++ pins)).run [] s5 _ _ _ (track okX S5 new0 off zB ⟨_, dB⟩) (hin rfl ea unk)) (fun fl s6 r6 => ?_) (fun _ _ z => z.elim)
    have shut : ∀ {σ6 : St} {H6 : Hp} {R : Shared → Prop}, Inv (X.suite ea (X.pn ++ pins)) [] σ6 H6 s6 → (∀ s7, Inv X pins (σ6.set i none) H6 s7 → R s7) →
        wpAny (model X.prog X.w) X.A (do bindName X.env n .none; unbindBehindTheSuite X.env n pos') (fun _ s7 => R s7) X.xe s6 := fun S6 hR => gone_ok (unsuite0 S6 okX) hN hi hln hR
    cases fl with
    | ret u => exact r6.elim fun v ⟨_, _, S6, rv, q⟩ => shut S6 fun _ J7 => ⟨v, _, _, J7, rv, q⟩
    | _ => exact r6.elim fun _ ⟨_, S6, q⟩ => shut S6 fun _ J7 => ⟨_, _, J7, q⟩
theorem ps_try_asT (hs : X.stack = X.env :: X.outer) (hf : X.env.frame = some X.env.locals) (hex : X.ex = []) (hN : X.N.Nodup) (hi : X.N[i]? = some n) (hln : X.env.kindOf n = some .local) (hc : Names X x c) (tk : Takes X Wout)
    (bod : ∀ (W : WX) (pn : List (Addr × Obj)) (xe : Value → Shared → Prop), Takes (X.tr pn xe) W → PassesOwn (model X.prog X.w) X.A X.env xe → PSs (X.tr pn xe) body (tb W))
    (hsu : ∀ (a : Addr) (pn : List (Addr × Obj)), PSs (X.suite a pn) (b₀ :: suite) ts) :
    PS X (.Try body [.ExceptHandler (some (.Name x np)) (some n) (b₀ :: suite) pos'] [] [] pos) (fun D σ H => tb (wAsT X.K c i ts Wout D) D σ H) := by
  constructor
  intro pins s σ H D I h
  have okX := I.ok
  refine wpAny_Try_except (wpAny_mono ((bod (wAsT X.K c i ts Wout D) (X.pn ++ pins) _ (fun u s' z => caught hs hf hex hN hi hln hc tk hsu okX z) PassesOwn.looking).run [] s σ H D (I.toTry _) h) (fun fl s1 r => ?_) (fun _ _ z => z))
  cases fl with
  | next => exact r.elim fun _ ⟨_, J, q⟩ => wpAny_execs_nil ⟨_, _, J.ofTry okX, q⟩
  | ret u => exact r.elim fun v ⟨_, _, J, rv, q⟩ => ⟨v, _, _, J.ofTry okX, rv, q⟩
  | _ => exact r.elim fun _ ⟨_, J, q⟩ => ⟨_, _, J.ofTry okX, q⟩
end
/-! ### defs that may be called while an exception is handled -/
structure FnU (P : Program) (w : World) (K : PySem.W.Frag) (mg : Str → Option Value) (base : Heap) (k : Nat) (f : Addr) (fd : FuncData) (ps : List Str) (sp : Sp) : Prop where
  len : ∀ xs G R Z, sp xs G R Z → xs.length = ps.length
  run : ∀ (A : Around) (outer : List Env) (s : Shared) (H : Hp) (args : Args) (us : List Value) (vs : List V) (Q : VK) (E : XK), L2H.RoomH k A → Env0 P w K mg base A outer s H → BindsTo s fd args (ps.zip us) → Vals vs us → sp vs H Q E → codeAny (model P w) A (.call (.ref f) args) (CR CX0 outer P w H s Q E) s
def cxU (P : Program) (w : World) (K : PySem.W.Frag) (mg : Str → Option Value) (base : Heap) (N : List Str) (qual : Str) (scope : Scope) (f : Addr) (cd : Value) (A : Around) (outer : List Env) (s : Shared) (H : Hp) (E : XK) : Cx :=
  { cxOf CX0 P w K mg base N qual scope f cd A outer s H E with calm := false }
/-- the entry, from the quiet one: nothing but the calm speaks of what is handled -/
theorem inv_startU {P : Program} {w : World} {K : PySem.W.Frag} {mg : Str → Option Value} {base : Heap} {N ps : List Str} {qual : Str} {scope : Scope} {f : Addr} {cd : Value} {A : Around} {outer : List Env} {s s1 : Shared} {H : Hp} {E : XK} {us : List Value} {vs : List V}
    (S : FnScope N ps scope) (e0 : Env0 P w K mg base A outer s H) (hl : vs.length = ps.length) (r : Vals vs us)
    (ic : InCallC s s.heap.objs.size (bindL (envOfC qual scope s.heap.objs.size f cd).kindOf (ps.zip us) fun _ => none) (cellsFrom (s.heap.objs.size + 1) scope.names []) (bindC (envOfC qual scope s.heap.objs.size f cd).kindOf (ps.zip us) fun _ => none) s1) :
    Inv (cxU P w K mg base N qual scope f cd A outer s H E) [] (L2.start N vs) H s1 := by
  have e1 : Env0 P w K mg base { A with handled := none } outer s H := ⟨e0.frames, e0.mod, e0.bs, e0.bsz, e0.funs, e0.frf, e0.hok, e0.bare⟩
  have I := inv_start (CX := CX0) (E := E) (cd := cd) (f := f) (qual := qual) S (A := { A with handled := none }) rfl e1 hl r ic
  have o := I.ok
  exact
    { ok := { mod := o.mod, kind := o.kind, glob := o.glob, blt := o.blt, above := o.above, inj := o.inj, has := o.has, cab := o.cab, hd := fun z => Bool.noConfusion (show false = true from z), frames := Around.frames_deeper e0.frames, stk := o.stk, exf := o.exf, bs := o.bs, bsz := o.bsz, noex := o.noex, exfs := o.exfs, funs := o.funs, frf := o.frf }
      os := I.os, bare := I.bare, base := I.base, loc := I.loc, cell := I.cell, free := I.free, freeC := I.freeC, pin := I.pin, hok := I.hok, len := I.len }
theorem Fun_okU {P : Program} {w : World} {K : PySem.W.Frag} {mg : Str → Option Value} {base : Heap} {x qual : Str} {st : Stmt} {f : Addr} {fd : FuncData} {N ps : List Str} {k : Nat} {sp : Sp} (F : Fun K x qual st f fd) (S : FnScope N ps (defScope st)) (len : ∀ vs H Q E, sp vs H Q E → vs.length = ps.length)
    (bod : ∀ (cdv : Value) (A : Around) (outer : List Env) (s : Shared) (H : Hp) (vs : List V) (Q : VK) (E : XK), L2H.RoomH k (A.deeper (envOfC qual (defScope st) s.heap.objs.size f cdv)) → sp vs H Q E →
      ∃ t, PSs (cxU P w K mg base N qual (defScope st) f cdv A outer s H E).nox (defBody st) t ∧ t { nx := fun _ H' => Q .non H', rt := Q } (L2.start N vs) H) : FnU P w K mg base (k + 1) f fd ps sp := by
  rcases F.ex with ⟨oc, od, kV, doc, pm, an, cdv, ct, osl, rfl, lk, code⟩
  refine ⟨len, fun A outer s H args us vs Q E room env bind rel pre => ?_⟩
  have up : ∀ b o, base.get? b = some o → s.heap.get? b = some o := fun b o e => (env.bs b o e).1
  have KX : K.In s.heap := env.mod.kin.keeps up
  have kinds : ∀ y ∈ ps.zip us, (defScope st).names.lookup y.1 = some .local ∨ ((defScope st).names.lookup y.1 = some .cell ∧ ((cellsFrom (s.heap.objs.size + 1) (defScope st).names []).lookup y.1).isSome = true) := fun y hy =>
    (S.par y.1 (List.of_mem_zip (a := y.1) (b := y.2) hy).1).imp id fun q => ⟨q, PySem.W.cellsFrom_some _ _ _ (.inl q)⟩
  refine codeAny_call_function room.depth (KX _ _ lk) rfl S.co S.gen rfl (PySem.W.codeRec_of KX code) (bind _ _ _ _ (wpAny_newFunctionEnv_cells S.kind kinds fun ev hev s1 ic => ?_))
  subst hev
  refine ⟨(env.mod.nolimit.keeps up).keeps ic.toInCall.keep, codeAny_func ?_⟩
  obtain ⟨t, ht, rd⟩ := bod cdv A outer s H vs Q E (room.deeper _) pre
  refine wpAny_mono (ht.nox.run [] s1 (L2.start N vs) H _ (inv_startU S env (len _ _ _ _ pre) rel ic) rd) (fun fl s' z => ?_) fun _ _ z => z
  cases fl with
  | ret u => exact z.elim fun v ⟨_, H', J, rv, q⟩ => ⟨v, H', J.os, J.bare, J.base, J.hok, rv, q⟩
  | next => exact z.elim fun _ ⟨H', J, q⟩ => ⟨V.non, H', J.os, J.bare, J.base, J.hok, rfl, q⟩
  | _ => exact z.elim fun _ ⟨_, _, q⟩ => q.elim
theorem pe_callU {X : Cx} {k : Nat} {f : Addr} {fd : FuncData} {ps : List Str} {sp : Sp} {x : Str} {q pos : Pos} {e : Expr} {es : List Expr} {t : TA} (F : FnU X.prog X.w X.K X.mg X.base k f fd ps sp) (room : L2H.RoomH k X.A) (hg : Gl X x) (hm : X.mg x = some (.ref f)) (hk : PySem.W.keepIn X.K (.ref f) = true) (hb : Binds X.K fd ps [])
    (ha : PA X (e :: es) t) (hdb : (x == ("__debug__" : Str)) = false := by decide) (he : starEach (e :: es) X.env = (false, eval e X.env) :: starEach es X.env := by rfl) (hpl : (backTo pos (starEach es X.env)).any (·.1) = false := by rfl) : PE X (.Call (.Name x q) (e :: es) [] pos) (tCall sp [] E0 t) := by
  constructor
  intro pins s σ H Q I h
  refine wpAny_Call_Name_kw (ld_glob I hg hm (PySem.W.callWith_K (h₀ := X.base) I.ok.mod.kin hk (thn (ha.run pos pins s σ H _ I h) fun us s1 ⟨vs, H1, J, rel, pre⟩ => ⟨J.kIn, ?_⟩) he hpl) hdb)
  have pre : sp vs H1 Q E0 := by
    have z : sp (vs ++ []) H1 Q E0 := pre
    rwa [List.append_nil] at z
  have bind : BindsTo s1 fd ⟨us, []⟩ (ps.zip us) := by
    have z := hb s1 us J.kIn (by rw [List.append_nil, ← rel.length]; exact F.len _ _ _ _ pre)
    rwa [List.append_nil] at z
  refine wpAny_call (codeAny_mono (F.run X.A X.stack s1 H1 ⟨us, []⟩ us vs Q E0 room J.env0 bind rel pre) fun res s' z => ?_)
  rcases res with er | fl
  · exact False.elim z
  · cases fl with
    | ret u => exact J.after z
    | _ => exact False.elim z
theorem roomH_suite {k : Nat} {A : Around} {v : Option Value} (r : Room k A) : L2H.RoomH k (A.mark v) := ⟨r.dp, r.un⟩
/-! ### a tracked exception: its fields, isinstance of it -/
def tXt (K : PySem.W.Frag) (f : Str) (te : TE) : TE := fun σ H Q => te σ H fun x H1 => ∃ (a C dd : Addr) (fs : List (Str × V)) (v : V), x = .ref a ∧ H1 a = some (exi a (.ref C) (some dd)) ∧ XfC K C ∧ PySem.W.findIn K (.ref C) f = some none ∧ H1 dd = some (.xd fs) ∧ fs.lookup f = some v ∧ Q v H1
theorem inst_of {P : Program} {w : World} {H : Hp} {g : Heap} {a C dd : Addr} {fs : List (Str × V)} (ok : HOk P w H g) (ha : H a = some (exi a (.ref C) (some dd))) (hd : H dd = some (.xd fs)) :
    ∃ ob od, PySem.W.InstAt g a ob C (some od) ∧ ∃ mA : Str → Option Value, (∀ n, PySem.W.lookIn n od = some (mA n)) ∧ ∀ f, RelO (fs.lookup f) (mA f) := by
  obtain ⟨ob, fv, h1, hz, h2⟩ := exi_at ok ha
  obtain ⟨mA, hns, rel⟩ := (show ObjOk P w H g dd (.xd fs) from ok dd _ hd)
  obtain ⟨od, h3, h4⟩ := lookIn_ns hns
  exact ⟨ob, od, { at_ := h1, cls := hz.1, no := by unfold PySem.W.notCls; rw [h2] <;> rfl, dict := by rw [hz.2]; exact h3 }, mA, h4, rel⟩
theorem pe_xt {X : Cx} {e : Expr} {te : TE} {pos : Pos} {n : Str} (he : PE X e te) (hb : attributeBase e n X.env (eval e X.env) = eval e X.env := by rfl) : PE X (.Attribute e n pos) (tXt X.K n te) := by
  constructor
  intro pins s σ H Q I h
  refine attr_of hb (thn (he.run pins s σ H _ I h) fun u s1 ⟨y, H1, J, ry, a, C, dd, fs, v, ey, ea, T, hno, ed, l, q⟩ => ?_)
  subst ey
  obtain rfl : u = .ref a := ry
  obtain ⟨ob, od, at1, mA, h4, rel⟩ := inst_of J.hok ea ed
  obtain ⟨u, hu, ru⟩ := RelO.some_of (v := v) (o := mA n) (by rw [← l]; exact rel n)
  exact HandSPX.exc_get J.kIn at1 T.ga T.gg T.exC (PySem.W.findObj_own T.hdC hno rfl (by rw [h4, hu])) (handed_of ru) ⟨v, H1, J.tok _, ru, q⟩
/-- isinstance(e, c), e a tracked exception -/
def rIsX (K : PySem.W.Frag) : List V → Hp → VK → Prop := fun xs H Q => ∃ (a D dd : Addr) (fs : List (Str × V)) (c : V) (cv : Value) (b : Bool), xs = [.ref a, c] ∧ ClsV c cv ∧ H a = some (exi a (.ref D) (some dd)) ∧ H dd = some (.xd fs) ∧ ExcC K D ∧ PySem.W.kitOne K (.ref D) cv = some b ∧ Q (.bl b) H
theorem call_isX {X : Cx} : CallR X (.builtin "isinstance") (rIsX X.K) := by
  rintro pins s σ H xs us Q I r ⟨a, D, dd, fs, c, cv, b, rfl, k, ea, ed, C, e, q⟩
  obtain ⟨ue, uc, rfl, re, rc⟩ := vals2 r
  obtain rfl : ue = .ref a := re
  rw [k.eq rc]
  obtain ⟨ob, od, at1, _⟩ := inst_of I.hok ea ed
  have there : (PySem.W.clsIn X.K D).isSome = true := (PySem.W.any_some C.hd).elim fun cd ⟨hc, _⟩ => by rw [hc]; rfl
  exact PySem.W.kia_one (PySem.W.kitx_exc there C.hg C.hk C.hs C.ha C.hn C.ht C.hm) I.kIn at1 e (fun z => nomatch z) fun tk => ⟨.bl b, H, I.tok tk, rfl, q⟩
/-! ## Pre -/
/-! Names of readings, steps through a reading, data in the heap, the draws. -/
/-! ### the operators' readings, by names -/
def oAdd : R2 := rI0 fun i j => .int (i + j)
def oSub : R2 := rI0 fun i j => .int (i - j)
def oMul : R2 := rI CMul fun i j => .int (i * j)
def oMulW : R2 := rI CMulW fun i j => .int (i * j)
def oDiv : R2 := rI CDivW fun i j => .int (i / j)
def oMod : R2 := rI (fun _ j => 0 < j) fun i j => .int (i % j)
def oPow : R2 := rI CPow fun i j => .int (i ^ j.toNat)
def oShl : R2 := rI CPow fun i j => .int (i * 2 ^ j.toNat)
def oShr : R2 := rI (fun _ j => 0 ≤ j) fun i j => .int (i / 2 ^ j.toNat)
def oAnd : R2 := rI0 fun i j => .int (Builtin.bitAnd i j)
def oOr : R2 := rI0 fun i j => .int (Builtin.bitOr i j)
def oNeg : V → Hp → VK → Prop := rU fun i => .int (-i)
def oLt : R2 := rI0 fun i j => .bl (decide (i < j))
def oLe : R2 := rI0 fun i j => .bl (decide (i ≤ j))
def oGt : R2 := rI0 fun i j => .bl (decide (j < i))
def oGe : R2 := rI0 fun i j => .bl (decide (j ≤ i))
def oIsN : R2 := fun x y H Q => y = .non ∧ Q (.bl (decide (x = .non))) H
def oNotN : R2 := fun x y H Q => y = .non ∧ Q (.bl (!decide (x = .non))) H
def oAddS : R2 := fun x y H Q => ∃ i j, x = .str i ∧ y = .str j ∧ i.length + j.length ≤ sizeLine ∧ Q (.str (i ++ j)) H
def rLen (K : PySem.W.Frag) : List V → Hp → VK → Prop := fun vs G R => ∃ x n, vs = [x] ∧ LenV K x G n ∧ R (.int n) G
def rLenStr : List V → Hp → VK → Prop := fun xs H Q => ∃ z, xs = [.str z] ∧ z.length ≤ sizeLine ∧ Q (.int z.length) H
def rMax2 : List V → Hp → VK → Prop := fun vs G R => ∃ i j, vs = [.int i, .int j] ∧ R (.int (if j > i then j else i)) G
def rMin2 : List V → Hp → VK → Prop := fun vs G R => ∃ i j, vs = [.int i, .int j] ∧ R (.int (if j < i then j else i)) G
def rInt1 : List V → Hp → VK → Prop := fun xs H Q => (∃ i, xs = [.int i] ∧ Q (.int i) H) ∨ ∃ k, xs = [.bl k] ∧ Q (.int (if k then 1 else 0)) H
def rListOf (K : PySem.W.Frag) : List V → Hp → VK → Prop := fun xs H Q => ∃ p ys, xs = [.ref p] ∧ (SqL K H p ys ∨ SqT K H p ys) ∧ ∀ l, H l = none → Q (.ref l) (upd H l (.lst ys))
def rTupleOf (K : PySem.W.Frag) : List V → Hp → VK → Prop := fun xs H Q => ∃ p ys, xs = [.ref p] ∧ ((SqL K H p ys ∧ ∀ l, H l = none → Q (.ref l) (upd H l (.tup ys))) ∨ (SqT K H p ys ∧ Q (.ref p) H))
def tTruth (K : PySem.W.Frag) (te : TE) : TT := fun σ H Q => te σ H fun x H' => ∃ k, TruV K x H' k ∧ Q k H'
/-- raise C(e, ..) -/
def tRz (t : St → Hp → XK → Prop) (W : WX) : TS := fun _ σ H => t σ H fun cls d H' => W cls d σ H'
/-- try: .. except C as n: .. -/
def tTryT (K : PySem.W.Frag) (c : Value) (i : Nat) (tb : WX → TS) (ts : TS) (Wout : WX) : TS := fun D σ H => tb (wAsT K c i ts Wout D) D σ H
/-! ### steps: from a reading to what it asks -/
class Stp (P : Prop) (R : outParam Prop) : Prop where
  go : R → P
section
variable {K : PySem.W.Frag} {σ : St} {H : Hp} {Q : VK} {QT : Bool → Hp → Prop} {QA : List V → Hp → Prop} {D : Ends} {v x y : V} {ta tb te : TE} {tt tu : TT} {ts tw : TS} {r : R2} {i j : Int} {n : Nat} {b c : Bool} {nx bk ct : St → Hp → Prop} {rt : VK}
theorem i_seqA {g : TG} (h : te σ H fun x H1 => g x σ H1 (tw D)) : tSeq (tAsg te g) tw D σ H := h
instance s_seqA {g : TG} : Stp (tSeq (tAsg te g) tw D σ H) (te σ H fun x H1 => g x σ H1 (tw D)) := ⟨i_seqA⟩
theorem i_seqD (h : te σ H fun _ H1 => tw D σ H1) : tSeq (tDrop te) tw D σ H := h
instance s_seqD : Stp (tSeq (tDrop te) tw D σ H) (te σ H fun _ H1 => tw D σ H1) := ⟨i_seqD⟩
theorem i_seqG {ti : TIp} (hx : σ[n]? = some (some x)) (h : te σ H fun y H1 => ti x y H1 fun z H2 => tw D (σ.set n (some z)) H2) : tSeq (tAug n te ti) tw D σ H := ⟨x, hx, h⟩
theorem i_seq (h : ts ⟨tw ⟨nx, rt, bk, ct⟩, rt, bk, ct⟩ σ H) : tSeq ts tw ⟨nx, rt, bk, ct⟩ σ H := h
theorem i_var (h : σ[n]? = some (some v)) (q : Q v H) : tVar n σ H Q := ⟨v, h, q⟩
theorem i_c (q : Q v H) : tC v σ H Q := q
instance s_c : Stp (tC v σ H Q) (Q v H) := ⟨i_c⟩
theorem i_op (h : ta σ H fun x H1 => tb σ H1 fun y H2 => r x y H2 Q) : tOp r ta tb σ H Q := h
instance s_op : Stp (tOp r ta tb σ H Q) (ta σ H fun x H1 => tb σ H1 fun y H2 => r x y H2 Q) := ⟨i_op⟩
theorem i_un {r : V → Hp → VK → Prop} (h : ta σ H fun x H1 => r x H1 Q) : tUn r ta σ H Q := h
instance s_un {r : V → Hp → VK → Prop} : Stp (tUn r ta σ H Q) (ta σ H fun x H1 => r x H1 Q) := ⟨i_un⟩
theorem i_nil (h : QA [] H) : tNil σ H QA := h
instance s_nil : Stp (tNil σ H QA) (QA [] H) := ⟨i_nil⟩
theorem i_cons {tr : TA} (h : ta σ H fun x H1 => tr σ H1 fun xs H2 => QA (x :: xs) H2) : tCons ta tr σ H QA := h
instance s_cons {tr : TA} : Stp (tCons ta tr σ H QA) (ta σ H fun x H1 => tr σ H1 fun xs H2 => QA (x :: xs) H2) := ⟨i_cons⟩
theorem i_tup {t : TA} (h : t σ H fun xs H1 => xs.length ≤ sizeLine ∧ ∀ p, H1 p = none → Q (.ref p) (upd H1 p (.tup xs))) : tTup t σ H Q := h
instance s_tup {t : TA} : Stp (tTup t σ H Q) (t σ H fun xs H1 => xs.length ≤ sizeLine ∧ ∀ p, H1 p = none → Q (.ref p) (upd H1 p (.tup xs))) := ⟨i_tup⟩
theorem i_lst {t : TA} (h : t σ H fun xs H1 => xs.length ≤ sizeLine ∧ ∀ p, H1 p = none → Q (.ref p) (upd H1 p (.lst xs))) : tLst t σ H Q := h
instance s_lst {t : TA} : Stp (tLst t σ H Q) (t σ H fun xs H1 => xs.length ≤ sizeLine ∧ ∀ p, H1 p = none → Q (.ref p) (upd H1 p (.lst xs))) := ⟨i_lst⟩
theorem i_call {sp : Sp} {dvs : List V} {E : XK} {t : TA} (h : t σ H fun vs H1 => sp (vs ++ dvs) H1 Q E) : tCall sp dvs E t σ H Q := h
instance s_call {sp : Sp} {dvs : List V} {E : XK} {t : TA} : Stp (tCall sp dvs E t σ H Q) (t σ H fun vs H1 => sp (vs ++ dvs) H1 Q E) := ⟨i_call⟩
theorem i_cb {r : List V → Hp → VK → Prop} {t : TA} (h : t σ H fun vs H1 => r vs H1 Q) : tCB r t σ H Q := h
instance s_cb {r : List V → Hp → VK → Prop} {t : TA} : Stp (tCB r t σ H Q) (t σ H fun vs H1 => r vs H1 Q) := ⟨i_cb⟩
theorem i_test (h : te σ H fun x H' => ∃ k, x = .bl k ∧ QT k H') : tTest te σ H QT := h
instance s_test : Stp (tTest te σ H QT) (te σ H fun x H' => ∃ k, x = .bl k ∧ QT k H') := ⟨i_test⟩
theorem i_B (h : te σ H fun x H' => ∃ k, x = .bl k ∧ QT k H') : tB te σ H QT := h
instance s_B : Stp (tB te σ H QT) (te σ H fun x H' => ∃ k, x = .bl k ∧ QT k H') := ⟨i_B⟩
theorem i_bl (q : QT b H) : ∃ k, V.bl b = .bl k ∧ QT k H := ⟨b, rfl, q⟩
theorem i_blV {P : Bool → Prop} (q : P b) : ∃ k, V.bl b = .bl k ∧ P k := ⟨b, rfl, q⟩
theorem i_and (h : tt σ H fun c H1 => if c = true then tu σ H1 QT else QT false H1) : tAnd tt tu σ H QT := h
instance s_and : Stp (tAnd tt tu σ H QT) (tt σ H fun c H1 => if c = true then tu σ H1 QT else QT false H1) := ⟨i_and⟩
theorem i_or (h : tt σ H fun c H1 => if c = true then QT true H1 else tu σ H1 QT) : tOr tt tu σ H QT := h
instance s_or : Stp (tOr tt tu σ H QT) (tt σ H fun c H1 => if c = true then QT true H1 else tu σ H1 QT) := ⟨i_or⟩
theorem i_not (h : tt σ H fun c H1 => QT (!c) H1) : tNot tt σ H QT := h
instance s_not : Stp (tNot tt σ H QT) (tt σ H fun c H1 => QT (!c) H1) := ⟨i_not⟩
theorem i_andV (h : ta σ H fun x H1 => ∃ c, x = .bl c ∧ if c = true then tb σ H1 Q else Q (.bl false) H1) : tAndV ta tb σ H Q := h
instance s_andV : Stp (tAndV ta tb σ H Q) (ta σ H fun x H1 => ∃ c, x = .bl c ∧ if c = true then tb σ H1 Q else Q (.bl false) H1) := ⟨i_andV⟩
theorem i_orV (h : ta σ H fun x H1 => ∃ c, x = .bl c ∧ if c = true then Q (.bl true) H1 else tb σ H1 Q) : tOrV ta tb σ H Q := h
instance s_orV : Stp (tOrV ta tb σ H Q) (ta σ H fun x H1 => ∃ c, x = .bl c ∧ if c = true then Q (.bl true) H1 else tb σ H1 Q) := ⟨i_orV⟩
theorem i_notV (h : ta σ H fun x H1 => ∃ c, x = .bl c ∧ Q (.bl (!c)) H1) : tNotV ta σ H Q := h
instance s_notV : Stp (tNotV ta σ H Q) (ta σ H fun x H1 => ∃ c, x = .bl c ∧ Q (.bl (!c)) H1) := ⟨i_notV⟩
theorem i_ife (h : tt σ H fun c H1 => if c = true then ta σ H1 Q else tb σ H1 Q) : tIf tt ta tb σ H Q := h
instance s_ife : Stp (tIf tt ta tb σ H Q) (tt σ H fun c H1 => if c = true then ta σ H1 Q else tb σ H1 Q) := ⟨i_ife⟩
theorem i_ifS (h : tt σ H fun b H1 => if b = true then ts D σ H1 else tw D σ H1) : tIfS tt ts tw D σ H := h
instance s_ifS : Stp (tIfS tt ts tw D σ H) (tt σ H fun b H1 => if b = true then ts D σ H1 else tw D σ H1) := ⟨i_ifS⟩
theorem i_next (h : nx σ H) : tNext ⟨nx, rt, bk, ct⟩ σ H := h
instance s_next : Stp (tNext ⟨nx, rt, bk, ct⟩ σ H) (nx σ H) := ⟨i_next⟩
theorem i_break (h : bk σ H) : tBreak ⟨nx, rt, bk, ct⟩ σ H := h
instance s_break : Stp (tBreak ⟨nx, rt, bk, ct⟩ σ H) (bk σ H) := ⟨i_break⟩
theorem i_cont (h : ct σ H) : tCont ⟨nx, rt, bk, ct⟩ σ H := h
instance s_cont : Stp (tCont ⟨nx, rt, bk, ct⟩ σ H) (ct σ H) := ⟨i_cont⟩
theorem i_ret (h : te σ H rt) : tRet te ⟨nx, rt, bk, ct⟩ σ H := h
instance s_ret : Stp (tRet te ⟨nx, rt, bk, ct⟩ σ H) (te σ H rt) := ⟨i_ret⟩
theorem i_retN (h : rt .non H) : tRetN ⟨nx, rt, bk, ct⟩ σ H := h
instance s_retN : Stp (tRetN ⟨nx, rt, bk, ct⟩ σ H) (rt .non H) := ⟨i_retN⟩
theorem i_drop (h : te σ H fun _ H1 => nx σ H1) : tDrop te ⟨nx, rt, bk, ct⟩ σ H := h
instance s_drop : Stp (tDrop te ⟨nx, rt, bk, ct⟩ σ H) (te σ H fun _ H1 => nx σ H1) := ⟨i_drop⟩
theorem i_asg {g : TG} (h : te σ H fun x H1 => g x σ H1 nx) : tAsg te g ⟨nx, rt, bk, ct⟩ σ H := h
instance s_asg {g : TG} : Stp (tAsg te g ⟨nx, rt, bk, ct⟩ σ H) (te σ H fun x H1 => g x σ H1 nx) := ⟨i_asg⟩
theorem i_gname {R : St → Hp → Prop} (h : R (σ.set n (some v)) H) : gName n v σ H R := h
instance s_gname {R : St → Hp → Prop} : Stp (gName n v σ H R) (R (σ.set n (some v)) H) := ⟨i_gname⟩
theorem i_aug {ti : TIp} (hx : σ[n]? = some (some x)) (h : te σ H fun y H1 => ti x y H1 fun z H2 => nx (σ.set n (some z)) H2) : tAug n te ti ⟨nx, rt, bk, ct⟩ σ H := ⟨x, hx, h⟩
theorem i_ipI {f : Int → Int → Int} (q : Q (.int (f i j)) H) : ipI f (.int i) (.int j) H Q := ⟨i, j, rfl, rfl, q⟩
instance s_ipI {f : Int → Int → Int} : Stp (ipI f (.int i) (.int j) H Q) (Q (.int (f i j)) H) := ⟨i_ipI⟩
theorem i_add (q : Q (.int (i + j)) H) : oAdd (.int i) (.int j) H Q := ⟨i, j, rfl, rfl, q⟩
instance s_add : Stp (oAdd (.int i) (.int j) H Q) (Q (.int (i + j)) H) := ⟨i_add⟩
theorem i_sub (q : Q (.int (i - j)) H) : oSub (.int i) (.int j) H Q := ⟨i, j, rfl, rfl, q⟩
instance s_sub : Stp (oSub (.int i) (.int j) H Q) (Q (.int (i - j)) H) := ⟨i_sub⟩
theorem i_mul (h : CMul i j) (q : Q (.int (i * j)) H) : oMul (.int i) (.int j) H Q := ⟨i, j, rfl, rfl, h, q⟩
theorem i_mulW (h : CMulW i j) (q : Q (.int (i * j)) H) : oMulW (.int i) (.int j) H Q := ⟨i, j, rfl, rfl, h, q⟩
theorem i_div (h : CDivW i j) (q : Q (.int (i / j)) H) : oDiv (.int i) (.int j) H Q := ⟨i, j, rfl, rfl, h, q⟩
theorem i_mod (h : 0 < j) (q : Q (.int (i % j)) H) : oMod (.int i) (.int j) H Q := ⟨i, j, rfl, rfl, h, q⟩
theorem i_pow (h : CPow i j) (q : Q (.int (i ^ j.toNat)) H) : oPow (.int i) (.int j) H Q := ⟨i, j, rfl, rfl, h, q⟩
theorem i_shl (h : CPow i j) (q : Q (.int (i * 2 ^ j.toNat)) H) : oShl (.int i) (.int j) H Q := ⟨i, j, rfl, rfl, h, q⟩
theorem i_band (q : Q (.int (Builtin.bitAnd i j)) H) : oAnd (.int i) (.int j) H Q := ⟨i, j, rfl, rfl, q⟩
instance s_band : Stp (oAnd (.int i) (.int j) H Q) (Q (.int (Builtin.bitAnd i j)) H) := ⟨i_band⟩
theorem i_neg (q : Q (.int (-i)) H) : oNeg (.int i) H Q := ⟨i, rfl, q⟩
instance s_neg : Stp (oNeg (.int i) H Q) (Q (.int (-i)) H) := ⟨i_neg⟩
theorem i_lt (q : Q (.bl (decide (i < j))) H) : oLt (.int i) (.int j) H Q := ⟨i, j, rfl, rfl, q⟩
instance s_lt : Stp (oLt (.int i) (.int j) H Q) (Q (.bl (decide (i < j))) H) := ⟨i_lt⟩
theorem i_le (q : Q (.bl (decide (i ≤ j))) H) : oLe (.int i) (.int j) H Q := ⟨i, j, rfl, rfl, q⟩
instance s_le : Stp (oLe (.int i) (.int j) H Q) (Q (.bl (decide (i ≤ j))) H) := ⟨i_le⟩
theorem i_gt (q : Q (.bl (decide (j < i))) H) : oGt (.int i) (.int j) H Q := ⟨i, j, rfl, rfl, q⟩
instance s_gt : Stp (oGt (.int i) (.int j) H Q) (Q (.bl (decide (j < i))) H) := ⟨i_gt⟩
theorem i_ge (q : Q (.bl (decide (j ≤ i))) H) : oGe (.int i) (.int j) H Q := ⟨i, j, rfl, rfl, q⟩
instance s_ge : Stp (oGe (.int i) (.int j) H Q) (Q (.bl (decide (j ≤ i))) H) := ⟨i_ge⟩
theorem dec_eqI : decide (V.int i = V.int j) = decide (i = j) := by
  by_cases h : i = j
  · subst h; simp
  · rw [decide_eq_false h, decide_eq_false (fun z => h (V.int.inj z))]
theorem dec_eqS {a b : Str} : decide (V.str a = V.str b) = decide (a = b) := by
  by_cases h : a = b
  · subst h; simp
  · rw [decide_eq_false h, decide_eq_false (fun z => h (V.str.inj z))]
theorem i_eq (q : Q (.bl (decide (i = j))) H) : rEq (.int i) (.int j) H Q := ⟨rfl, by rw [dec_eqI]; exact q⟩
instance s_eq : Stp (rEq (.int i) (.int j) H Q) (Q (.bl (decide (i = j))) H) := ⟨i_eq⟩
theorem i_ne (q : Q (.bl (!decide (i = j))) H) : rNe (.int i) (.int j) H Q := ⟨rfl, by rw [dec_eqI]; exact q⟩
instance s_ne : Stp (rNe (.int i) (.int j) H Q) (Q (.bl (!decide (i = j))) H) := ⟨i_ne⟩
theorem i_eqS {a b : Str} (q : Q (.bl (decide (a = b))) H) : rEq (.str a) (.str b) H Q := ⟨rfl, by rw [dec_eqS]; exact q⟩
instance s_eqS {a b : Str} : Stp (rEq (.str a) (.str b) H Q) (Q (.bl (decide (a = b))) H) := ⟨i_eqS⟩
theorem i_neS {a b : Str} (q : Q (.bl (!decide (a = b))) H) : rNe (.str a) (.str b) H Q := ⟨rfl, by rw [dec_eqS]; exact q⟩
instance s_neS {a b : Str} : Stp (rNe (.str a) (.str b) H Q) (Q (.bl (!decide (a = b))) H) := ⟨i_neS⟩
theorem i_isN (q : Q (.bl (decide (x = .non))) H) : oIsN x .non H Q := ⟨rfl, q⟩
instance s_isN : Stp (oIsN x .non H Q) (Q (.bl (decide (x = .non))) H) := ⟨i_isN⟩
theorem i_notN (q : Q (.bl (!decide (x = .non))) H) : oNotN x .non H Q := ⟨rfl, q⟩
instance s_notN : Stp (oNotN x .non H Q) (Q (.bl (!decide (x = .non))) H) := ⟨i_notN⟩
theorem i_max (q : Q (.int (if j > i then j else i)) H) : rMax2 [.int i, .int j] H Q := ⟨i, j, rfl, q⟩
instance s_max : Stp (rMax2 [.int i, .int j] H Q) (Q (.int (if j > i then j else i)) H) := ⟨i_max⟩
theorem i_min (q : Q (.int (if j < i then j else i)) H) : rMin2 [.int i, .int j] H Q := ⟨i, j, rfl, q⟩
instance s_min : Stp (rMin2 [.int i, .int j] H Q) (Q (.int (if j < i then j else i)) H) := ⟨i_min⟩
theorem i_int1 (q : Q (.int i) H) : rInt1 [.int i] H Q := .inl ⟨i, rfl, q⟩
instance s_int1 : Stp (rInt1 [.int i] H Q) (Q (.int i) H) := ⟨i_int1⟩
theorem i_chain {r r' : R2} {tc : TE} (h : ta σ H fun x H1 => tb σ H1 fun y H2 => r x y H2 fun z H3 => ∃ k, z = .bl k ∧ if k = true then tc σ H3 fun w H4 => r' y w H4 Q else Q (.bl false) H3) : tChain r r' ta tb tc σ H Q := h
instance s_chain {r r' : R2} {tc : TE} : Stp (tChain r r' ta tb tc σ H Q) (ta σ H fun x H1 => tb σ H1 fun y H2 => r x y H2 fun z H3 => ∃ k, z = .bl k ∧ if k = true then tc σ H3 fun w H4 => r' y w H4 Q else Q (.bl false) H3) := ⟨i_chain⟩
theorem i_ixL {p : Addr} {xs : List V} (h : SqL K H p xs) (e : atI xs i = some v) (q : Q v H) : rIxL K (.ref p) (.int i) H Q := ⟨p, xs, i, v, rfl, rfl, h, e, q⟩
theorem i_ixT {p : Addr} {xs : List V} (h : SqT K H p xs) (e : atI xs i = some v) (q : Q v H) : rIxT K (.ref p) (.int i) H Q := ⟨p, xs, i, v, rfl, rfl, h, e, q⟩
theorem i_setL {R : Hp → Prop} {p : Addr} {xs : List V} (h : H p = some (.lst xs)) (e : ixN xs.length i = some n) (q : R (upd H p (.lst (xs.set n v)))) : rSetL (.ref p) (.int i) v H R := ⟨p, xs, i, n, rfl, rfl, h, e, q⟩
theorem i_gsub {to ti : TE} {t : TSet} {R : St → Hp → Prop} (h : to σ H fun o H1 => ti σ H1 fun i H2 => t o i v H2 fun H3 => R σ H3) : gSub to ti t v σ H R := h
instance s_gsub {to ti : TE} {t : TSet} {R : St → Hp → Prop} : Stp (gSub to ti t v σ H R) (to σ H fun o H1 => ti σ H1 fun i H2 => t o i v H2 fun H3 => R σ H3) := ⟨i_gsub⟩
theorem i_lenL {p : Addr} {xs : List V} (h : SqL K H p xs) (q : Q (.int xs.length) H) : rLen K [.ref p] H Q := ⟨.ref p, xs.length, rfl, .inl ⟨xs, h, rfl⟩, q⟩
theorem i_lenT {p : Addr} {xs : List V} (h : SqT K H p xs) (q : Q (.int xs.length) H) : rLen K [.ref p] H Q := ⟨.ref p, xs.length, rfl, .inr ⟨xs, h, rfl⟩, q⟩
theorem sqL {p : Addr} {xs : List V} (h : H p = some (.lst xs)) : SqL K H p xs := .inl (.inl h)
theorem sqT {p : Addr} {xs : List V} (h : H p = some (.tup xs)) : SqT K H p xs := .inl (.inl h)
theorem i_gtup {p : Addr} {xs : List V} {t : TGs} {R : St → Hp → Prop} (h : SqT K H p xs) (hl : xs.length = n) (q : t xs σ H R) : gTup K n t (.ref p) σ H R := ⟨p, xs, rfl, h, hl, q⟩
theorem i_gnil {R : St → Hp → Prop} (q : R σ H) : gNil [] σ H R := ⟨rfl, q⟩
instance s_gnil {R : St → Hp → Prop} : Stp (gNil [] σ H R) (R σ H) := ⟨i_gnil⟩
theorem i_gcons {t : TG} {u : TGs} {R : St → Hp → Prop} {xs : List V} (q : t v σ H fun σ' H' => u xs σ' H' R) : gCons t u (v :: xs) σ H R := ⟨v, xs, rfl, q⟩
instance s_gcons {t : TG} {u : TGs} {R : St → Hp → Prop} {xs : List V} : Stp (gCons t u (v :: xs) σ H R) (t v σ H fun σ' H' => u xs σ' H' R) := ⟨i_gcons⟩
end
/-- an if on a test that is a decided proposition, its opposite, a known bool -/
theorem i_ifd {p A B : Prop} {inst : Decidable p} (h1 : p → A) (h2 : ¬ p → B) : if decide p = true then A else B := by
  by_cases h : p
  · rw [decide_eq_true h]; exact h1 h
  · rw [decide_eq_false h]; exact h2 h
theorem i_ifn {p A B : Prop} {inst : Decidable p} (h1 : ¬ p → A) (h2 : p → B) : if (!decide p) = true then A else B := by
  by_cases h : p
  · rw [decide_eq_true h]; exact h2 h
  · rw [decide_eq_false h]; exact h1 h
theorem i_ifb {b : Bool} {A B : Prop} (h1 : b = true → A) (h2 : b = false → B) : if b = true then A else B := by
  cases b with
  | true => exact h1 rfl
  | false => exact h2 rfl
theorem i_ifT {A B : Prop} (h : A) : if true = true then A else B := h
instance s_ifT {A B : Prop} : Stp (if true = true then A else B) (A) := ⟨i_ifT⟩
theorem i_ifF {A B : Prop} (h : B) : if false = true then A else B := h
instance s_ifF {A B : Prop} : Stp (if false = true then A else B) (B) := ⟨i_ifF⟩
theorem i_ifnT {A B : Prop} (h : B) : if (!true) = true then A else B := h
instance s_ifnT {A B : Prop} : Stp (if (!true) = true then A else B) (B) := ⟨i_ifnT⟩
theorem i_ifnF {A B : Prop} (h : A) : if (!false) = true then A else B := h
instance s_ifnF {A B : Prop} : Stp (if (!false) = true then A else B) (A) := ⟨i_ifnF⟩
theorem i_yes {p A B : Prop} {inst : Decidable p} (hp : p) (h : A) : if decide p = true then A else B := by rw [decide_eq_true hp]; exact h
theorem i_no {p A B : Prop} {inst : Decidable p} (hp : ¬ p) (h : B) : if decide p = true then A else B := by rw [decide_eq_false hp]; exact h
theorem sz {n : Nat} (h : n ≤ 100000) : n ≤ sizeLine := Nat.le_trans h (by decide)
theorem szl {n : Nat} (h : n < 100000) : n < sizeLine := Nat.lt_of_lt_of_le h (by decide)
theorem cmul_l {i j : Int} (h1 : -1000000000000 ≤ i) (h2 : i ≤ 1000000000000) : CMul i j := .inl ⟨by omega, by omega⟩
theorem cmul_r {i j : Int} (h1 : -1000000000000 ≤ j) (h2 : j ≤ 1000000000000) : CMul i j := .inr ⟨by omega, by omega⟩
theorem cdiv {i j : Int} (h0 : 0 < j) (h : j ≤ 100000000000000000000000000000000000000000000000000000000000000000000000000000) : CDivW i j := wide_div (b := 300) h0 (by
  have e : (100000000000000000000000000000000000000000000000000000000000000000000000000000 : Nat) < 2 ^ 300 := by decide
  omega) (by decide) (by decide)
theorem cpow10 {j : Int} (h0 : 0 ≤ j) (h : j ≤ 100000) : CPow 10 j := ⟨h0, by omega, by decide⟩
theorem cpow2 {j : Int} (h0 : 0 ≤ j) (h : j ≤ 100000) : CPow 2 j := ⟨h0, by omega, by decide⟩
theorem cpow1 {j : Int} (h0 : 0 ≤ j) (h : j ≤ 100000) : CPow 1 j := ⟨h0, by omega, by decide⟩
/-! ### heaps: what is kept -/
theorem same_new {H : Hp} {p : Addr} {o : HO} (h : H p = none) : Same H (upd H p o) := fun b u e => by
  rw [upd_ne (ne_of_none e h)]
  exact e
theorem upd_keep {H : Hp} {p a : Addr} {o u : HO} (h : H p = none) (e : H a = some u) : upd H p o a = some u := same_new h _ _ e
theorem upd_off {H : Hp} {p a : Addr} {o u : HO} (h : a ≠ p) (e : H a = some u) : upd H p o a = some u := by
  rw [upd_ne h]
  exact e
/-- the heap without s -/
def hid (s : Addr) (H : Hp) : Hp := fun b => if b = s then none else H b
theorem hid_of {s : Addr} {H : Hp} {b : Addr} {o : HO} (h : hid s H b = some o) : H b = some o ∧ b ≠ s := by
  unfold hid at h
  split at h
  · cases h
  · exact ⟨h, by assumption⟩
theorem hid_to {s : Addr} {H : Hp} {b : Addr} {o : HO} (h : H b = some o) (n : b ≠ s) : hid s H b = some o := by
  unfold hid
  rw [if_neg n]
  exact h
theorem hid_same {s : Addr} {H : Hp} : Same (hid s H) H := fun _ _ h => (hid_of h).1
theorem hid_upd {s : Addr} {H : Hp} {o : HO} : hid s (upd H s o) = hid s H := by
  funext b
  unfold hid
  by_cases h : b = s
  · rw [if_pos h, if_pos h]
  · rw [if_neg h, if_neg h, upd_ne h]
theorem hid_mono {s : Addr} {H H' : Hp} (h : Same H H') : Same (hid s H) (hid s H') := fun b o e => by
  obtain ⟨e1, n⟩ := hid_of e
  exact hid_to (h b o e1) n
/-- the draws at d, their state at s -/
def Dr (d s : Addr) (H : Hp) : Prop := ∃ (c : Addr) (cs : List Int) (p b n t e : Int), H d = some (.lst [.ref c, .ref s]) ∧ H c = some (.lst (cs.map V.int)) ∧ H s = some (.lst [.int p, .int b, .int n, .int t, .int e]) ∧ d ≠ s ∧ c ≠ s ∧ 0 ≤ p ∧ 0 ≤ b ∧ cs.length ≤ 100000
theorem Dr.same {d s : Addr} {H H' : Hp} (h : Dr d s H) (k : Same H H') : Dr d s H' := by
  obtain ⟨c, cs, p, b, n, t, e, h1, h2, h3, h4⟩ := h
  exact ⟨c, cs, p, b, n, t, e, k _ _ h1, k _ _ h2, k _ _ h3, h4⟩
theorem Dr.s {d s : Addr} {H : Hp} (h : Dr d s H) : ∃ o, H s = some o := by
  obtain ⟨c, cs, p, b, n, t, e, h1, h2, h3, h4⟩ := h
  exact ⟨_, h3⟩
theorem Dr.ne {d s q : Addr} {H : Hp} (h : Dr d s H) (hq : H q = none) : q ≠ s := by
  obtain ⟨o, ho⟩ := h.s
  exact fun z => by
    rw [z, ho] at hq
    cases hq
theorem hid_new {s p : Addr} {H : Hp} {o : HO} (h : p ≠ s) : hid s (upd H p o) p = some o := hid_to upd_same h
/-! ### plain data in the heap -/
inductive Dt where
  | non | bl (b : Bool) | int (i : Int) | str (x : Str) | lst (l : List Dt) | tup (l : List Dt) | dic (l : List (Str × Dt))
mutual
inductive At (H : Hp) : V → Dt → Prop where
  | non : At H .non .non
  | bl (b : Bool) : At H (.bl b) (.bl b)
  | int (i : Int) : At H (.int i) (.int i)
  | str (x : Str) : At H (.str x) (.str x)
  | lst {a : Addr} {vs : List V} {ds : List Dt} (h : H a = some (.lst vs)) (hs : Ats H vs ds) : At H (.ref a) (.lst ds)
  | tup {a : Addr} {vs : List V} {ds : List Dt} (h : H a = some (.tup vs)) (hs : Ats H vs ds) : At H (.ref a) (.tup ds)
  | dic {a : Addr} {kvs : List (Key × V)} {ds : List (Str × Dt)} (h : H a = some (.dK kvs)) (hs : Atk H kvs ds) : At H (.ref a) (.dic ds)
inductive Ats (H : Hp) : List V → List Dt → Prop where
  | nil : Ats H [] []
  | cons {v : V} {d : Dt} {vs : List V} {ds : List Dt} (h : At H v d) (hs : Ats H vs ds) : Ats H (v :: vs) (d :: ds)
inductive Atk (H : Hp) : List (Key × V) → List (Str × Dt) → Prop where
  | nil : Atk H [] []
  | cons {k : Str} {v : V} {d : Dt} {vs : List (Key × V)} {ds : List (Str × Dt)} (h : At H v d) (hs : Atk H vs ds) : Atk H ((Sum.inr k, v) :: vs) ((k, d) :: ds)
end
mutual
theorem At.mono {H H' : Hp} (k : Same H H') : ∀ {v : V} {d : Dt}, At H v d → At H' v d
  | _, _, .non => .non
  | _, _, .bl b => .bl b
  | _, _, .int i => .int i
  | _, _, .str x => .str x
  | _, _, .lst h hs => .lst (k _ _ h) (Ats.mono k hs)
  | _, _, .tup h hs => .tup (k _ _ h) (Ats.mono k hs)
  | _, _, .dic h hs => .dic (k _ _ h) (Atk.mono k hs)
theorem Ats.mono {H H' : Hp} (k : Same H H') : ∀ {v : List V} {d : List Dt}, Ats H v d → Ats H' v d
  | _, _, .nil => .nil
  | _, _, .cons h hs => .cons (At.mono k h) (Ats.mono k hs)
theorem Atk.mono {H H' : Hp} (k : Same H H') : ∀ {v : List (Key × V)} {d : List (Str × Dt)}, Atk H v d → Atk H' v d
  | _, _, .nil => .nil
  | _, _, .cons h hs => .cons (At.mono k h) (Atk.mono k hs)
end
theorem Ats.length {H : Hp} : ∀ {vs : List V} {ds : List Dt}, Ats H vs ds → vs.length = ds.length
  | _, _, .nil => rfl
  | _, _, .cons _ hs => congrArg (· + 1) (Ats.length hs)
theorem Ats.get {H : Hp} : ∀ {vs : List V} {ds : List Dt} {i : Nat} {d : Dt}, Ats H vs ds → ds[i]? = some d → ∃ v, vs[i]? = some v ∧ At H v d
  | _, _, _, _, .nil, e => by simp at e
  | _, _, 0, _, .cons h _, e => by simp at e; subst e; exact ⟨_, rfl, h⟩
  | _, _, i + 1, d, .cons _ hs, e => by
    obtain ⟨v, h1, h2⟩ := Ats.get (i := i) (d := d) hs (by simpa using e)
    exact ⟨v, by simpa using h1, h2⟩
/-- the built-in class of a known value -/
inductive Ty0 (H : Hp) : V → String → Prop where
  | non : Ty0 H .non "NoneType"
  | bl (b : Bool) : Ty0 H (.bl b) "bool"
  | int (i : Int) : Ty0 H (.int i) "int"
  | str (x : Str) : Ty0 H (.str x) "str"
  | lst {a : Addr} {vs : List V} (h : H a = some (.lst vs)) : Ty0 H (.ref a) "list"
  | tup {a : Addr} {vs : List V} (h : H a = some (.tup vs)) : Ty0 H (.ref a) "tuple"
  | dic {a : Addr} {kvs : List (Key × V)} (h : H a = some (.dK kvs)) : Ty0 H (.ref a) "dict"
theorem Ty0.tx {K : PySem.W.Frag} {H : Hp} {v : V} {n : String} (h : Ty0 H v n) : TyX K H v (.type n) := by
  cases h with
  | non => exact .base .non
  | bl b => exact .base (.bl b)
  | int i => exact .base (.int i)
  | str x => exact .base (.str x)
  | lst h => exact .base (.lst h)
  | tup h => exact .base (.tup h)
  | dic h => exact .base (.dK h)
def Dt.ty : Dt → String
  | .non => "NoneType" | .bl _ => "bool" | .int _ => "int" | .str _ => "str" | .lst _ => "list" | .tup _ => "tuple" | .dic _ => "dict"
theorem At.ty {H : Hp} {v : V} {d : Dt} (h : At H v d) : Ty0 H v d.ty := by
  cases h with
  | non => exact .non
  | bl b => exact .bl b
  | int i => exact .int i
  | str x => exact .str x
  | lst h _ => exact .lst h
  | tup h _ => exact .tup h
  | dic h _ => exact .dic h
theorem Ty0.mono {H H' : Hp} {v : V} {n : String} (k : Same H H') (h : Ty0 H v n) : Ty0 H' v n := by
  cases h with
  | non => exact .non
  | bl b => exact .bl b
  | int i => exact .int i
  | str x => exact .str x
  | lst h => exact .lst (k _ _ h)
  | tup h => exact .tup (k _ _ h)
  | dic h => exact .dic (k _ _ h)
theorem i_isi {K : PySem.W.Frag} {H : Hp} {Q : VK} {v : V} {n c : String} {b : Bool} (h : Ty0 H v n) (e : kitB n c = some b) (q : Q (.bl b) H) : rIsi K [v, .ty c] H Q :=
  ⟨v, .ty c, .type n, .type c, b, rfl, .ty c, h.tx, kit_ty e, q⟩
/-! ### loops and comprehensions -/
/-- a for over J from σ and H on; a comprehension likewise -/
def ForW (J : It) (g : TG) (tb : TS) (D : Ends) (σ : St) (H1 : Hp) : Prop := tFor (fun _ G R => R J G) g tb D σ H1
def LcW (J : It) (g : TG) (tt : TT) (te : TE) (vs : List Nat) (σ : St) (H1 : Hp) (Q : VK) : Prop := tLc (fun _ G R => R J G) g tt te vs σ H1 Q
section
variable {K : PySem.W.Frag} {σ : St} {H : Hp} {Q : VK} {D : Ends} {g : TG} {tb : TS} {ta : TA} {tl te : TE} {tt : TT} {vs : List Nat} {n m : Int} {a : Addr} {xs : List V}
theorem i_forR1 (h : ta σ H fun vs H1 => ∃ j : Int, vs = [.int j] ∧ -(2 ^ 62) ≤ j ∧ j < 2 ^ 62 ∧ ForW (Itr 0 j.toNat) g tb D σ H1) : tFor (iRng1 ta) g tb D σ H := h
instance s_forR1 : Stp (tFor (iRng1 ta) g tb D σ H) (ta σ H fun vs H1 => ∃ j : Int, vs = [.int j] ∧ -(2 ^ 62) ≤ j ∧ j < 2 ^ 62 ∧ ForW (Itr 0 j.toNat) g tb D σ H1) := ⟨i_forR1⟩
theorem i_forR2 (h : ta σ H fun vs H1 => ∃ i j : Int, vs = [.int i, .int j] ∧ (-(2 ^ 62) ≤ i ∧ i < 2 ^ 62 ∧ -(2 ^ 62) ≤ j ∧ j < 2 ^ 62) ∧ ForW (Itr i (j - i).toNat) g tb D σ H1) : tFor (iRng2 ta) g tb D σ H := h
instance s_forR2 : Stp (tFor (iRng2 ta) g tb D σ H) (ta σ H fun vs H1 => ∃ i j : Int, vs = [.int i, .int j] ∧ (-(2 ^ 62) ≤ i ∧ i < 2 ^ 62 ∧ -(2 ^ 62) ≤ j ∧ j < 2 ^ 62) ∧ ForW (Itr i (j - i).toNat) g tb D σ H1) := ⟨i_forR2⟩
theorem i_forL (h : tl σ H fun x H1 => ∃ a, x = .ref a ∧ (∃ xs, SqL K H1 a xs) ∧ ForW (Itl K a) g tb D σ H1) : tFor (iList K tl) g tb D σ H := h
instance s_forL : Stp (tFor (iList K tl) g tb D σ H) (tl σ H fun x H1 => ∃ a, x = .ref a ∧ (∃ xs, SqL K H1 a xs) ∧ ForW (Itl K a) g tb D σ H1) := ⟨i_forL⟩
theorem i_forT (h : tl σ H fun x H1 => ∃ a, x = .ref a ∧ (∃ xs, SqT K H1 a xs) ∧ ForW (Itt K a) g tb D σ H1) : tFor (iTup K tl) g tb D σ H := h
instance s_forT : Stp (tFor (iTup K tl) g tb D σ H) (tl σ H fun x H1 => ∃ a, x = .ref a ∧ (∃ xs, SqT K H1 a xs) ∧ ForW (Itt K a) g tb D σ H1) := ⟨i_forT⟩
theorem f_rng1 (h1 : -1000000000000 ≤ n) (h2 : n ≤ 1000000000000) (q : ForW (Itr 0 n.toNat) g tb D σ H) : ∃ j : Int, [V.int n] = [.int j] ∧ -(2 ^ 62) ≤ j ∧ j < 2 ^ 62 ∧ ForW (Itr 0 j.toNat) g tb D σ H := ⟨n, rfl, by omega, by omega, q⟩
theorem f_rng2 (h1 : -1000000000000 ≤ m) (h2 : m ≤ 1000000000000) (h3 : -1000000000000 ≤ n) (h4 : n ≤ 1000000000000) (q : ForW (Itr m (n - m).toNat) g tb D σ H) :
    ∃ i j : Int, [V.int m, V.int n] = [.int i, .int j] ∧ (-(2 ^ 62) ≤ i ∧ i < 2 ^ 62 ∧ -(2 ^ 62) ≤ j ∧ j < 2 ^ 62) ∧ ForW (Itr i (j - i).toNat) g tb D σ H := ⟨m, n, rfl, ⟨by omega, by omega, by omega, by omega⟩, q⟩
theorem f_lst (h : SqL K H a xs) (q : ForW (Itl K a) g tb D σ H) : ∃ b, V.ref a = .ref b ∧ (∃ xs, SqL K H b xs) ∧ ForW (Itl K b) g tb D σ H := ⟨a, rfl, ⟨xs, h⟩, q⟩
theorem f_tup (h : SqT K H a xs) (q : ForW (Itt K a) g tb D σ H) : ∃ b, V.ref a = .ref b ∧ (∃ xs, SqT K H b xs) ∧ ForW (Itt K b) g tb D σ H := ⟨a, rfl, ⟨xs, h⟩, q⟩
theorem i_lcR1 (h : ta σ H fun ws H1 => ∃ j : Int, ws = [.int j] ∧ -(2 ^ 62) ≤ j ∧ j < 2 ^ 62 ∧ LcW (Itr 0 j.toNat) g tt te vs σ H1 Q) : tLc (iRng1 ta) g tt te vs σ H Q := h
instance s_lcR1 : Stp (tLc (iRng1 ta) g tt te vs σ H Q) (ta σ H fun ws H1 => ∃ j : Int, ws = [.int j] ∧ -(2 ^ 62) ≤ j ∧ j < 2 ^ 62 ∧ LcW (Itr 0 j.toNat) g tt te vs σ H1 Q) := ⟨i_lcR1⟩
theorem i_lcL (h : tl σ H fun x H1 => ∃ a, x = .ref a ∧ (∃ xs, SqL K H1 a xs) ∧ LcW (Itl K a) g tt te vs σ H1 Q) : tLc (iList K tl) g tt te vs σ H Q := h
instance s_lcL : Stp (tLc (iList K tl) g tt te vs σ H Q) (tl σ H fun x H1 => ∃ a, x = .ref a ∧ (∃ xs, SqL K H1 a xs) ∧ LcW (Itl K a) g tt te vs σ H1 Q) := ⟨i_lcL⟩
theorem i_lcT (h : tl σ H fun x H1 => ∃ a, x = .ref a ∧ (∃ xs, SqT K H1 a xs) ∧ LcW (Itt K a) g tt te vs σ H1 Q) : tLc (iTup K tl) g tt te vs σ H Q := h
instance s_lcT : Stp (tLc (iTup K tl) g tt te vs σ H Q) (tl σ H fun x H1 => ∃ a, x = .ref a ∧ (∃ xs, SqT K H1 a xs) ∧ LcW (Itt K a) g tt te vs σ H1 Q) := ⟨i_lcT⟩
theorem c_rng1 (h1 : -1000000000000 ≤ n) (h2 : n ≤ 1000000000000) (q : LcW (Itr 0 n.toNat) g tt te vs σ H Q) : ∃ j : Int, [V.int n] = [.int j] ∧ -(2 ^ 62) ≤ j ∧ j < 2 ^ 62 ∧ LcW (Itr 0 j.toNat) g tt te vs σ H Q := ⟨n, rfl, by omega, by omega, q⟩
theorem c_lst (h : SqL K H a xs) (q : LcW (Itl K a) g tt te vs σ H Q) : ∃ b, V.ref a = .ref b ∧ (∃ xs, SqL K H b xs) ∧ LcW (Itl K b) g tt te vs σ H Q := ⟨a, rfl, ⟨xs, h⟩, q⟩
theorem c_tup (h : SqT K H a xs) (q : LcW (Itt K a) g tt te vs σ H Q) : ∃ b, V.ref a = .ref b ∧ (∃ xs, SqT K H b xs) ∧ LcW (Itt K b) g tt te vs σ H Q := ⟨a, rfl, ⟨xs, h⟩, q⟩
theorem i_tyes {QT : Bool → Hp → Prop} (h : QT true H) : tYes σ H QT := h
instance s_tyes {QT : Bool → Hp → Prop} : Stp (tYes σ H QT) (QT true H) := ⟨i_tyes⟩
theorem i_amongL {i : Int} (h : SqL K H a xs) (h0 : 0 ≤ i) (h1 : i < xs.length) (q : ∀ v, xs[i.toNat]? = some v → Q v H) : rIxL K (.ref a) (.int i) H Q := by
  have hx : xs[i.toNat]? = some (xs[i.toNat]'(by omega)) := List.getElem?_eq_getElem _
  exact ⟨a, xs, i, _, rfl, rfl, h, at_of (j := i.toNat) (by omega) hx, q _ hx⟩
end
theorem l_while {tt : TT} {tb : TS} {nx bk ct : St → Hp → Prop} {rt : VK} {σ : St} {H : Hp} {m : Nat} (W : Nat → St → Hp → Prop) (h0 : W m σ H)
    (hs : ∀ m σ' H', W m σ' H' → tt σ' H' fun b H1 => if b = true then ∃ N : St → Hp → Prop, (∀ σ2 H2, N σ2 H2 → ∃ m', m' < m ∧ W m' σ2 H2) ∧ tb ⟨N, rt, nx, N⟩ σ' H1 else nx σ' H1) : tWhile tt tb ⟨nx, rt, bk, ct⟩ σ H := ⟨W, ⟨m, h0⟩, hs⟩
/-- into the body of a while -/
theorem i_turn {W : Nat → St → Hp → Prop} {tb : TS} {nx : St → Hp → Prop} {rt : VK} {σ : St} {H : Hp} {m : Nat} (h : tb ⟨fun σ2 H2 => ∃ m', m' < m ∧ W m' σ2 H2, rt, nx, fun σ2 H2 => ∃ m', m' < m ∧ W m' σ2 H2⟩ σ H) : ∃ N : St → Hp → Prop, (∀ σ2 H2, N σ2 H2 → ∃ m', m' < m ∧ W m' σ2 H2) ∧ tb ⟨N, rt, nx, N⟩ σ H := ⟨_, fun _ _ h => h, h⟩
instance s_bm {K : PySem.W.Frag} {σ : St} {H : Hp} {Q : VK} {T : String} {r : V → List V → Hp → VK → Prop} {to : TE} {t : TA} : Stp (tBM K T r to t σ H Q) (to σ H fun x H1 => tyV K T x H1 ∧ t σ H1 fun xs H2 => r x xs H2 Q) := ⟨fun h => h⟩
theorem i_app {K : PySem.W.Frag} {σ : St} {H : Hp} {Q : VK} {r : V → List V → Hp → VK → Prop} {t : TA} {l : Addr} {ys : List V} (hl : H l = some (.lst ys)) (h : t σ H fun vs H2 => r (.ref l) vs H2 Q) : tyV K "list" (.ref l) H ∧ t σ H fun vs H2 => r (.ref l) vs H2 Q := ⟨.inl ⟨rfl, ys, sqL hl⟩, h⟩
theorem i_put {H : Hp} {Q : VK} {l : Addr} {xs : List V} {y : V} (h : H l = some (.lst xs)) (hz : xs.length < 100000) (q : Q .non (upd H l (.lst (xs ++ [y])))) : rAppend (.ref l) [y] H Q := ⟨l, xs, y, rfl, rfl, h, szl hz, q⟩
/-- the rest of a block once for all ways through its first statement -/
theorem i_cut {ts tw : TS} {nx bk ct : St → Hp → Prop} {rt : VK} {σ : St} {H : Hp} (R : St → Hp → Prop) (hR : ∀ σ' H', R σ' H' → tw ⟨nx, rt, bk, ct⟩ σ' H') (h : ∀ nx : St → Hp → Prop, (∀ σ' H', R σ' H' → nx σ' H') → ts ⟨nx, rt, bk, ct⟩ σ H) : tSeq ts tw ⟨nx, rt, bk, ct⟩ σ H := h _ hR
section
variable {K : PySem.W.Frag} {σ : St} {H : Hp} {g : TG} {tb : TS} {n : Nat} {lo : Int} {a : Addr} {xs : List V} {nx bk ct : St → Hp → Prop} {rt : VK}
theorem l_rng (Pv : Nat → St → Hp → Prop) (h0 : Pv 0 σ H) (hs : ∀ i σ' H', i < n → Pv i σ' H' → g (.int (lo + i)) σ' H' fun σ2 H2 => tb ⟨Pv (i + 1), rt, nx, Pv (i + 1)⟩ σ2 H2) (hd : ∀ σ' H', Pv n σ' H' → nx σ' H') : ForW (Itr lo n) g tb ⟨nx, rt, bk, ct⟩ σ H :=
  for_range (D := ⟨nx, rt, bk, ct⟩) Pv h0 hs hd
theorem l_lst (Pv : Nat → St → Hp → Prop) (h0 : Pv 0 σ H) (hl : ∀ i σ' H', i ≤ xs.length → Pv i σ' H' → SqL K H' a xs) (hs : ∀ i x σ' H', xs[i]? = some x → Pv i σ' H' → g x σ' H' fun σ2 H2 => tb ⟨Pv (i + 1), rt, nx, Pv (i + 1)⟩ σ2 H2) (hd : ∀ σ' H', Pv xs.length σ' H' → nx σ' H') : ForW (Itl K a) g tb ⟨nx, rt, bk, ct⟩ σ H :=
  for_list (D := ⟨nx, rt, bk, ct⟩) Pv h0 hl hs hd
theorem l_tup (Pv : Nat → St → Hp → Prop) (h0 : Pv 0 σ H) (hl : ∀ i σ' H', i ≤ xs.length → Pv i σ' H' → SqT K H' a xs) (hs : ∀ i x σ' H', xs[i]? = some x → Pv i σ' H' → g x σ' H' fun σ2 H2 => tb ⟨Pv (i + 1), rt, nx, Pv (i + 1)⟩ σ2 H2) (hd : ∀ σ' H', Pv xs.length σ' H' → nx σ' H') : ForW (Itt K a) g tb ⟨nx, rt, bk, ct⟩ σ H :=
  for_tup (D := ⟨nx, rt, bk, ct⟩) Pv h0 hl hs hd
end
section
variable {K : PySem.W.Frag} {σ : St} {H : Hp} {g : TG} {tt : TT} {te : TE} {vs : List Nat} {n : Nat} {lo : Int} {a : Addr} {xs : List V} {Q : VK}
theorem m_rng (Pv : Addr → Nat → Hp → Prop) (h0 : ∀ D, H D = none → Pv D 0 (upd H D (.lst [])))
    (hs : ∀ D i H', i < n → Pv D i H' → g (.int (lo + i)) (wipe σ vs) H' fun σ2 H2 => wipe σ2 vs = wipe σ vs ∧ tt σ2 H2 fun b H3 => if b = true then te σ2 H3 fun y H4 => ∃ acc, H4 D = some (.lst acc) ∧ acc.length < sizeLine ∧ Pv D (i + 1) (upd H4 D (.lst (acc ++ [y]))) else Pv D (i + 1) H3)
    (hd : ∀ D H', Pv D n H' → Q (.ref D) H') : LcW (Itr lo n) g tt te vs σ H Q := fun D hD => lc_range (Pv D) (h0 D hD) (hs D) (hd D)
theorem m_lst (Pv : Addr → Nat → Hp → Prop) (h0 : ∀ D, H D = none → Pv D 0 (upd H D (.lst []))) (hl : ∀ D i H', i ≤ xs.length → Pv D i H' → SqL K H' a xs)
    (hs : ∀ D i x H', xs[i]? = some x → Pv D i H' → g x (wipe σ vs) H' fun σ2 H2 => wipe σ2 vs = wipe σ vs ∧ tt σ2 H2 fun b H3 => if b = true then te σ2 H3 fun y H4 => ∃ acc, H4 D = some (.lst acc) ∧ acc.length < sizeLine ∧ Pv D (i + 1) (upd H4 D (.lst (acc ++ [y]))) else Pv D (i + 1) H3)
    (hd : ∀ D H', Pv D xs.length H' → Q (.ref D) H') : LcW (Itl K a) g tt te vs σ H Q := fun D hD => lc_list (Pv D) (h0 D hD) (hl D) (hs D) (hd D)
theorem m_tup (Pv : Addr → Nat → Hp → Prop) (h0 : ∀ D, H D = none → Pv D 0 (upd H D (.lst []))) (hl : ∀ D i H', i ≤ xs.length → Pv D i H' → SqT K H' a xs)
    (hs : ∀ D i x H', xs[i]? = some x → Pv D i H' → g x (wipe σ vs) H' fun σ2 H2 => wipe σ2 vs = wipe σ vs ∧ tt σ2 H2 fun b H3 => if b = true then te σ2 H3 fun y H4 => ∃ acc, H4 D = some (.lst acc) ∧ acc.length < sizeLine ∧ Pv D (i + 1) (upd H4 D (.lst (acc ++ [y]))) else Pv D (i + 1) H3)
    (hd : ∀ D H', Pv D xs.length H' → Q (.ref D) H') : LcW (Itt K a) g tt te vs σ H Q := fun D hD => lc_tup (Pv D) (h0 D hD) (hl D) (hs D) (hd D)
theorem m_kept {D : Addr} {y : V} {R : Hp → Prop} {acc : List V} (h : H D = some (.lst acc)) (hz : acc.length < 100000) (q : R (upd H D (.lst (acc ++ [y])))) : ∃ acc, H D = some (.lst acc) ∧ acc.length < sizeLine ∧ R (upd H D (.lst (acc ++ [y]))) := ⟨acc, h, szl hz, q⟩
end
theorem getI {ns : List Int} {i : Nat} {y : V} (hi : (ns.map V.int)[i]? = some y) : ∃ z, ns[i]? = some z ∧ y = V.int z := by
  rw [List.getElem?_map, Option.map_eq_some_iff] at hi
  exact hi.elim fun z h => ⟨z, h.1, h.2.symm⟩
theorem take_more {α : Type} {l : List α} {i : Nat} {x : α} (h : l[i]? = some x) : l.take (i + 1) = l.take i ++ [x] := by rw [List.take_add_one, h]; rfl
mutual
def Dt.dep : Dt → Nat
  | .lst l => Dt.depL l + 1
  | .tup l => Dt.depL l + 1
  | .dic l => Dt.depK l + 1
  | _ => 0
def Dt.depL : List Dt → Nat
  | [] => 0
  | d :: r => max d.dep (Dt.depL r)
def Dt.depK : List (Str × Dt) → Nat
  | [] => 0
  | (_, d) :: r => max d.dep (Dt.depK r)
end
mutual
def Dt.okd : Dt → Bool
  | .lst l => decide (l.length ≤ 10000) && Dt.okL l
  | .tup l => decide (l.length ≤ 10000) && Dt.okL l
  | .dic l => (decide (l.length ≤ 1000) && decide ((l.map (·.1)).Nodup)) && Dt.okK l
  | _ => true
def Dt.okL : List Dt → Bool
  | [] => true
  | d :: r => d.okd && Dt.okL r
def Dt.okK : List (Str × Dt) → Bool
  | [] => true
  | (_, d) :: r => d.okd && Dt.okK r
end
def Dt.isI : Dt → Bool
  | .int _ => true
  | _ => false
/-- an int from lo to hi -/
def Dt.inR (lo hi : Int) : Dt → Prop
  | .int i => lo ≤ i ∧ i ≤ hi
  | _ => False
/-- a power of two up to m -/
def Dt.isAl (m : Int) : Dt → Prop
  | .int i => (∃ k : Nat, i = 2 ^ k) ∧ i ≤ m
  | _ => False
theorem Dt.inR_of {d : Dt} (h : d.isI = false) (lo hi : Int) : ¬ d.inR lo hi := by
  cases d <;> first | exact fun z => z | cases h
theorem Dt.isAl_of {d : Dt} (h : d.isI = false) (m : Int) : ¬ d.isAl m := by
  cases d <;> first | exact fun z => z | cases h
theorem i_disp1 {σ : St} {H : Hp} {Q : VK} {k : Str} {v : V} (h : ∀ p, H p = none → Q (.ref p) (upd H p (.dK [(Sum.inr k, v)]))) : tDisp [(tC (.str k), tC v)] σ H Q := fun p hp => ⟨upd_same, [(.inr k, v)], rfl, by simp, by rw [upd_upd]; exact h p hp⟩
/-! ### a def as it stands behind the top -/
structure DfG (K : PySem.W.Frag) (mg : Str → Option Value) (x : Str) (st : Stmt) (ps : List Str) (f : Addr) (fd : FuncData) : Prop where
  fn : Fun K x x st f fd
  gl : mg x = some (.ref f)
  bd : Binds K fd ps []
structure DfM (K : PySem.W.Frag) (x qual : Str) (st : Stmt) (ps : List Str) (f : Addr) (fd : FuncData) : Prop where
  fn : Fun K x qual st f fd
  bd : Binds K fd ps []
theorem fn_false {P : Program} {w : World} {K : PySem.W.Frag} {mg : Str → Option Value} {base : Heap} {CX : CXT} {k : Nat} {f : Addr} {fd : FuncData} {ps : List Str} : FnOk P w K mg base CX k f fd ps (fun _ _ _ _ => False) := ⟨fun _ _ _ _ h => h.elim, fun _ _ _ _ _ _ _ _ _ _ _ _ _ h => h.elim⟩
theorem FnU.mono {P : Program} {w : World} {K : PySem.W.Frag} {mg : Str → Option Value} {base : Heap} {j k : Nat} {f : Addr} {fd : FuncData} {ps : List Str} {sp : Sp} (F : FnU P w K mg base j f fd ps sp) (h : j ≤ k) : FnU P w K mg base k f fd ps sp := ⟨F.len, fun A outer s H args us vs Q E hr => F.run A outer s H args us vs Q E (hr.mono h)⟩
/-- the part of H' that is new since H -/
def nw (H H' : Hp) : Hp := fun b => match H b with
  | none => H' b
  | some _ => none
theorem nw_to {H H' : Hp} {b : Addr} {o : HO} (h : H b = none) (e : H' b = some o) : nw H H' b = some o := by
  unfold nw
  rw [h]
  exact e
theorem nw_of {H H' : Hp} {b : Addr} {o : HO} (h : nw H H' b = some o) : H b = none ∧ H' b = some o := by
  unfold nw at h
  cases e : H b with
  | none =>
    rw [e] at h
    exact ⟨rfl, h⟩
  | some u =>
    rw [e] at h
    cases h
theorem nw_old {H H1 H2 : Hp} (k : ∀ b o, H b = some o → ∃ u, H1 b = some u) : Same (nw H1 H2) (nw H H2) := fun b o e => by
  obtain ⟨e1, e2⟩ := nw_of e
  refine nw_to ?_ e2
  cases q : H b with
  | none => rfl
  | some u =>
    obtain ⟨u', q'⟩ := k b u q
    rw [q'] at e1
    cases e1
theorem nw_hid {d s : Addr} {H H' : Hp} (h : Dr d s H) : Same (nw H H') (hid s H') := fun b o e => by
  obtain ⟨e1, e2⟩ := nw_of e
  exact hid_to e2 (h.ne e1)
theorem nw_same {H H' : Hp} : Same (nw H H') H' := fun _ _ e => (nw_of e).2
theorem alive {d s : Addr} {H H1 : Hp} (h : Dr d s H1) (k : Same (hid s H) (hid s H1)) : ∀ b o, H b = some o → ∃ u, H1 b = some u := fun b o e => by
  by_cases hb : b = s
  · subst hb
    exact h.s
  · exact ⟨o, hid_same _ _ (k _ _ (hid_to e hb))⟩
/-- what is new since H stays new and stays as it is -/
theorem nw_grow {d s : Addr} {H H1 H2 : Hp} (h : Dr d s H) (k : Same (hid s H1) (hid s H2)) : Same (nw H H1) (nw H H2) := fun b o e => by
  obtain ⟨e1, e2⟩ := nw_of e
  exact nw_to e1 (hid_same _ _ (k _ _ (hid_to e2 (h.ne e1))))
/-- what the end asks of the law -/
def sp_end (K : PySem.W.Frag) : Sp := fun vs H Q _ => ∃ (a : Addr) (ns : List Int), vs = [.ref a] ∧ SqL K H a (ns.map V.int) ∧ ns.length ≤ 63 ∧ ∀ H', Q (.bl true) H'
/-- isinstance of a value of a built-in class -/
class KB (a c : String) (b : outParam Bool) : Prop where
  e : kitB a c = some b
instance kb_NoneType_int : KB "NoneType" "int" false := ⟨by decide +kernel⟩
instance kb_NoneType_bool : KB "NoneType" "bool" false := ⟨by decide +kernel⟩
instance kb_NoneType_str : KB "NoneType" "str" false := ⟨by decide +kernel⟩
instance kb_NoneType_list : KB "NoneType" "list" false := ⟨by decide +kernel⟩
instance kb_NoneType_tuple : KB "NoneType" "tuple" false := ⟨by decide +kernel⟩
instance kb_NoneType_dict : KB "NoneType" "dict" false := ⟨by decide +kernel⟩
instance kb_bool_int : KB "bool" "int" true := ⟨by decide +kernel⟩
instance kb_bool_bool : KB "bool" "bool" true := ⟨by decide +kernel⟩
instance kb_bool_str : KB "bool" "str" false := ⟨by decide +kernel⟩
instance kb_bool_list : KB "bool" "list" false := ⟨by decide +kernel⟩
instance kb_bool_tuple : KB "bool" "tuple" false := ⟨by decide +kernel⟩
instance kb_bool_dict : KB "bool" "dict" false := ⟨by decide +kernel⟩
instance kb_int_int : KB "int" "int" true := ⟨by decide +kernel⟩
instance kb_int_bool : KB "int" "bool" false := ⟨by decide +kernel⟩
instance kb_int_str : KB "int" "str" false := ⟨by decide +kernel⟩
instance kb_int_list : KB "int" "list" false := ⟨by decide +kernel⟩
instance kb_int_tuple : KB "int" "tuple" false := ⟨by decide +kernel⟩
instance kb_int_dict : KB "int" "dict" false := ⟨by decide +kernel⟩
instance kb_str_int : KB "str" "int" false := ⟨by decide +kernel⟩
instance kb_str_bool : KB "str" "bool" false := ⟨by decide +kernel⟩
instance kb_str_str : KB "str" "str" true := ⟨by decide +kernel⟩
instance kb_str_list : KB "str" "list" false := ⟨by decide +kernel⟩
instance kb_str_tuple : KB "str" "tuple" false := ⟨by decide +kernel⟩
instance kb_str_dict : KB "str" "dict" false := ⟨by decide +kernel⟩
instance kb_list_int : KB "list" "int" false := ⟨by decide +kernel⟩
instance kb_list_bool : KB "list" "bool" false := ⟨by decide +kernel⟩
instance kb_list_str : KB "list" "str" false := ⟨by decide +kernel⟩
instance kb_list_list : KB "list" "list" true := ⟨by decide +kernel⟩
instance kb_list_tuple : KB "list" "tuple" false := ⟨by decide +kernel⟩
instance kb_list_dict : KB "list" "dict" false := ⟨by decide +kernel⟩
instance kb_tuple_int : KB "tuple" "int" false := ⟨by decide +kernel⟩
instance kb_tuple_bool : KB "tuple" "bool" false := ⟨by decide +kernel⟩
instance kb_tuple_str : KB "tuple" "str" false := ⟨by decide +kernel⟩
instance kb_tuple_list : KB "tuple" "list" false := ⟨by decide +kernel⟩
instance kb_tuple_tuple : KB "tuple" "tuple" true := ⟨by decide +kernel⟩
instance kb_tuple_dict : KB "tuple" "dict" false := ⟨by decide +kernel⟩
instance kb_dict_int : KB "dict" "int" false := ⟨by decide +kernel⟩
instance kb_dict_bool : KB "dict" "bool" false := ⟨by decide +kernel⟩
instance kb_dict_str : KB "dict" "str" false := ⟨by decide +kernel⟩
instance kb_dict_list : KB "dict" "list" false := ⟨by decide +kernel⟩
instance kb_dict_tuple : KB "dict" "tuple" false := ⟨by decide +kernel⟩
instance kb_dict_dict : KB "dict" "dict" true := ⟨by decide +kernel⟩
theorem i_isiT {K : PySem.W.Frag} {H : Hp} {Q : VK} {v : V} {n c : String} {b : Bool} [k : KB n c b] (h : Ty0 H v n) (q : Q (.bl b) H) : rIsi K [v, .ty c] H Q := i_isi h k.e q
section
variable {A B : Prop}
instance s_nonI {i : Int} {inst : Decidable (V.int i = .non)} : Stp (if @decide (V.int i = .non) inst = true then A else B) B := ⟨i_no (by simp)⟩
instance s_nonB {i : Bool} {inst : Decidable (V.bl i = .non)} : Stp (if @decide (V.bl i = .non) inst = true then A else B) B := ⟨i_no (by simp)⟩
instance s_nonS {i : Str} {inst : Decidable (V.str i = .non)} : Stp (if @decide (V.str i = .non) inst = true then A else B) B := ⟨i_no (by simp)⟩
instance s_nonR {i : Addr} {inst : Decidable (V.ref i = .non)} : Stp (if @decide (V.ref i = .non) inst = true then A else B) B := ⟨i_no (by simp)⟩
instance s_nonN {inst : Decidable (V.non = .non)} : Stp (if @decide (V.non = .non) inst = true then A else B) A := ⟨i_yes rfl⟩
instance s_bneTT : Stp (if (true != true) = true then A else B) B := ⟨fun h => h⟩
instance s_bneFF : Stp (if (false != false) = true then A else B) B := ⟨fun h => h⟩
instance s_bneTF : Stp (if (true != false) = true then A else B) A := ⟨fun h => h⟩
instance s_bneFT : Stp (if (false != true) = true then A else B) A := ⟨fun h => h⟩
end
/-! ### for the steps: a heap fact kept on -/
theorem sget {H H' : Hp} {p : Addr} {o : HO} (k : Same H H') (e : H p = some o) : H' p = some o := k _ _ e
theorem hget {s : Addr} {H H' : Hp} {p : Addr} {o : HO} (k : Same (hid s H) (hid s H')) (n : p ≠ s) (e : H p = some o) : H' p = some o := (hid_of (k _ _ (hid_to e n))).1
theorem ne_dr {d s q : Addr} {H : Hp} (hq : H q = none) (h : Dr d s H) : q ≠ s := h.ne hq
theorem i_isiG {K : PySem.W.Frag} {H : Hp} {Q : VK} {v : V} {c : String} (h : ∃ n b, Ty0 H v n ∧ kitB n c = some b ∧ Q (.bl b) H) : rIsi K [v, .ty c] H Q := h.elim fun _ h => h.elim fun _ h => i_isi h.1 h.2.1 h.2.2
theorem i_isiE {H : Hp} {Q : VK} {v : V} {n c : String} {b : Bool} [k : KB n c b] (h : Ty0 H v n) (q : Q (.bl b) H) : ∃ n b, Ty0 H v n ∧ kitB n c = some b ∧ Q (.bl b) H := ⟨n, b, h, k.e, q⟩
/-! what a goal is, ahead of a step with side goals -/
section
variable {K : PySem.W.Frag} {σ : St} {H : Hp} {Q : VK} {D : Ends} {v x y : V} {te : TE} {tw : TS} {n : Nat} {p : Addr} {i j : Int}
theorem q_var (h : tVar n σ H Q) : tVar n σ H Q := h
theorem q_ixL (h : rIxL K x y H Q) : rIxL K x y H Q := h
theorem q_ixT (h : rIxT K x y H Q) : rIxT K x y H Q := h
theorem q_setL {R : Hp → Prop} (h : rSetL x y v H R) : rSetL x y v H R := h
theorem q_mul (h : oMul x y H Q) : oMul x y H Q := h
theorem q_div (h : oDiv x y H Q) : oDiv x y H Q := h
theorem q_mod (h : oMod x y H Q) : oMod x y H Q := h
theorem q_pow (h : oPow x y H Q) : oPow x y H Q := h
theorem q_shl (h : oShl x y H Q) : oShl x y H Q := h
theorem q_len {vs : List V} (h : rLen K vs H Q) : rLen K vs H Q := h
theorem q_isi {vs : List V} (h : rIsi K vs H Q) : rIsi K vs H Q := h
theorem q_app {c : String} {P : Prop} (h : tyV K c x H ∧ P) : tyV K c x H ∧ P := h
theorem q_seqG {ti : TIp} (h : tSeq (tAug n te ti) tw D σ H) : tSeq (tAug n te ti) tw D σ H := h
theorem q_aug {ti : TIp} (h : tAug n te ti D σ H) : tAug n te ti D σ H := h
theorem q_gtup {t : TGs} {R : St → Hp → Prop} (h : gTup K n t x σ H R) : gTup K n t x σ H R := h
theorem q_sz {A : Nat} {P : Prop} (h : A ≤ sizeLine ∧ P) : A ≤ sizeLine ∧ P := h
end
theorem free2 {H H' : Hp} {p : Addr} (e : H' p = none) (k : Same H H') : H p = none := by
  cases q : H p with
  | none => rfl
  | some o =>
    rw [k p o q] at e
    cases e
theorem dead2 {d s p : Addr} {H H' : Hp} (e : H' p = none) (h : Dr d s H') (k : Same (hid s H) (hid s H')) : H p = none := by
  cases q : H p with
  | none => rfl
  | some o =>
    obtain ⟨u, hu⟩ := alive h k p o q
    rw [hu] at e
    cases e
theorem nw_wide {d s : Addr} {H H1 H2 H3 : Hp} (h : Dr d s H1) (k1 : Same (hid s H) (hid s H1)) (k2 : Same (hid s H2) (hid s H3)) : Same (nw H1 H2) (nw H H3) := fun b o e => by
  obtain ⟨e1, e2⟩ := nw_of e
  exact nw_to (dead2 e1 h k1) (hget k2 (h.ne e1) e2)
theorem nw_wide0 {H H1 H2 H3 : Hp} (k1 : Same H H1) (k2 : Same H2 H3) : Same (nw H1 H2) (nw H H3) := fun b o e => by
  obtain ⟨e1, e2⟩ := nw_of e
  exact nw_to (free2 e1 k1) (k2 _ _ e2)
theorem nw_hidw {d s : Addr} {H1 H2 H3 : Hp} (h : Dr d s H1) (k2 : Same (hid s H2) (hid s H3)) : Same (nw H1 H2) (hid s H3) := fun b o e => by
  obtain ⟨e1, e2⟩ := nw_of e
  exact k2 _ _ (hid_to e2 (h.ne e1))
theorem nw_to2 {H H' : Hp} {b : Addr} {o : HO} (e : H' b = some o) (h : H b = none) : nw H H' b = some o := nw_to h e
/-- {k: v} of a name -/
theorem i_disp1V {σ : St} {H : Hp} {Q : VK} {k : Str} {n : Nat} {v : V} (hx : σ[n]? = some (some v)) (h : ∀ p, H p = none → Q (.ref p) (upd H p (.dK [(Sum.inr k, v)]))) : tDisp [(tC (.str k), tVar n)] σ H Q := fun p hp => ⟨v, hx, upd_same, [(.inr k, v)], rfl, by simp, by rw [upd_upd]; exact h p hp⟩
theorem hid2_upd {r s : Addr} {H : Hp} {o : HO} (n : r ≠ s) : hid r (hid s (upd H r o)) = hid r (hid s H) := by
  funext b
  unfold hid
  by_cases h : b = r
  · rw [if_pos h, if_pos h]
  · rw [if_neg h, if_neg h, upd_ne h]
/-- an object that is new since G may change: the draws stand -/
theorem Dr.upd {d s r : Addr} {G H : Hp} {o : HO} (hG : Dr d s G) (hr : G r = none) (sm : Same (hid s G) (hid s H)) (hD : Dr d s H) : Dr d s (L2.upd H r o) := by
  obtain ⟨c0, cs0, p0, b0, q0, t0, e0, g1, g2, g3, g4, g5, g6⟩ := hG
  obtain ⟨c, cs, p, b, q, t, e, h1, h2, h3, h4, h5, h6⟩ := hD
  have k1 := (hid_of (sm _ _ (hid_to g1 g4))).1
  rw [h1] at k1
  have ec : c = c0 := by
    have z := Option.some.inj k1
    injection z with z
    injection z with z1 z2
    injection z1
  subst ec
  exact ⟨c, cs, p, b, q, t, e, upd_off (ne_of_none g1 hr) h1, upd_off (ne_of_none g2 hr) h2, upd_off (ne_of_none g3 hr) h3, h4, h5, h6⟩
theorem nw_hid2 {d s r : Addr} {H H' : Hp} {o : HO} (h : Dr d s H) (hr : H r = some o) : Same (nw H H') (hid r (hid s H')) := fun b u e => by
  obtain ⟨e1, e2⟩ := nw_of e
  refine hid_to (hid_to e2 (h.ne e1)) fun z => ?_
  rw [z, hr] at e1
  cases e1
theorem same_step {H1 H4 : Hp} {D : Addr} {o : HO} (hn : H1 D = none) (k : Same H1 H4) : Same H1 (upd H4 D o) := fun b u e => upd_off (ne_of_none e hn) (k _ _ e)
theorem hid_step {s D : Addr} {H1 H4 : Hp} {o : HO} (hn : H1 D = none) (k : Same (hid s H1) (hid s H4)) : Same (hid s H1) (hid s (upd H4 D o)) := fun b u e => by
  obtain ⟨e1, e2⟩ := hid_of e
  obtain ⟨e3, _⟩ := hid_of (k _ _ e)
  exact hid_to (upd_off (ne_of_none e1 hn) e3) e2
/-! ## Draws -/
local macro_rules | `(tactic| mem_news) => `(tactic| first
  | assumption | exact Same.refl _
  | (refine Same.trans ?_ (same_new (by assumption)); mem_news)
  | (refine Same.trans ?_ (by assumption); mem_news)
  | (refine hid_mono ?_; mem_news)
  | (refine Same.trans ?_ (hid_mono (same_new (by assumption))); mem_news)
  | (refine Same.trans ?_ (hid_mono (by assumption)); mem_news)
  | (refine same_step (by nest_room) ?_; mem_news)
  | (refine hid_step (by nest_room) ?_; mem_news)
  | (refine nw_wide0 ?_ ?_ <;> mem_news)
  | (refine nw_wide (by assumption) ?_ ?_ <;> mem_news)
  | (refine nw_hidw (by leaf_len) ?_; mem_news)
  | (refine Same.trans nw_same ?_; mem_news)
  | (refine Same.trans hid_same ?_; mem_news))
local macro_rules | `(tactic| leaf_len) => `(tactic| first | assumption | (refine Dr.same (by assumption) ?_; mem_news))
local macro_rules | `(tactic| nest_fact) => `(tactic| first | assumption | (refine Ne.symm ?_; assumption) | (refine ne_dr (by assumption) ?_; leaf_len))
local macro_rules | `(tactic| nest_room) => `(tactic| first | assumption | (refine free2 (by assumption) ?_; mem_news) | (refine dead2 (by assumption) (by leaf_len) ?_; mem_news))
local macro_rules | `(tactic| kct_strs) => `(tactic| first
  | assumption | exact upd_same | (refine upd_off (by assumption) ?_; kct_strs) | (refine upd_keep (by assumption) ?_; kct_strs) | (refine sget (by assumption) ?_; kct_strs) | (refine hget (by assumption) (by nest_fact) ?_; kct_strs)
  | (refine nw_to (by nest_room) ?_; kct_strs) | (refine hid_to ?_ (by nest_fact); kct_strs))
local macro_rules | `(tactic| one_item) => `(tactic| first
  | assumption | exact At.non | exact At.bl _ | exact At.int _ | exact At.str _ | exact Ats.nil
  | (refine At.mono ?_ (by assumption); mem_news) | (refine Ats.mono ?_ (by assumption); mem_news)
  | (refine At.tup (by kct_strs) ?_; one_item) | (refine At.lst (by kct_strs) ?_; one_item)
  | (refine Ats.cons ?_ ?_ <;> one_item))
local macro_rules | `(tactic| kbj_are) => `(tactic| first
  | with_reducible refine Stp.go ?_
  | (with_reducible refine q_var ?_; with_reducible refine i_var (by with_unfolding_all rfl) ?_)
  | with_reducible refine i_blV ?_
  | (with_reducible refine q_isi ?_; with_reducible refine i_isiT (by assumption) ?_)
  | (with_reducible refine q_ixL ?_; with_reducible refine i_ixL (sqL (by kct_strs)) (by with_unfolding_all rfl) ?_)
  | (with_reducible refine q_ixT ?_; with_reducible refine i_ixT (sqT (by kct_strs)) (by with_unfolding_all rfl) ?_)
  | (with_reducible refine q_setL ?_; with_reducible refine i_setL (by kct_strs) (by with_unfolding_all rfl) ?_)
  | (with_reducible refine q_mul ?_; with_reducible refine i_mul (by first | exact cmul_r (by omega) (by omega) | exact cmul_l (by omega) (by omega)) ?_)
  | (with_reducible refine q_div ?_; with_reducible refine i_div (by exact cdiv (by omega) (by omega)) ?_)
  | (with_reducible refine q_mod ?_; with_reducible refine i_mod (by omega) ?_)
  | (with_reducible refine q_len ?_; first | with_reducible refine i_lenL (sqL (by kct_strs)) ?_ | with_reducible refine i_lenT (sqT (by kct_strs)) ?_)
  | (with_reducible refine q_app ?_; with_reducible refine i_app (by kct_strs) ?_)
  | (with_reducible refine q_pow ?_; with_reducible refine i_pow (by first | exact cpow10 (by omega) (by omega) | exact cpow2 (by omega) (by omega)) ?_)
  | (with_reducible refine q_shl ?_; with_reducible refine i_shl (by first | exact cpow1 (by omega) (by omega) | exact cpow2 (by omega) (by omega)) ?_)
  | (with_reducible refine q_seqG ?_; with_reducible refine i_seqG (by with_unfolding_all rfl) ?_)
  | (with_reducible refine q_aug ?_; with_reducible refine i_aug (by with_unfolding_all rfl) ?_)
  | (with_reducible refine q_gtup ?_; with_reducible refine i_gtup (sqT (by kct_strs)) (by with_unfolding_all rfl) ?_)
  | with_reducible refine i_disp1 (fun p hp => ?_)
  | (with_reducible refine q_sz ?_; with_reducible refine ⟨sz (by simp), fun p hp => ?_⟩))
local macro_rules | `(tactic| fold_lay) => `(tactic| repeat kbj_are)
local macro_rules | `(tactic| fold_depth) => `(tactic| (with_reducible refine i_seq ?_; fold_lay))
local macro_rules | `(tactic| kbj_rows) => `(tactic| repeat (first | kbj_are | with_reducible refine i_seq ?_))
/-! ### the promises of the draws -/
def sp_next_cell : Sp := fun vs H Q _ => ∃ (d s : Addr), vs = [.ref d] ∧ Dr d s H ∧ ∀ H', Dr d s H' → Same (hid s H) (hid s H') → Q .non H'
def sp_mixed : Sp := fun vs H Q _ => ∃ (e t m : Int), vs = [.int e, .int t, .int m] ∧ 0 < m ∧ ∀ v, 0 ≤ v → v < m → Q (.int v) H
/-- below 2 the draw is 0 -/
def sp_take : Sp := fun vs H Q _ => ∃ (d s : Addr) (m : Int), vs = [.ref d, .int m] ∧ Dr d s H ∧ m ≤ 10000000000000000000000000000000000000000000000000000000000000000000000 ∧
  ∀ v H', 0 ≤ v → (v < m ∨ v = 0) → Dr d s H' → Same (hid s H) (hid s H') → Q (.int v) H'
def N_l_next_cell : List Str := ["_law_draws_here", "_law_cells", "_law_state", "_law_cell"]
def t_l_next_cell (K : PySem.W.Frag) : TS := (tSeq (tAsg (tOp (rIxL K) (tVar 0) (tC (.int 0))) (gName 1))
  (tSeq (tAsg (tOp (rIxL K) (tVar 0) (tC (.int 1))) (gName 2))
  (tIfS (tTest (tOp oLt (tOp (rIxL K) (tVar 2) (tC (.int 0))) (tCB (rLen K) (tCons (tVar 1) tNil)))) (tSeq (tAsg (tCB rInt1 (tCons (tOp (rIxL K) (tVar 1) (tOp (rIxL K) (tVar 2) (tC (.int 0)))) tNil)) (gName 3))
  (tSeq (tAsg (tOp oAdd (tOp (rIxL K) (tVar 2) (tC (.int 0))) (tC (.int 1))) (gSub (tVar 2) (tC (.int 0)) rSetL))
  (tSeq (tAsg (tOp oMod (tCB rInt1 (tCons (tOp oAdd (tOp oAdd (tOp oMul (tOp (rIxL K) (tVar 2) (tC (.int 4))) (tC (.int 31))) (tOp oMod (tVar 3) (tC (.int 2147483647)))) (tC (.int 1))) tNil)) (tC (.int 2147483647))) (gSub (tVar 2) (tC (.int 4)) rSetL))
  (tIfS (tTest (tOp oGe (tVar 3) (tOp oPow (tC (.int 10)) (tC (.int 18))))) (tAsg (tVar 3) (gSub (tVar 2) (tC (.int 1)) rSetL)) (tAsg (tC (.int 2)) (gSub (tVar 2) (tC (.int 2)) rSetL)))))) tNext)))
theorem pure_next_cell {K : PySem.W.Frag} {vs : List V} {H : Hp} {Q : VK} {E : XK} (h : sp_next_cell vs H Q E) : t_l_next_cell K { nx := fun _ H' => Q .non H', rt := Q } (start N_l_next_cell vs) H := by
  obtain ⟨d, s, rfl, hD, k⟩ := h
  obtain ⟨c, cs, p, b, n, t, e, h1, h2, h3, h4, h5, h6, h7, h8⟩ := id hD
  have fin : ∀ (H' : Hp) (p' b' n' t' e' : Int), H' s = some (.lst [.int p', .int b', .int n', .int t', .int e']) → (∀ q, q ≠ s → H' q = H q) → 0 ≤ p' → 0 ≤ b' → Q .non H' := fun H' p' b' n' t' e' hs hk hp hb =>
    k H' ⟨c, cs, p', b', n', t', e', by rw [hk _ h4]; exact h1, by rw [hk _ h5]; exact h2, hs, h4, h5, hp, hb, h8⟩ fun q o hq => by
      obtain ⟨q1, q2⟩ := hid_of hq
      exact hid_to (by rw [hk _ q2]; exact q1) q2
  unfold t_l_next_cell
  fold_lay
  refine i_ifd (fun hlt => ?_) (fun hlt => ?_)
  · have hx : ∃ z, cs[p.toNat]? = some z := by
      rw [List.length_map] at hlt
      exact ⟨cs[p.toNat]'(by omega), List.getElem?_eq_getElem _⟩
    obtain ⟨z, hz⟩ := hx
    fold_lay
    refine i_ixL (sqL (by kct_strs)) (at_of (j := p.toNat) (by omega) (by rw [List.getElem?_map, hz]; rfl)) ?_
    fold_lay
    refine i_ifd (fun hge => ?_) (fun hge => ?_)
    · fold_lay
      refine fin _ (p + 1) z n t _ upd_same (fun q hq => by rw [upd_ne hq, upd_ne hq, upd_ne hq]) (by omega) ?_
      have : (0 : Int) ≤ 10 ^ (18 : Int).toNat := by decide
      omega
    · fold_lay
      exact fin _ (p + 1) b 2 t _ upd_same (fun q hq => by rw [upd_ne hq, upd_ne hq, upd_ne hq]) (by omega) h7
  · fold_lay
    exact fin _ p b n t e h3 (fun _ _ => rfl) h6 h7

def N_l_mixed : List Str := ["_law_seed", "_law_turn", "_law_many", "_law_value", "_law_k", "_law_first", "_law_second"]
def t_l_mixed (K : PySem.W.Frag) : TS := (tSeq (tAsg (tC (.int 0)) (gName 3))
  (tSeq (tFor (iRng1 (tCons (tC (.int 2)) tNil)) (gName 4) (tSeq (tAsg (tOp oMod (tCB rInt1 (tCons (tOp oMul (tOp oAdd (tOp oAdd (tVar 0) (tC (.int 7))) (tOp oMul (tOp oAdd (tOp oMul (tC (.int 2)) (tVar 1)) (tVar 4)) (tC (.int 1000003)))) (tC (.int 48271))) tNil)) (tC (.int 2147483647))) (gName 5))
  (tSeq (tAsg (tOp oMod (tCB rInt1 (tCons (tOp oAdd (tOp oAdd (tOp oMul (tVar 5) (tVar 5)) (tOp oMul (tOp oDiv (tVar 5) (tC (.int 3571))) (tC (.int 69621)))) (tVar 1)) tNil)) (tC (.int 2147483399))) (gName 6))
  (tAsg (tOp oAdd (tOp oMul (tVar 3) (tC (.int 126322553))) (tOp oDiv (tVar 6) (tC (.int 17)))) (gName 3)))))
  (tRet (tOp oMod (tCB rInt1 (tCons (tVar 3) tNil)) (tVar 2)))))
theorem pure_mixed {K : PySem.W.Frag} {vs : List V} {H : Hp} {Q : VK} {E : XK} (h : sp_mixed vs H Q E) : t_l_mixed K { nx := fun _ H' => Q .non H', rt := Q } (start N_l_mixed vs) H := by
  obtain ⟨e, t, m, rfl, hm, k⟩ := h
  unfold t_l_mixed
  fold_lay
  fold_depth
  refine f_rng1 (by omega) (by omega) (l_rng (fun i σ H' => H' = H ∧ ∃ (v : Int) (x1 x2 x3 : Option V), σ = [some (.int e), some (.int t), some (.int m), some (.int v), x1, x2, x3]) ⟨rfl, 0, none, none, none, rfl⟩ ?_ ?_)
  · rintro i σ H' hi ⟨rfl, v, x1, x2, x3, rfl⟩
    fold_lay
    exact ⟨rfl, _, _, _, _, rfl⟩
  · rintro σ H' ⟨rfl, v, x1, x2, x3, rfl⟩
    fold_lay
    exact k _ (Int.emod_nonneg _ (by omega)) (Int.emod_lt_of_pos _ hm)
theorem c_next_cell {d s : Addr} {H : Hp} {Q : VK} {E : XK} (hD : Dr d s H) (h : ∀ H', Dr d s H' → Same (hid s H) (hid s H') → Q .non H') : sp_next_cell [.ref d] H Q E := ⟨d, s, rfl, hD, h⟩
theorem c_take {d s : Addr} {m : Int} {H : Hp} {Q : VK} {E : XK} (hD : Dr d s H) (hm : m ≤ 10000000000000000000000000000000000000000000000000000000000000000000000) (h : ∀ v H', 0 ≤ v → (v < m ∨ v = 0) → Dr d s H' → Same (hid s H) (hid s H') → Q (.int v) H') : sp_take [.ref d, .int m] H Q E := ⟨d, s, m, rfl, hD, hm, h⟩
def N_l_take : List Str := ["_law_draws_here", "_law_many", "_law_state", "_law_value"]
def t_l_take (K : PySem.W.Frag) : TS := (tSeq (tIfS (tTest (tOp oLt (tVar 1) (tC (.int 2)))) (tRet (tC (.int 0))) tNext)
  (tSeq (tAsg (tOp (rIxL K) (tVar 0) (tC (.int 1))) (gName 2))
  (tSeq (tAsg (tOp oAdd (tOp (rIxL K) (tVar 2) (tC (.int 3))) (tC (.int 1))) (gSub (tVar 2) (tC (.int 3)) rSetL))
  (tSeq (tIfS (tAnd (tTest (tOp oLt (tOp (rIxL K) (tVar 2) (tC (.int 1))) (tC (.int 2)))) (tTest (tOp oLt (tOp (rIxL K) (tVar 2) (tC (.int 2))) (tC (.int 1))))) (tDrop (tCall sp_next_cell [] E0 (tCons (tVar 0) tNil))) tNext)
  (tSeq (tIfS (tTest (tOp oGt (tOp (rIxL K) (tVar 2) (tC (.int 1))) (tC (.int 1)))) (tSeq (tAsg (tOp oMod (tCB rInt1 (tCons (tOp (rIxL K) (tVar 2) (tC (.int 1))) tNil)) (tVar 1)) (gName 3))
  (tSeq (tAsg (tOp oDiv (tOp (rIxL K) (tVar 2) (tC (.int 1))) (tVar 1)) (gSub (tVar 2) (tC (.int 1)) rSetL))
  (tRet (tVar 3)))) tNext)
  (tSeq (tIfS (tTest (tOp oGt (tOp (rIxL K) (tVar 2) (tC (.int 2))) (tC (.int 0)))) (tAsg (tOp oSub (tOp (rIxL K) (tVar 2) (tC (.int 2))) (tC (.int 1))) (gSub (tVar 2) (tC (.int 2)) rSetL)) tNext)
  (tRet (tCall sp_mixed [] E0 (tCons (tOp (rIxL K) (tVar 2) (tC (.int 4))) (tCons (tOp (rIxL K) (tVar 2) (tC (.int 3))) (tCons (tVar 1) tNil)))))))))))
theorem pure_take {K : PySem.W.Frag} {vs : List V} {H : Hp} {Q : VK} {E : XK} (h : sp_take vs H Q E) : t_l_take K { nx := fun _ H' => Q .non H', rt := Q } (start N_l_take vs) H := by
  obtain ⟨d, s, m, rfl, hD, hm, k⟩ := h
  unfold t_l_take
  fold_depth
  refine i_ifd (fun h2 => ?_) (fun h2 => ?_)
  · fold_lay
    exact k 0 H (by omega) (.inr rfl) hD (Same.refl _)
  obtain ⟨c, cs, p, b, n, t, e, a1, a2, a3, a4, a5, a6, a7, a8⟩ := id hD
  have mk : ∀ (H' : Hp) (p' b' n' t' e' : Int), H' s = some (.lst [.int p', .int b', .int n', .int t', .int e']) → (∀ q, q ≠ s → H' q = H q) → 0 ≤ p' → 0 ≤ b' → Dr d s H' ∧ Same (hid s H) (hid s H') := fun H' p' b' n' t' e' hs hk hp hb =>
    ⟨⟨c, cs, p', b', n', t', e', by rw [hk _ a4]; exact a1, by rw [hk _ a5]; exact a2, hs, a4, a5, hp, hb, a8⟩, fun q o hq => by
      obtain ⟨q1, q2⟩ := hid_of hq
      exact hid_to (by rw [hk _ q2]; exact q1) q2⟩
  fold_lay
  refine i_cut (fun σ' H' => σ' = [some (.ref d), some (.int m), some (.ref s), none] ∧ Dr d s H' ∧ Same (hid s H) (hid s H')) ?_ (fun nx key => ?_)
  · rintro σ' H2 ⟨rfl, hD2, s2⟩
    obtain ⟨c, cs, p, b, n, t, e, b1, b2, b3, b4, b5, b6, b7, b8⟩ := id hD2
    fold_depth
    refine i_ifd (fun h3 => ?_) (fun h3 => ?_)
    · fold_lay
      refine k _ _ (Int.emod_nonneg _ (by omega)) (.inl (Int.emod_lt_of_pos _ (by omega))) ⟨c, cs, p, b / m, n, t, e, by kct_strs, by kct_strs, upd_same, b4, b5, b6, Int.ediv_nonneg b7 (by omega), b8⟩ ?_
      rw [hid_upd]
      exact s2
    fold_lay
    refine i_cut (fun σ' H' => σ' = [some (.ref d), some (.int m), some (.ref s), none] ∧ Dr d s H' ∧ Same (hid s H) (hid s H')) ?_ (fun nx key => ?_)
    · rintro σ' H3 ⟨rfl, hD3, s3⟩
      obtain ⟨c, cs, p, b, n, t, e, c1, c2, c3, c4, c5, c6, c7, c8⟩ := id hD3
      fold_lay
      exact ⟨_, _, _, rfl, by omega, fun v v0 v1 => k v H3 v0 (.inl v1) hD3 s3⟩
    · fold_lay
      refine i_ifd (fun h4 => ?_) (fun h4 => ?_)
      · fold_lay
        refine key _ _ ⟨rfl, ⟨c, cs, p, b, n - 1, t, e, by kct_strs, by kct_strs, upd_same, b4, b5, b6, b7, b8⟩, ?_⟩
        rw [hid_upd]
        exact s2
      · fold_lay
        exact key _ _ ⟨rfl, hD2, s2⟩
  · have mm := mk (upd H s (.lst [.int p, .int b, .int n, .int (t + 1), .int e])) p b n (t + 1) e upd_same (fun q hq => by rw [upd_ne hq]) a6 a7
    fold_lay
    refine i_ifd (fun h3 => ?_) (fun h3 => ?_)
    · fold_lay
      refine i_ifd (fun h4 => ?_) (fun h4 => ?_)
      · fold_lay
        exact c_next_cell mm.1 fun H' d1 d2 => key _ _ ⟨rfl, d1, mm.2.trans d2⟩
      · fold_lay
        exact key _ _ ⟨rfl, mm⟩
    · fold_lay
      exact key _ _ ⟨rfl, mm⟩
/-! ## Draws2 -/
/-! ### between, number, count, alignment, power, long -/
def sp_between : Sp := fun vs H Q _ => ∃ (d s : Addr) (lo hi : Int), vs = [.ref d, .int lo, .int hi] ∧ Dr d s H ∧ hi - lo ≤ 1000000000000000000000000000000000000000000000000000000000000000000000 ∧
  ∀ v H', lo ≤ v → (v ≤ hi ∨ v = lo) → Dr d s H' → Same (hid s H) (hid s H') → Q (.int v) H'
theorem c_between {d s : Addr} {lo hi : Int} {H : Hp} {Q : VK} {E : XK} (hD : Dr d s H) (hm : hi - lo ≤ 1000000000000000000000000000000000000000000000000000000000000000000000) (h : ∀ v H', lo ≤ v → (v ≤ hi ∨ v = lo) → Dr d s H' → Same (hid s H) (hid s H') → Q (.int v) H') : sp_between [.ref d, .int lo, .int hi] H Q E := ⟨d, s, lo, hi, rfl, hD, hm, h⟩
def N_l_between : List Str := ["_law_draws_here", "_law_low", "_law_high", "_law_kind"]
def t_l_between (K : PySem.W.Frag) : TS := (tSeq (tIfS (tTest (tOp oLe (tVar 2) (tVar 1))) (tRet (tVar 1)) tNext)
  (tSeq (tAsg (tCall sp_take [] E0 (tCons (tVar 0) (tCons (tC (.int 6)) tNil))) (gName 3))
  (tSeq (tIfS (tTest (tOp rEq (tVar 3) (tC (.int 0)))) (tRet (tVar 1)) tNext)
  (tSeq (tIfS (tTest (tOp rEq (tVar 3) (tC (.int 1)))) (tRet (tVar 2)) tNext)
  (tRet (tOp oAdd (tVar 1) (tCall sp_take [] E0 (tCons (tVar 0) (tCons (tOp oAdd (tOp oSub (tVar 2) (tVar 1)) (tC (.int 1))) tNil)))))))))
theorem pure_between {K : PySem.W.Frag} {vs : List V} {H : Hp} {Q : VK} {E : XK} (h : sp_between vs H Q E) : t_l_between K { nx := fun _ H' => Q .non H', rt := Q } (start N_l_between vs) H := by
  obtain ⟨d, s, lo, hi, rfl, hD, hm, k⟩ := h
  unfold t_l_between
  fold_depth
  refine i_ifd (fun h1 => ?_) (fun h1 => ?_)
  · fold_lay
    exact k _ _ (by omega) (.inr rfl) hD (Same.refl _)
  fold_lay
  refine c_take hD (by omega) fun v H1 v0 v1 hD1 s1 => ?_
  fold_lay; fold_depth
  refine i_ifd (fun h2 => ?_) (fun h2 => ?_)
  · fold_lay
    exact k _ _ (by omega) (.inr rfl) hD1 s1
  fold_lay; fold_depth
  refine i_ifd (fun h3 => ?_) (fun h3 => ?_)
  · fold_lay
    exact k _ _ (by omega) (.inl (by omega)) hD1 s1
  fold_lay
  refine c_take hD1 (by omega) fun w H2 w0 w1 hD2 s2 => ?_
  fold_lay
  exact k _ _ (by omega) (.inl (by omega)) hD2 (s1.trans s2)
def sp_alignment : Sp := fun vs H Q _ => ∃ (d s : Addr) (m : Int), vs = [.ref d, .int m] ∧ Dr d s H ∧ 0 ≤ m ∧ m ≤ 1000 ∧
  ∀ (k : Nat) H', (k : Int) ≤ m → Dr d s H' → Same (hid s H) (hid s H') → Q (.int (2 ^ k)) H'
theorem c_alignment {d s : Addr} {m : Int} {H : Hp} {Q : VK} {E : XK} (hD : Dr d s H) (h0 : 0 ≤ m) (h1 : m ≤ 1000) (h : ∀ (k : Nat) H', (k : Int) ≤ m → Dr d s H' → Same (hid s H) (hid s H') → Q (.int (2 ^ k)) H') : sp_alignment [.ref d, .int m] H Q E := ⟨d, s, m, rfl, hD, h0, h1, h⟩
theorem pow_succ2 (k : Nat) : (2 : Int) ^ k * 2 = 2 ^ (k + 1) := (Int.pow_succ 2 k).symm
def N_l_alignment : List Str := ["_law_draws_here", "_law_most", "_law_value", "_law_k"]
def t_l_alignment (K : PySem.W.Frag) : TS := (tSeq (tAsg (tC (.int 1)) (gName 2))
  (tSeq (tFor (iRng1 (tCons (tCall sp_between [] E0 (tCons (tVar 0) (tCons (tC (.int 0)) (tCons (tVar 1) tNil)))) tNil)) (gName 3) (tAsg (tOp oMul (tVar 2) (tC (.int 2))) (gName 2)))
  (tRet (tVar 2))))
theorem pure_alignment {K : PySem.W.Frag} {vs : List V} {H : Hp} {Q : VK} {E : XK} (h : sp_alignment vs H Q E) : t_l_alignment K { nx := fun _ H' => Q .non H', rt := Q } (start N_l_alignment vs) H := by
  obtain ⟨d, s, m, rfl, hD, h0, h1, k⟩ := h
  unfold t_l_alignment
  fold_lay; fold_depth
  refine c_between hD (by omega) fun v H1 v0 v1 hD1 s1 => ?_
  fold_lay
  refine f_rng1 (by omega) (by omega) (l_rng (fun i σ H' => H' = H1 ∧ ∃ x, σ = [some (.ref d), some (.int m), some (.int (2 ^ i)), x]) ⟨rfl, none, rfl⟩ ?_ ?_)
  · rintro i σ H' hi ⟨rfl, x, rfl⟩
    fold_lay
    rw [pow_succ2]
    exact ⟨rfl, _, rfl⟩
  · rintro σ H' ⟨rfl, x, rfl⟩
    fold_lay
    exact k _ _ (by omega) hD1 s1
def sp_power : Sp := fun vs H Q _ => ∃ (m : Int), vs = [.int m] ∧ 0 ≤ m ∧ m ≤ 100000 ∧ Q (.int (2 ^ m.toNat)) H
def N_l_power : List Str := ["_law_number_here", "_law_value", "_law_k"]
def t_l_power (K : PySem.W.Frag) : TS := (tSeq (tAsg (tC (.int 1)) (gName 1))
  (tSeq (tFor (iRng1 (tCons (tVar 0) tNil)) (gName 2) (tAsg (tOp oMul (tVar 1) (tC (.int 2))) (gName 1)))
  (tRet (tVar 1))))
theorem pure_power {K : PySem.W.Frag} {vs : List V} {H : Hp} {Q : VK} {E : XK} (h : sp_power vs H Q E) : t_l_power K { nx := fun _ H' => Q .non H', rt := Q } (start N_l_power vs) H := by
  obtain ⟨m, rfl, h0, h1, k⟩ := h
  unfold t_l_power
  fold_lay; fold_depth
  refine f_rng1 (by omega) (by omega) (l_rng (fun i σ H' => H' = H ∧ ∃ x, σ = [some (.int m), some (.int (2 ^ i)), x]) ⟨rfl, none, rfl⟩ ?_ ?_)
  · rintro i σ H' hi ⟨rfl, x, rfl⟩
    fold_lay
    rw [pow_succ2]
    exact ⟨rfl, _, rfl⟩
  · rintro σ H' ⟨rfl, x, rfl⟩
    fold_lay
    exact k
def sp_number : Sp := fun vs H Q _ => ∃ (d s : Addr) (lo hi : Int), vs = [.ref d, .int lo, .int hi] ∧ Dr d s H ∧ lo ≤ hi ∧ hi - lo ≤ 100000000000000000000000000000000000000000000000000000000000000000000 ∧
  ∀ v H', lo ≤ v → v ≤ hi → Dr d s H' → Same (hid s H) (hid s H') → Q (.int v) H'
theorem c_number {d s : Addr} {lo hi : Int} {H : Hp} {Q : VK} {E : XK} (hD : Dr d s H) (hl : lo ≤ hi) (hm : hi - lo ≤ 100000000000000000000000000000000000000000000000000000000000000000000) (h : ∀ v H', lo ≤ v → v ≤ hi → Dr d s H' → Same (hid s H) (hid s H') → Q (.int v) H') : sp_number [.ref d, .int lo, .int hi] H Q E := ⟨d, s, lo, hi, rfl, hD, hl, hm, h⟩
theorem two_pow_pos (k : Nat) : (0 : Int) < 2 ^ k := Int.pow_pos (by decide)
def N_l_number : List Str := ["_law_draws_here", "_law_low", "_law_high", "_law_kind"]
def t_l_number (K : PySem.W.Frag) : TS := (tSeq (tIfS (tTest (tOp oLt (tOp oSub (tVar 2) (tVar 1)) (tC (.int 16)))) (tRet (tCall sp_between [] E0 (tCons (tVar 0) (tCons (tVar 1) (tCons (tVar 2) tNil))))) tNext)
  (tSeq (tAsg (tCall sp_take [] E0 (tCons (tVar 0) (tCons (tC (.int 8)) tNil))) (gName 3))
  (tSeq (tIfS (tTest (tOp oLt (tVar 3) (tC (.int 4)))) (tRet (tOp (rIxL K) (tLst (tCons (tVar 1) (tCons (tVar 2) (tCons (tOp oAdd (tVar 1) (tC (.int 1))) (tCons (tOp oSub (tVar 2) (tC (.int 1))) tNil))))) (tVar 3))) tNext)
  (tSeq (tIfS (tTest (tOp oLt (tVar 3) (tC (.int 6)))) (tRet (tOp oAdd (tVar 1) (tCall sp_take [] E0 (tCons (tVar 0) (tCons (tOp oAdd (tCB rMin2 (tCons (tOp oSub (tVar 2) (tVar 1)) (tCons (tC (.int 40)) tNil))) (tC (.int 1))) tNil))))) tNext)
  (tSeq (tIfS (tTest (tOp rEq (tVar 3) (tC (.int 6)))) (tRet (tCB rMax2 (tCons (tVar 1) (tCons (tCB rMin2 (tCons (tVar 2) (tCons (tOp oSub (tOp oAdd (tCall sp_alignment [] E0 (tCons (tVar 0) (tCons (tC (.int 30)) tNil))) (tCall sp_take [] E0 (tCons (tVar 0) (tCons (tC (.int 3)) tNil)))) (tC (.int 1))) tNil))) tNil)))) tNext)
  (tRet (tOp oAdd (tVar 1) (tCall sp_take [] E0 (tCons (tVar 0) (tCons (tOp oAdd (tOp oSub (tVar 2) (tVar 1)) (tC (.int 1))) tNil))))))))))
theorem pure_number {K : PySem.W.Frag} {vs : List V} {H : Hp} {Q : VK} {E : XK} (h : sp_number vs H Q E) : t_l_number K { nx := fun _ H' => Q .non H', rt := Q } (start N_l_number vs) H := by
  obtain ⟨d, s, lo, hi, rfl, hD, hl, hm, k⟩ := h
  unfold t_l_number
  fold_depth
  refine i_ifd (fun h1 => ?_) (fun h1 => ?_)
  · fold_lay
    exact c_between hD (by omega) fun v H1 v0 v1 hD1 s1 => k _ _ v0 (by omega) hD1 s1
  fold_lay
  refine c_take hD (by omega) fun v H1 v0 v1 hD1 s1 => ?_
  fold_lay; fold_depth
  refine i_ifd (fun h2 => ?_) (fun h2 => ?_)
  · fold_lay
    rename_i p hp
    have fin : ∀ x, lo ≤ x → x ≤ hi → Q (.int x) (upd H1 p (.lst [.int lo, .int hi, .int (lo + 1), .int (hi - 1)])) := fun x x0 x1 => k _ _ x0 x1 (hD1.same (same_new hp)) (s1.trans (hid_mono (same_new hp)))
    have hv : v = 0 ∨ v = 1 ∨ v = 2 ∨ v = 3 := by omega
    rcases hv with rfl | rfl | rfl | rfl
    · fold_lay; exact fin _ (by omega) (by omega)
    · fold_lay; exact fin _ (by omega) (by omega)
    · fold_lay; exact fin _ (by omega) (by omega)
    · fold_lay; exact fin _ (by omega) (by omega)
  fold_lay; fold_depth
  refine i_ifd (fun h3 => ?_) (fun h3 => ?_)
  · fold_lay
    refine c_take hD1 (by split <;> omega) fun w H2 w0 w1 hD2 s2 => ?_
    fold_lay
    refine k _ _ (by omega) ?_ hD2 (s1.trans s2)
    split at w1 <;> omega
  fold_lay; fold_depth
  refine i_ifd (fun h4 => ?_) (fun h4 => ?_)
  · fold_lay
    refine c_alignment hD1 (by omega) (by omega) fun j H2 j1 hD2 s2 => ?_
    fold_lay
    refine c_take hD2 (by omega) fun w H3 w0 w1 hD3 s3 => ?_
    fold_lay
    have hp := two_pow_pos j
    generalize (2 : Int) ^ j = z at hp
    refine k _ _ ?_ ?_ hD3 ((s1.trans s2).trans s3)
    · split
      · omega
      · omega
    · split
      · split <;> omega
      · omega
  fold_lay
  refine c_take hD1 (by omega) fun w H2 w0 w1 hD2 s2 => ?_
  fold_lay
  exact k _ _ (by omega) (by omega) hD2 (s1.trans s2)
def sp_count : Sp := fun vs H Q _ => ∃ (d s : Addr) (lo hi : Int), vs = [.ref d, .int lo, .int hi] ∧ Dr d s H ∧ 0 ≤ lo ∧ lo ≤ hi ∧ hi ≤ 100000000000000000000000000000000000000000000000000000000000000000000 ∧
  ∀ v H', 0 ≤ v → v ≤ hi → Dr d s H' → Same (hid s H) (hid s H') → Q (.int v) H'
theorem c_count {d s : Addr} {lo hi : Int} {H : Hp} {Q : VK} {E : XK} (hD : Dr d s H) (h0 : 0 ≤ lo) (hl : lo ≤ hi) (hm : hi ≤ 100000000000000000000000000000000000000000000000000000000000000000000) (h : ∀ v H', 0 ≤ v → v ≤ hi → Dr d s H' → Same (hid s H) (hid s H') → Q (.int v) H') : sp_count [.ref d, .int lo, .int hi] H Q E := ⟨d, s, lo, hi, rfl, hD, h0, hl, hm, h⟩
def N_l_count : List Str := ["_law_draws_here", "_law_small", "_law_great"]
def t_l_count (K : PySem.W.Frag) : TS := (tSeq (tIfS (tTest (tOp rEq (tCall sp_take [] E0 (tCons (tVar 0) (tCons (tC (.int 8)) tNil))) (tC (.int 7)))) (tRet (tCall sp_between [] E0 (tCons (tVar 0) (tCons (tVar 1) (tCons (tVar 2) tNil))))) tNext)
  (tRet (tCall sp_between [] E0 (tCons (tVar 0) (tCons (tC (.int 0)) (tCons (tVar 1) tNil))))))
theorem pure_count {K : PySem.W.Frag} {vs : List V} {H : Hp} {Q : VK} {E : XK} (h : sp_count vs H Q E) : t_l_count K { nx := fun _ H' => Q .non H', rt := Q } (start N_l_count vs) H := by
  obtain ⟨d, s, lo, hi, rfl, hD, h0, hl, hm, k⟩ := h
  unfold t_l_count
  fold_depth
  refine c_take hD (by omega) fun v H1 v0 v1 hD1 s1 => ?_
  fold_lay
  refine i_ifd (fun h1 => ?_) (fun h1 => ?_)
  · fold_lay
    exact c_between hD1 (by omega) fun v H2 v0 v1 hD2 s2 => k _ _ (by omega) (by omega) hD2 (s1.trans s2)
  · fold_lay
    exact c_between hD1 (by omega) fun v H2 v0 v1 hD2 s2 => k _ _ (by omega) (by omega) hD2 (s1.trans s2)
/-! ## Draws3 -/
/-! ### what is out of a range -/
def lng : Int := 10 ^ 999
theorem lng_big : 10000000000000000000000000000000000000000000000000000000000000000000000 < lng := by decide +kernel
theorem ten_lt (n : Nat) : ((10 : Int) ^ n).natAbs < 2 ^ (4 * n + 1) := by
  rw [Int.natAbs_pow]
  have h : (10 : Int).natAbs ^ n ≤ (2 ^ 4) ^ n := Nat.pow_le_pow_left (by decide) n
  rw [← Nat.pow_mul] at h
  exact Nat.lt_of_le_of_lt h (Nat.pow_lt_pow_right (by decide) (by omega))
def sp_long : Sp := fun vs H Q _ => vs = [] ∧ Q (.int lng) H
def N_l_long : List Str := ["_law_value", "_law_k"]
def t_l_long (K : PySem.W.Frag) : TS := (tSeq (tAsg (tOp oPow (tC (.int 10)) (tC (.int 39))) (gName 0))
  (tSeq (tFor (iRng1 (tCons (tC (.int 15)) tNil)) (gName 1) (tAsg (tOp oMulW (tVar 0) (tOp oPow (tC (.int 10)) (tC (.int 64)))) (gName 0)))
  (tRet (tVar 0))))
theorem pure_long {K : PySem.W.Frag} {vs : List V} {H : Hp} {Q : VK} {E : XK} (h : sp_long vs H Q E) : t_l_long K { nx := fun _ H' => Q .non H', rt := Q } (start N_l_long vs) H := by
  obtain ⟨rfl, k⟩ := h
  unfold t_l_long
  fold_lay; fold_depth
  refine f_rng1 (by omega) (by omega) (l_rng (fun i σ H' => H' = H ∧ ∃ x, σ = [some (.int (10 ^ (39 + 64 * i))), x]) ⟨rfl, none, rfl⟩ ?_ ?_)
  · rintro i σ H' hi ⟨rfl, x, rfl⟩
    have hi : i < 15 := hi
    fold_lay
    refine i_mulW (wide_mul (ten_lt _) (ten_lt _) (by omega) (by omega) ?_) ?_
    · show 4 * (39 + 64 * i) + 1 + (4 * 64 + 1) ≤ 1000000
      omega
    · fold_lay
      refine ⟨rfl, some (.int (0 + (i : Int))), ?_⟩
      have e : (10 : Int) ^ (39 + 64 * i) * 10 ^ (64 : Int).toNat = 10 ^ (39 + 64 * (i + 1)) := by
        rw [← Int.pow_add]
        rfl
      rw [e]
      rfl
  · rintro σ H' ⟨rfl, x, rfl⟩
    fold_lay
    exact k
def sp_not_integer : Sp := fun vs H Q _ => ∃ (d s : Addr), vs = [.ref d] ∧ Dr d s H ∧
  ∀ v dt H', At (nw H H') v dt → dt.isI = false → (dt.dep ≤ 1 ∧ dt.okd = true) → Dr d s H' → Same (hid s H) (hid s H') → Q v H'
theorem c_not_integer {d s : Addr} {H : Hp} {Q : VK} {E : XK} (hD : Dr d s H) (h : ∀ v dt H', At (nw H H') v dt → dt.isI = false → (dt.dep ≤ 1 ∧ dt.okd = true) → Dr d s H' → Same (hid s H) (hid s H') → Q v H') : sp_not_integer [.ref d] H Q E := ⟨d, s, rfl, hD, h⟩
def N_l_not_integer : List Str := ["_law_draws_here"]
def t_l_not_integer (K : PySem.W.Frag) : TS := (tRet (tOp (rIxL K) (tLst (tCons (tC (.bl true)) (tCons (tC (.bl false)) (tCons (tC .non) (tCons (tC (.str "")) (tCons (tC (.str "1")) (tCons (tC (.str "0")) (tCons (tLst tNil) (tCons (tTup tNil) (tCons (tLst (tCons (tC (.int 1)) tNil)) (tCons (tTup (tCons (tC (.int 0)) tNil)) (tCons (tDisp [((tC (.str "a")), (tC (.int 1)))]) tNil)))))))))))) (tCall sp_take [] E0 (tCons (tVar 0) (tCons (tC (.int 11)) tNil)))))
theorem pure_not_integer {K : PySem.W.Frag} {vs : List V} {H : Hp} {Q : VK} {E : XK} (h : sp_not_integer vs H Q E) : t_l_not_integer K { nx := fun _ H' => Q .non H', rt := Q } (start N_l_not_integer vs) H := by
  obtain ⟨d, s, rfl, hD, k⟩ := h
  unfold t_l_not_integer
  fold_lay
  rename_i p1 h1 p2 h2 p3 h3 p4 h4 p5 h5 p6 h6
  have s1 := same_new (o := .lst []) h1
  have s2 := s1.trans (same_new (o := .tup []) h2)
  have s3 := s2.trans (same_new (o := .lst [.int 1]) h3)
  have s4 := s3.trans (same_new (o := .tup [.int 0]) h4)
  have s5 := s4.trans (same_new (o := .dK [(Sum.inr "a", .int 1)]) h5)
  have n1 := hD.ne h1
  have n2 := (hD.same s1).ne h2
  have n3 := (hD.same s2).ne h3
  have n4 := (hD.same s3).ne h4
  have n5 := (hD.same s4).ne h5
  have s6 := s5.trans (same_new (o := .lst [.bl true, .bl false, .non, .str "", .str "1", .str "0", .ref p1, .ref p2, .ref p3, .ref p4, .ref p5]) h6)
  refine c_take (hD.same s6) (by omega) fun v H7 v0 v1 hD7 s7 => ?_
  have st : Same (hid s H) (hid s H7) := (hid_mono s6).trans s7
  have kp0 : ∀ q o, upd (upd (upd (upd (upd (upd H p1 (.lst [])) p2 (.tup [])) p3 (.lst [.int 1])) p4 (.tup [.int 0])) p5 (.dK [(Sum.inr "a", .int 1)])) p6 (.lst [.bl true, .bl false, .non, .str "", .str "1", .str "0", .ref p1, .ref p2, .ref p3, .ref p4, .ref p5]) q = some o → q ≠ s → hid s H7 q = some o := fun q o hq nq => s7 _ _ (hid_to hq nq)
  have kp : ∀ q o, upd (upd (upd (upd (upd (upd H p1 (.lst [])) p2 (.tup [])) p3 (.lst [.int 1])) p4 (.tup [.int 0])) p5 (.dK [(Sum.inr "a", .int 1)])) p6 (.lst [.bl true, .bl false, .non, .str "", .str "1", .str "0", .ref p1, .ref p2, .ref p3, .ref p4, .ref p5]) q = some o → q ≠ s → H q = none → nw H H7 q = some o := fun q o hq nq hn => nw_to hn (hid_same _ _ (kp0 q o hq nq))
  have a6 : H7 p6 = some (.lst [.bl true, .bl false, .non, .str "", .str "1", .str "0", .ref p1, .ref p2, .ref p3, .ref p4, .ref p5]) := hid_same _ _ (kp0 p6 _ upd_same ((hD.same s5).ne h6))
  have hv : v = 0 ∨ v = 1 ∨ v = 2 ∨ v = 3 ∨ v = 4 ∨ v = 5 ∨ v = 6 ∨ v = 7 ∨ v = 8 ∨ v = 9 ∨ v = 10 := by omega
  rcases hv with rfl | rfl | rfl | rfl | rfl | rfl | rfl | rfl | rfl | rfl | rfl
  · fold_lay; exact k _ _ _ (.bl true) rfl ⟨by decide, by decide⟩ hD7 st
  · fold_lay; exact k _ _ _ (.bl false) rfl ⟨by decide, by decide⟩ hD7 st
  · fold_lay; exact k _ _ _ .non rfl ⟨by decide, by decide⟩ hD7 st
  · fold_lay; exact k _ _ _ (.str _) rfl ⟨by decide, by decide⟩ hD7 st
  · fold_lay; exact k _ _ _ (.str _) rfl ⟨by decide, by decide⟩ hD7 st
  · fold_lay; exact k _ _ _ (.str _) rfl ⟨by decide, by decide⟩ hD7 st
  · fold_lay; exact k _ _ _ (.lst (kp p1 _ (by kct_strs) n1 (h1)) .nil) rfl ⟨by decide, by decide⟩ hD7 st
  · fold_lay; exact k _ _ _ (.tup (kp p2 _ (by kct_strs) n2 (s1.free h2)) .nil) rfl ⟨by decide, by decide⟩ hD7 st
  · fold_lay; exact k _ _ _ (.lst (kp p3 _ (by kct_strs) n3 (s2.free h3)) (.cons (.int 1) .nil)) rfl ⟨by decide, by decide⟩ hD7 st
  · fold_lay; exact k _ _ _ (.tup (kp p4 _ (by kct_strs) n4 (s3.free h4)) (.cons (.int 0) .nil)) rfl ⟨by decide, by decide⟩ hD7 st
  · fold_lay; exact k _ _ _ (.dic (kp p5 _ (by kct_strs) n5 (s4.free h5)) (.cons (.int 1) .nil)) rfl ⟨by decide, by decide⟩ hD7 st

def sp_not_within : Sp := fun vs H Q _ => ∃ (d s : Addr) (lo hi : Int), vs = [.ref d, .int lo, .int hi] ∧ Dr d s H ∧ -1000000000000 ≤ lo ∧ lo ≤ hi ∧ hi ≤ 1000000000000 ∧
  ∀ v dt H', At (nw H H') v dt → ¬ dt.inR lo hi → (dt.dep ≤ 1 ∧ dt.okd = true) → Dr d s H' → Same (hid s H) (hid s H') → Q v H'
theorem c_not_within {d s : Addr} {lo hi : Int} {H : Hp} {Q : VK} {E : XK} (hD : Dr d s H) (h1 : -1000000000000 ≤ lo) (h2 : lo ≤ hi) (h3 : hi ≤ 1000000000000)
    (h : ∀ v dt H', At (nw H H') v dt → ¬ dt.inR lo hi → (dt.dep ≤ 1 ∧ dt.okd = true) → Dr d s H' → Same (hid s H) (hid s H') → Q v H') : sp_not_within [.ref d, .int lo, .int hi] H Q E := ⟨d, s, lo, hi, rfl, hD, h1, h2, h3, h⟩
theorem out_int {i lo hi : Int} (h : i < lo ∨ hi < i) : ¬ (Dt.int i).inR lo hi := fun z => by
  obtain ⟨z1, z2⟩ := z
  omega
theorem ten30 : (10 : Int) ^ (30 : Int).toNat = 1000000000000000000000000000000 := by decide +kernel
def N_l_not_within : List Str := ["_law_draws_here", "_law_low", "_law_high", "_law_kind"]
def t_l_not_within (K : PySem.W.Frag) : TS := (tSeq (tAsg (tCall sp_take [] E0 (tCons (tVar 0) (tCons (tC (.int 7)) tNil))) (gName 3))
  (tSeq (tIfS (tTest (tOp oLt (tVar 3) (tC (.int 2)))) (tRet (tOp (rIxL K) (tLst (tCons (tOp oSub (tVar 1) (tC (.int 1))) (tCons (tOp oAdd (tVar 2) (tC (.int 1))) tNil))) (tVar 3))) tNext)
  (tSeq (tIfS (tTest (tOp rEq (tVar 3) (tC (.int 2)))) (tRet (tOp oAdd (tOp oAdd (tVar 2) (tC (.int 1))) (tCall sp_take [] E0 (tCons (tVar 0) (tCons (tOp oPow (tC (.int 10)) (tC (.int 30))) tNil))))) tNext)
  (tSeq (tIfS (tTest (tOp rEq (tVar 3) (tC (.int 3)))) (tRet (tOp oSub (tOp oSub (tVar 1) (tC (.int 1))) (tCall sp_take [] E0 (tCons (tVar 0) (tCons (tOp oPow (tC (.int 10)) (tC (.int 30))) tNil))))) tNext)
  (tSeq (tIfS (tTest (tOp rEq (tVar 3) (tC (.int 4)))) (tRet (tOp (rIxL K) (tLst (tCons (tCall sp_long [] E0 tNil) (tCons (tUn oNeg (tCall sp_long [] E0 tNil)) tNil))) (tCall sp_take [] E0 (tCons (tVar 0) (tCons (tC (.int 2)) tNil))))) tNext)
  (tRet (tCall sp_not_integer [] E0 (tCons (tVar 0) tNil))))))))
theorem pure_not_within {K : PySem.W.Frag} {vs : List V} {H : Hp} {Q : VK} {E : XK} (h : sp_not_within vs H Q E) : t_l_not_within K { nx := fun _ H' => Q .non H', rt := Q } (start N_l_not_within vs) H := by
  obtain ⟨d, s, lo, hi, rfl, hD, b1, b2, b3, k⟩ := h
  have kI : ∀ (i : Int) H', (i < lo ∨ hi < i) → Dr d s H' → Same (hid s H) (hid s H') → Q (.int i) H' := fun i H' hi' hD' hs' => k _ (.int i) _ (.int i) (out_int hi') ⟨Nat.zero_le _, rfl⟩ hD' hs'
  unfold t_l_not_within
  fold_lay
  refine c_take hD (by omega) fun v H1 v0 v1 hD1 s1 => ?_
  fold_lay; fold_depth
  refine i_ifd (fun h2 => ?_) (fun h2 => ?_)
  · fold_lay
    rename_i p hp
    have st : Same (hid s H) (hid s (upd H1 p (.lst [.int (lo - 1), .int (hi + 1)]))) := s1.trans (hid_mono (same_new hp))
    have dt := hD1.same (same_new (o := .lst [.int (lo - 1), .int (hi + 1)]) hp)
    have hv : v = 0 ∨ v = 1 := by omega
    rcases hv with rfl | rfl
    · fold_lay; exact kI _ _ (by omega) dt st
    · fold_lay; exact kI _ _ (by omega) dt st
  fold_lay; fold_depth
  refine i_ifd (fun h3 => ?_) (fun h3 => ?_)
  · fold_lay
    rw [ten30]
    refine c_take hD1 (by omega) fun w H2 w0 w1 hD2 s2 => ?_
    fold_lay
    exact kI _ _ (by omega) hD2 (s1.trans s2)
  fold_lay; fold_depth
  refine i_ifd (fun h4 => ?_) (fun h4 => ?_)
  · fold_lay
    rw [ten30]
    refine c_take hD1 (by omega) fun w H2 w0 w1 hD2 s2 => ?_
    fold_lay
    exact kI _ _ (by omega) hD2 (s1.trans s2)
  fold_lay; fold_depth
  refine i_ifd (fun h5 => ?_) (fun h5 => ?_)
  · fold_lay
    refine ⟨rfl, ?_⟩
    fold_lay
    refine ⟨rfl, ?_⟩
    fold_lay
    rename_i p hp
    have hb := lng_big
    generalize lng = z at hb
    have st : Same (hid s H) (hid s (upd H1 p (.lst [.int z, .int (-z)]))) := s1.trans (hid_mono (same_new hp))
    have dt := hD1.same (same_new (o := .lst [.int z, .int (-z)]) hp)
    refine c_take dt (by omega) fun w H2 w0 w1 hD2 s2 => ?_
    have a2 : H2 p = some (.lst [.int z, .int (-z)]) := hid_same _ _ (s2 _ _ (hid_to upd_same (hD1.ne hp)))
    have hv : w = 0 ∨ w = 1 := by omega
    rcases hv with rfl | rfl
    · fold_lay; exact kI _ _ (by omega) hD2 (st.trans s2)
    · fold_lay; exact kI _ _ (by omega) hD2 (st.trans s2)
  fold_lay
  exact c_not_integer hD1 fun v dt H2 a1 a2 a3 hD2 s2 => k _ _ _ (a1.mono (nw_old (alive hD1 s1))) (Dt.inR_of a2 _ _) a3 hD2 (s1.trans s2)
def sp_among (K : PySem.W.Frag) : Sp := fun vs H Q _ => ∃ (d s r : Addr) (xs : List V), vs = [.ref d, .ref r] ∧ Dr d s H ∧ H r = some (.lst xs) ∧ r ≠ s ∧ 0 < xs.length ∧ xs.length ≤ 100000 ∧
  ∀ v H', v ∈ xs → Dr d s H' → Same (hid s H) (hid s H') → Q v H'
theorem c_among {K : PySem.W.Frag} {d s r : Addr} {xs : List V} {H : Hp} {Q : VK} {E : XK} (hD : Dr d s H) (hr : H r = some (.lst xs)) (n : r ≠ s) (h0 : 0 < xs.length) (h1 : xs.length ≤ 100000)
    (h : ∀ v H', v ∈ xs → Dr d s H' → Same (hid s H) (hid s H') → Q v H') : sp_among K [.ref d, .ref r] H Q E := ⟨d, s, r, xs, rfl, hD, hr, n, h0, h1, h⟩
def N_l_among : List Str := ["_law_draws_here", "_law_row"]
def t_l_among (K : PySem.W.Frag) : TS := (tRet (tOp (rIxL K) (tVar 1) (tCall sp_take [] E0 (tCons (tVar 0) (tCons (tCB (rLen K) (tCons (tVar 1) tNil)) tNil)))))
theorem pure_among {K : PySem.W.Frag} {vs : List V} {H : Hp} {Q : VK} {E : XK} (h : sp_among K vs H Q E) : t_l_among K { nx := fun _ H' => Q .non H', rt := Q } (start N_l_among vs) H := by
  obtain ⟨d, s, r, xs, rfl, hD, hr, n, h0, h1, k⟩ := h
  unfold t_l_among
  fold_lay
  refine c_take hD (by omega) fun v H1 v0 v1 hD1 s1 => ?_
  have a1 : H1 r = some (.lst xs) := hid_same _ _ (s1 _ _ (hid_to hr n))
  refine i_amongL (sqL a1) v0 (by omega) (fun w hw => ?_)
  exact k _ _ (List.mem_of_getElem? hw) hD1 s1
def sp_not_alignment : Sp := fun vs H Q _ => ∃ (d s : Addr) (m : Int), vs = [.ref d, .int m] ∧ Dr d s H ∧ 1 ≤ m ∧ m ≤ 1000000000000 ∧
  ∀ v dt H', At (nw H H') v dt → ¬ dt.isAl m → (dt.dep ≤ 1 ∧ dt.okd = true) → Dr d s H' → Same (hid s H) (hid s H') → Q v H'
theorem c_not_alignment {d s : Addr} {m : Int} {H : Hp} {Q : VK} {E : XK} (hD : Dr d s H) (h1 : 1 ≤ m) (h2 : m ≤ 1000000000000)
    (h : ∀ v dt H', At (nw H H') v dt → ¬ dt.isAl m → (dt.dep ≤ 1 ∧ dt.okd = true) → Dr d s H' → Same (hid s H) (hid s H') → Q v H') : sp_not_alignment [.ref d, .int m] H Q E := ⟨d, s, m, rfl, hD, h1, h2, h⟩
theorem al_int {i m : Int} (h : i < 1 ∨ m < i) : ¬ (Dt.int i).isAl m := fun z => by
  obtain ⟨⟨k, z1⟩, z2⟩ := z
  have := two_pow_pos k
  omega
theorem al_odd {i m : Int} (h : i % 2 = 1) (h1 : i ≠ 1) : ¬ (Dt.int i).isAl m := fun z => by
  obtain ⟨⟨k, z1⟩, z2⟩ := z
  cases k with
  | zero => exact h1 z1
  | succ k =>
    rw [Int.pow_succ] at z1
    omega
theorem al_half {i m : Int} (h : ¬ (Dt.int i).isAl m) (h0 : 1 ≤ i) : ¬ (Dt.int (2 * i)).isAl m := fun z => by
  obtain ⟨⟨k, z1⟩, z2⟩ := z
  cases k with
  | zero => simp at z1; omega
  | succ k =>
    rw [Int.pow_succ] at z1
    exact h ⟨⟨k, by omega⟩, by omega⟩
def N_l_not_alignment : List Str := ["_law_draws_here", "_law_most", "_law_kind"]
def t_l_not_alignment (K : PySem.W.Frag) : TS := (tSeq (tAsg (tCall sp_take [] E0 (tCons (tVar 0) (tCons (tC (.int 8)) tNil))) (gName 2))
  (tSeq (tIfS (tTest (tOp oLt (tVar 2) (tC (.int 6)))) (tRet (tOp (rIxL K) (tLst (tCons (tC (.int 0)) (tCons (tUn oNeg (tC (.int 1))) (tCons (tUn oNeg (tC (.int 2))) (tCons (tC (.int 3)) (tCons (tOp oAdd (tVar 1) (tVar 1)) (tCons (tOp oAdd (tOp oAdd (tVar 1) (tVar 1)) (tC (.int 1))) tNil))))))) (tVar 2))) tNext)
  (tSeq (tIfS (tTest (tOp rEq (tVar 2) (tC (.int 6)))) (tRet (tCall (sp_among K) [] E0 (tCons (tVar 0) (tCons (tLst (tCons (tC (.int 6)) (tCons (tC (.int 12)) (tCons (tOp oPow (tC (.int 10)) (tC (.int 30))) (tCons (tCall sp_long [] E0 tNil) (tCons (tUn oNeg (tVar 1)) (tCons (tOp oMul (tVar 1) (tC (.int 3))) tNil))))))) tNil)))) tNext)
  (tRet (tCall sp_not_integer [] E0 (tCons (tVar 0) tNil))))))
theorem pure_not_alignment {K : PySem.W.Frag} {vs : List V} {H : Hp} {Q : VK} {E : XK} (h : sp_not_alignment vs H Q E) : t_l_not_alignment K { nx := fun _ H' => Q .non H', rt := Q } (start N_l_not_alignment vs) H := by
  obtain ⟨d, s, m, rfl, hD, b1, b2, k⟩ := h
  have kI : ∀ (i : Int) H', ¬ (Dt.int i).isAl m → Dr d s H' → Same (hid s H) (hid s H') → Q (.int i) H' := fun i H' hi' hD' hs' => k _ (.int i) _ (.int i) hi' ⟨Nat.zero_le _, rfl⟩ hD' hs'
  unfold t_l_not_alignment
  fold_lay
  refine c_take hD (by omega) fun v H1 v0 v1 hD1 s1 => ?_
  fold_lay; fold_depth
  refine i_ifd (fun h2 => ?_) (fun h2 => ?_)
  · fold_lay
    rename_i p hp
    have st : Same (hid s H) (hid s (upd H1 p (.lst [.int 0, .int (-1), .int (-2), .int 3, .int (m + m), .int (m + m + 1)]))) := s1.trans (hid_mono (same_new hp))
    have dt := hD1.same (same_new (o := .lst [.int 0, .int (-1), .int (-2), .int 3, .int (m + m), .int (m + m + 1)]) hp)
    have hv : v = 0 ∨ v = 1 ∨ v = 2 ∨ v = 3 ∨ v = 4 ∨ v = 5 := by omega
    rcases hv with rfl | rfl | rfl | rfl | rfl | rfl
    · fold_lay; exact kI _ _ (al_int (by omega)) dt st
    · fold_lay; exact kI _ _ (al_int (by omega)) dt st
    · fold_lay; exact kI _ _ (al_int (by omega)) dt st
    · fold_lay; exact kI _ _ (al_odd (by decide) (by decide)) dt st
    · fold_lay; exact kI _ _ (al_int (by omega)) dt st
    · fold_lay; exact kI _ _ (al_int (by omega)) dt st
  fold_lay; fold_depth
  refine i_ifd (fun h3 => ?_) (fun h3 => ?_)
  · fold_lay
    refine ⟨rfl, ?_⟩
    fold_lay
    rename_i p hp
    have hb := lng_big
    generalize lng = z at hb
    rw [ten30]
    have st : Same (hid s H) (hid s (upd H1 p (.lst [.int 6, .int 12, .int 1000000000000000000000000000000, .int z, .int (-m), .int (m * 3)]))) := s1.trans (hid_mono (same_new hp))
    have dt := hD1.same (same_new (o := .lst [.int 6, .int 12, .int 1000000000000000000000000000000, .int z, .int (-m), .int (m * 3)]) hp)
    refine c_among dt upd_same (hD1.ne hp) (by simp) (by simp) fun w H2 hw hD2 s2 => ?_
    have a3 : ¬ (Dt.int 3).isAl m := al_odd (by decide) (by decide)
    simp only [List.mem_cons, List.not_mem_nil, or_false] at hw
    rcases hw with rfl | rfl | rfl | rfl | rfl | rfl
    · exact kI _ _ (al_half a3 (by decide)) hD2 (st.trans s2)
    · exact kI _ _ (al_half (al_half a3 (by decide)) (by decide)) hD2 (st.trans s2)
    · exact kI _ _ (al_int (by omega)) hD2 (st.trans s2)
    · exact kI _ _ (al_int (by omega)) hD2 (st.trans s2)
    · exact kI _ _ (al_int (by omega)) hD2 (st.trans s2)
    · exact kI _ _ (al_int (by omega)) hD2 (st.trans s2)
  fold_lay
  exact c_not_integer hD1 fun v dt H2 a1 a2 a3 hD2 s2 => k _ _ _ (a1.mono (nw_old (alive hD1 s1))) (Dt.isAl_of a2 _) a3 hD2 (s1.trans s2)
def sp_draws (K : PySem.W.Frag) : Sp := fun vs H Q _ => ∃ (a : Addr) (ns : List Int), vs = [.ref a] ∧ SqL K H a (ns.map V.int) ∧ ns.length ≤ 10000 ∧
  ∀ d s H', Dr d s H' → Same H H' → H d = none → H s = none → Q (.ref d) H'
def N_l_draws : List Str := ["_law_script", "_law_cell"]
def t_l_draws (K : PySem.W.Frag) : TS := (tRet (tLst (tCons (tLc (iList K (tVar 0)) (gName 1) tYes (tCB rInt1 (tCons (tVar 1) tNil)) [1]) (tCons (tLst (tCons (tC (.int 0)) (tCons (tC (.int 0)) (tCons (tC (.int 0)) (tCons (tC (.int 0)) (tCons (tC (.int 11)) tNil)))))) tNil))))
theorem pure_draws {K : PySem.W.Frag} {vs : List V} {H : Hp} {Q : VK} {E : XK} (h : sp_draws K vs H Q E) : t_l_draws K { nx := fun _ H' => Q .non H', rt := Q } (start N_l_draws vs) H := by
  obtain ⟨a, ns, rfl, ha, hl, k⟩ := h
  unfold t_l_draws
  fold_lay
  refine c_lst ha (m_lst (xs := ns.map V.int) (fun D i H' => Same H H' ∧ H D = none ∧ H' D = some (.lst ((ns.take i).map V.int))) ?_ ?_ ?_ ?_)
  · exact fun D hD => ⟨same_new hD, hD, upd_same⟩
  · exact fun D i H' _ h => h.1.seq ha
  · rintro D i x H' hx ⟨h1, h2, h3⟩
    obtain ⟨z, hz, rfl⟩ := getI hx
    fold_lay
    refine ⟨rfl, ?_⟩
    fold_lay
    refine ⟨_, h3, szl (by simp; omega), ?_, h2, ?_⟩
    · exact fun b o e => upd_off (ne_of_none e h2) (h1 b o e)
    · rw [upd_same, take_more hz, List.map_append]
      rfl
  · rintro D H' ⟨h1, h2, h3⟩
    rw [List.length_map, List.take_length] at h3
    fold_lay
    rename_i p hp q hq
    have nD : D ≠ p := ne_of_none h3 hp
    have np : p ≠ q := fun z => by
      rw [← z, upd_same] at hq
      cases hq
    refine k q p _ ⟨D, ns, 0, 0, 0, 0, 11, upd_same, by kct_strs, by kct_strs, Ne.symm np, nD, by omega, by omega, by omega⟩ ?_ ?_ ?_
    · exact (h1.trans (same_new hp)).trans (same_new hq)
    · exact (h1.trans (same_new hp)).free hq
    · exact h1.free hp
/-! ## Basics -/
/-! ### basics.py -/
/-- where the classes of the refusals stand -/
structure Cl where
  (k_StoreError k_BadValue k_Broken k_Unknown k_NotHeld k_Fault k_NoRoom k_Cut k_BadLine : Addr)
  x_SIZES : Addr := 0
def vI : V → Bool
  | .int _ => true
  | _ => false
def vR (lo hi : Int) : V → Bool
  | .int i => decide (lo ≤ i) && decide (i ≤ hi)
  | _ => false
def sp_is_whole (K : PySem.W.Frag) : Sp := fun vs H Q _ => ∃ (v : V) (n : String), vs = [v] ∧ Ty0 H v n ∧ Q (.bl (vI v)) H
theorem c_is_whole {K : PySem.W.Frag} {v : V} {n : String} {H : Hp} {Q : VK} {E : XK} (h : Ty0 H v n) (q : Q (.bl (vI v)) H) : sp_is_whole K [v] H Q E := ⟨v, n, rfl, h, q⟩
def N_p_is_whole : List Str := ["value"]
def t_p_is_whole (K : PySem.W.Frag) : TS := (tRet (tAndV (tCB (rIsi K) (tCons (tVar 0) (tCons (tC (.ty "int")) tNil))) (tNotV (tCB (rIsi K) (tCons (tVar 0) (tCons (tC (.ty "bool")) tNil))))))
theorem pure_is_whole {K : PySem.W.Frag} {vs : List V} {H : Hp} {Q : VK} {E : XK} (h : sp_is_whole K vs H Q E) : t_p_is_whole K { nx := fun _ H' => Q .non H', rt := Q } (start N_p_is_whole vs) H := by
  obtain ⟨v, n, rfl, ht, q⟩ := h
  unfold t_p_is_whole
  cases id ht <;> (kbj_rows; exact q)
def sp_whole_between (K : PySem.W.Frag) : Sp := fun vs H Q _ => ∃ (v : V) (n : String) (lo hi : Int), vs = [v, .int lo, .int hi] ∧ Ty0 H v n ∧ Q (.bl (vR lo hi v)) H
theorem c_whole_between {K : PySem.W.Frag} {v : V} {n : String} {lo hi : Int} {H : Hp} {Q : VK} {E : XK} (h : Ty0 H v n) (q : Q (.bl (vR lo hi v)) H) : sp_whole_between K [v, .int lo, .int hi] H Q E := ⟨v, n, lo, hi, rfl, h, q⟩
theorem vI_int {v : V} (h : vI v = true) : ∃ i, v = .int i := by
  cases v <;> first | exact ⟨_, rfl⟩ | cases h
theorem vR_no {v : V} {lo hi : Int} (h : vI v = false) : vR lo hi v = false := by
  cases v <;> first | rfl | cases h
def N_p_whole_between : List Str := ["value", "low", "high"]
def t_p_whole_between (K : PySem.W.Frag) : TS := (tRet (tAndV (tCall (sp_is_whole K) [] E0 (tCons (tVar 0) tNil)) (tChain oLe oLe (tVar 1) (tVar 0) (tVar 2))))
theorem pure_whole_between {K : PySem.W.Frag} {vs : List V} {H : Hp} {Q : VK} {E : XK} (h : sp_whole_between K vs H Q E) : t_p_whole_between K { nx := fun _ H' => Q .non H', rt := Q } (start N_p_whole_between vs) H := by
  obtain ⟨v, n, lo, hi, rfl, ht, q⟩ := h
  unfold t_p_whole_between
  fold_lay
  refine c_is_whole ht ?_
  fold_lay
  refine i_ifb (fun h => ?_) (fun h => ?_)
  · obtain ⟨i, rfl⟩ := vI_int h
    fold_lay
    refine i_ifd (fun h1 => ?_) (fun h1 => ?_)
    · fold_lay
      simpa [vR, h1] using q
    · simpa [vR, h1] using q
  · rw [vR_no h] at q
    exact q
def vP : V → Bool
  | .int i => decide (1 ≤ i) && decide (Builtin.bitAnd i (i - 1) = 0)
  | _ => false
theorem vP_no {v : V} (h : vI v = false) : vP v = false := by
  cases v <;> first | rfl | cases h
theorem pow_iff {i : Int} : (1 ≤ i ∧ Builtin.bitAnd i (i - 1) = 0) ↔ ∃ k : Nat, i = 2 ^ k := by
  constructor
  · rintro ⟨h1, h2⟩
    have e1 : i = (i.toNat : Int) := by omega
    have e2 : (i - 1).toNat = i.toNat - 1 := by omega
    rw [bitAnd_pp (by omega) (by omega), e2] at h2
    have h3 : i.toNat &&& (i.toNat - 1) = 0 := by exact_mod_cast h2
    obtain ⟨k, hk⟩ := (Nat.and_sub_one_eq_zero_iff_isPowerOfTwo (by omega)).mp h3
    refine ⟨k, ?_⟩
    rw [e1, hk]
    exact Int.natCast_pow 2 k
  · rintro ⟨k, rfl⟩
    have hp := two_pow_pos k
    refine ⟨by omega, ?_⟩
    have e0 : ((2 : Int) ^ k).toNat = 2 ^ k := by
      have : (2 : Int) ^ k = ((2 ^ k : Nat) : Int) := (Int.natCast_pow 2 k).symm
      rw [this]
      rfl
    have e2 : ((2 : Int) ^ k - 1).toNat = 2 ^ k - 1 := by omega
    rw [bitAnd_pp (by omega) (by omega), e2, e0, (Nat.and_sub_one_eq_zero_iff_isPowerOfTwo (by have := Nat.two_pow_pos k; omega)).mpr ⟨k, rfl⟩]
    rfl
theorem vP_iff {i : Int} : vP (.int i) = true ↔ ∃ k : Nat, i = 2 ^ k := by
  rw [← pow_iff]
  simp [vP]
def sp_is_power (K : PySem.W.Frag) : Sp := fun vs H Q _ => ∃ (v : V) (n : String), vs = [v] ∧ Ty0 H v n ∧ Q (.bl (vP v)) H
theorem c_is_power {K : PySem.W.Frag} {v : V} {n : String} {H : Hp} {Q : VK} {E : XK} (h : Ty0 H v n) (q : Q (.bl (vP v)) H) : sp_is_power K [v] H Q E := ⟨v, n, rfl, h, q⟩
def N_p_is_power : List Str := ["value"]
def t_p_is_power (K : PySem.W.Frag) : TS := (tRet (tAndV (tCall (sp_is_whole K) [] E0 (tCons (tVar 0) tNil)) (tAndV (tOp oGe (tVar 0) (tC (.int 1))) (tOp rEq (tOp oAnd (tVar 0) (tOp oSub (tVar 0) (tC (.int 1)))) (tC (.int 0))))))
theorem pure_is_power {K : PySem.W.Frag} {vs : List V} {H : Hp} {Q : VK} {E : XK} (h : sp_is_power K vs H Q E) : t_p_is_power K { nx := fun _ H' => Q .non H', rt := Q } (start N_p_is_power vs) H := by
  obtain ⟨v, n, rfl, ht, q⟩ := h
  unfold t_p_is_power
  fold_lay
  refine c_is_whole ht ?_
  fold_lay
  refine i_ifb (fun h => ?_) (fun h => ?_)
  · obtain ⟨i, rfl⟩ := vI_int h
    fold_lay
    refine i_ifd (fun h1 => ?_) (fun h1 => ?_)
    · fold_lay
      simpa [vP, h1] using q
    · simpa [vP, h1] using q
  · rw [vP_no h] at q
    exact q
def vA (m : Int) : V → Bool
  | .int i => vP (.int i) && decide (i ≤ m)
  | _ => false
theorem vA_iff {i m : Int} : vA m (.int i) = true ↔ (Dt.int i).isAl m := by
  show (vP (.int i) && decide (i ≤ m)) = true ↔ _
  rw [Bool.and_eq_true, vP_iff, decide_eq_true_iff]
  rfl
def sp_is_align (K : PySem.W.Frag) : Sp := fun vs H Q _ => ∃ (v : V) (n : String) (m : Int), vs = [v, .int m] ∧ Ty0 H v n ∧ Q (.bl (vA m v)) H
theorem c_is_align {K : PySem.W.Frag} {v : V} {n : String} {m : Int} {H : Hp} {Q : VK} {E : XK} (h : Ty0 H v n) (q : Q (.bl (vA m v)) H) : sp_is_align K [v, .int m] H Q E := ⟨v, n, m, rfl, h, q⟩
theorem vP_int {v : V} (h : vP v = true) : ∃ i, v = .int i := by
  cases v <;> first | exact ⟨_, rfl⟩ | cases h
theorem vA_no {v : V} {m : Int} (h : vP v = false) : vA m v = false := by
  cases v <;> first | rfl | (show (vP _ && _) = false; rw [h]; rfl)
def N_p_is_align : List Str := ["value", "most"]
def t_p_is_align (K : PySem.W.Frag) : TS := (tRet (tAndV (tCall (sp_is_power K) [] E0 (tCons (tVar 0) tNil)) (tOp oLe (tVar 0) (tVar 1))))
theorem pure_is_align {K : PySem.W.Frag} {vs : List V} {H : Hp} {Q : VK} {E : XK} (h : sp_is_align K vs H Q E) : t_p_is_align K { nx := fun _ H' => Q .non H', rt := Q } (start N_p_is_align vs) H := by
  obtain ⟨v, n, m, rfl, ht, q⟩ := h
  unfold t_p_is_align
  fold_lay
  refine c_is_power ht ?_
  fold_lay
  refine i_ifb (fun h => ?_) (fun h => ?_)
  · obtain ⟨i, rfl⟩ := vP_int h
    fold_lay
    simpa [vA, h] using q
  · rw [vA_no h] at q
    exact q
/-! ### a refusal: its class, its fields -/
structure BvC (K : PySem.W.Frag) (C : Addr) : Prop where
  ox : OexC K C
  np : PySem.W.findIn K (.ref C) "parameter" = some none
  nt : PySem.W.findIn K (.ref C) "told" = some none
/-- a refusal's dict at d: BadValue(p) -/
def BadAt (H : Hp) (d : Addr) (v : V) : Prop := ∃ t1 t2, H d = some (.xd [("told", .ref t2), ("parameter", v)]) ∧ H t2 = some (.tup [.str "BadValue", .ref t1]) ∧ H t1 = some (.tup [v])
def sp_init_BadValue (K : PySem.W.Frag) (C : Addr) : Sp := fun vs H Q _ => ∃ (e : Addr) (v : V), vs = [.ref e, v] ∧ H e = some (exo e C none) ∧ BvC K C ∧
  ∀ (d t1 t2 : Addr) H', H' e = some (exo e C (some d)) → H' d = some (exd d [("told", .ref t2), ("parameter", v)]) → H' t1 = some (.tup [v]) → H' t2 = some (.tup [.str "BadValue", .ref t1]) → H d = none → (∀ b o, b ≠ e → H b = some o → H' b = some o) → Q .non H'
def N_c_BadValue_init : List Str := ["self", "parameter"]
def t_c_BadValue_init (K : PySem.W.Frag) : TS := (tSeq (tOst K "parameter" (tVar 0) (tVar 1))
  (tOst K "told" (tVar 0) (tTup (tCons (tC (.str "BadValue")) (tCons (tTup (tCons (tVar 1) tNil)) tNil)))))
theorem pure_init_BadValue {K : PySem.W.Frag} {C : Addr} {vs : List V} {H : Hp} {Q : VK} {E : XK} (h : sp_init_BadValue K C vs H Q E) : t_c_BadValue_init K { nx := fun _ H' => Q .non H', rt := Q } (start N_c_BadValue_init vs) H := by
  obtain ⟨e, v, rfl, he, hC, k⟩ := h
  unfold t_c_BadValue_init
  refine i_seq ?_
  refine ⟨v, rfl, .ref e, rfl, e, C, rfl, hC.ox, hC.np, .inl ⟨he, fun d hd ne => ?_⟩⟩
  have h1 : upd (upd H d (exd d [("parameter", v)])) e (exo e C (some d)) d = some (exd d [("parameter", v)]) := by rw [upd_ne ne, upd_same]
  refine ⟨v, rfl, sz (by simp), fun t1 ht1 => ?_⟩
  refine ⟨sz (by simp), fun t2 ht2 => ?_⟩
  have n1 : d ≠ t1 := ne_of_none h1 ht1
  have n3 : e ≠ t1 := ne_of_none upd_same ht1
  have ht2' := ht2
  have nt : t2 ≠ t1 := fun z => by rw [z, upd_same] at ht2'; cases ht2'
  have n2 : d ≠ t2 := ne_of_none (upd_off n1 h1) ht2
  have n4 : e ≠ t2 := ne_of_none (upd_off n3 upd_same) ht2
  refine ⟨.ref e, rfl, e, C, rfl, hC.ox, hC.nt, .inr ⟨d, [("parameter", v)], ?_, ?_, by show 1 ≤ 900; decide, ?_⟩⟩
  · exact upd_off n4 (upd_off n3 upd_same)
  · exact upd_off n2 (upd_off n1 h1)
  · refine k d t1 t2 _ ?_ upd_same ?_ ?_ hd ?_
    · exact upd_off (Ne.symm ne) (upd_off n4 (upd_off n3 upd_same))
    · exact upd_off (Ne.symm n1) (upd_off (Ne.symm nt) upd_same)
    · exact upd_off (Ne.symm n2) upd_same
    · intro b o nb hb
      have nd : b ≠ d := ne_of_none hb hd
      have h2 : upd (upd H d (exd d [("parameter", v)])) e (exo e C (some d)) b = some o := upd_off nb (upd_off nd hb)
      have n5 : b ≠ t1 := ne_of_none h2 ht1
      have h3 := upd_off (o := .tup [v]) n5 h2
      exact upd_off nd (upd_off (ne_of_none h3 ht2) h3)
/-- raise BadValue(e): what is asked of e's value -/
def RzB (K : PySem.W.Frag) (C : Addr) (W : WX) (σ : St) (v : V) (H1 : Hp) : Prop := [v].length ≤ 1000 ∧ ∀ a, H1 a = none → sp_init_BadValue K C (.ref a :: ([v] ++ [])) (upd H1 a (exo a C none))
  (fun u H2 => u = .non ∧ ∃ (d : Addr) (fs : List (Str × V)), H2 a = some (exo a C (some d)) ∧ H2 d = some (exd d fs) ∧ H1 d = none ∧ W (.ref C) (some d) σ (upd (del H2 a) d (.xd fs))) (fun _ _ _ => False)
theorem i_rz {K : PySem.W.Frag} {C : Addr} {te : TE} {W : WX} {D : Ends} {σ : St} {H : Hp} (h : te σ H fun v H1 => RzB K C W σ v H1) : tRz (tMkO C (sp_init_BadValue K C) [] (tCons te tNil)) W D σ H := h
instance s_rz {K : PySem.W.Frag} {C : Addr} {te : TE} {W : WX} {D : Ends} {σ : St} {H : Hp} : Stp (tRz (tMkO C (sp_init_BadValue K C) [] (tCons te tNil)) W D σ H) (te σ H fun v H1 => RzB K C W σ v H1) := ⟨i_rz⟩
theorem c_bad {K : PySem.W.Frag} {C : Addr} {W : WX} {σ : St} {v : V} {H1 : Hp} (hC : BvC K C) (h : ∀ d H', BadAt H' d v → Same H1 H' → W (.ref C) (some d) σ H') : RzB K C W σ v H1 := by
  refine ⟨by show 1 ≤ 1000; decide, fun a ha => ⟨a, v, rfl, upd_same, hC, fun d t1 t2 H2 h1 h2 h3 h4 h5 h6 => ⟨rfl, d, _, h1, h2, ?_, ?_⟩⟩⟩
  · by_cases e : d = a
    · rw [e, upd_same] at h5
      cases h5
    · rw [upd_ne e] at h5
      exact h5
  · have nda : d ≠ a := fun e => by
      rw [e, upd_same] at h5
      cases h5
    have hd1 : H1 d = none := by
      rw [upd_ne nda] at h5
      exact h5
    have n1 : t1 ≠ d := fun e => by
      rw [e, h2] at h3
      cases h3
    have n2 : t2 ≠ d := fun e => by
      rw [e, h2] at h4
      cases h4
    have m1 : t1 ≠ a := fun e => by
      rw [e, h1] at h3
      cases h3
    have m2 : t2 ≠ a := fun e => by
      rw [e, h1] at h4
      cases h4
    refine h d _ ⟨t1, t2, upd_same, ?_, ?_⟩ (fun b o hb => ?_)
    · rw [upd_ne n2, del_ne m2]
      exact h4
    · rw [upd_ne n1, del_ne m1]
      exact h3
    · have nb : b ≠ a := ne_of_none hb ha
      rw [upd_ne (ne_of_none hb hd1), del_ne nb]
      exact h6 b o nb (upd_off nb hb)
def sp_align_up : Sp := fun vs H Q _ => ∃ (n m : Int), vs = [.int n, .int m] ∧ 0 ≤ n ∧ n ≤ 1000000000 ∧ (∃ k : Nat, m = 2 ^ k) ∧ m ≤ 1073741824 ∧ Q (.int ((n + m - 1) / m * m)) H
theorem c_align_up {n m : Int} {H : Hp} {Q : VK} {E : XK} (h0 : 0 ≤ n) (h1 : n ≤ 1000000000) (h2 : ∃ k : Nat, m = 2 ^ k) (h3 : m ≤ 1073741824) (q : Q (.int ((n + m - 1) / m * m)) H) : sp_align_up [.int n, .int m] H Q E := ⟨n, m, rfl, h0, h1, h2, h3, q⟩
theorem vR_yes {lo hi i : Int} (h1 : lo ≤ i) (h2 : i ≤ hi) : vR lo hi (.int i) = true := by simp [vR, h1, h2]
theorem vA_yes {m i : Int} (h1 : ∃ k : Nat, i = 2 ^ k) (h2 : i ≤ m) : vA m (.int i) = true := vA_iff.mpr ⟨h1, h2⟩
def N_p_align_up : List Str := ["number", "align"]
def t_p_align_up (K : PySem.W.Frag) : TS := (tSeq (tIfS (tNot (tB (tCall (sp_whole_between K) [] E0 (tCons (tVar 0) (tCons (tC (.int 0)) (tCons (tC (.int 1000000000)) tNil)))))) tNever tNext)
  (tSeq (tIfS (tNot (tB (tCall (sp_is_align K) [] E0 (tCons (tVar 1) (tCons (tC (.int 1073741824)) tNil))))) tNever tNext)
  (tRet (tOp oMul (tOp oDiv (tOp oSub (tOp oAdd (tVar 0) (tVar 1)) (tC (.int 1))) (tVar 1)) (tVar 1)))))
theorem pure_align_up {K : PySem.W.Frag} {vs : List V} {H : Hp} {Q : VK} {E : XK} (h : sp_align_up vs H Q E) : t_p_align_up K { nx := fun _ H' => Q .non H', rt := Q } (start N_p_align_up vs) H := by
  obtain ⟨n, m, rfl, h0, h1, h2, h3, q⟩ := h
  unfold t_p_align_up
  fold_depth
  refine c_whole_between (.int _) ?_
  rw [vR_yes h0 h1]
  fold_lay; fold_depth
  refine c_is_align (.int _) ?_
  rw [vA_yes h2 h3]
  fold_lay
  obtain ⟨k, hk⟩ := h2
  have hp := two_pow_pos k
  refine i_div (cdiv (by omega) (by omega)) ?_
  fold_lay
  exact q
/-! ### marks.py -/
def sp_check_number (K : PySem.W.Frag) (c : Cl) : Sp := fun vs H Q E => ∃ (v : V) (n : String) (lo hi : Int) (p : Str), vs = [v, .int lo, .int hi, .str p] ∧ Ty0 H v n ∧ BvC K c.k_BadValue ∧
  (vR lo hi v = true → Q .non H) ∧ (vR lo hi v = false → ∀ d H', BadAt H' d (.str p) → Same H H' → E (.ref c.k_BadValue) (some d) H')
theorem c_check_number {K : PySem.W.Frag} {c : Cl} {v : V} {n : String} {lo hi : Int} {p : Str} {H : Hp} {Q : VK} {E : XK} (h : Ty0 H v n) (hC : BvC K c.k_BadValue) (h1 : vR lo hi v = true → Q .non H) (h2 : vR lo hi v = false → ∀ d H', BadAt H' d (.str p) → Same H H' → E (.ref c.k_BadValue) (some d) H') :
    sp_check_number K c [v, .int lo, .int hi, .str p] H Q E := ⟨v, n, lo, hi, p, rfl, h, hC, h1, h2⟩
def N_p_check_number : List Str := ["value", "low", "high", "parameter"]
def t_p_check_number (K : PySem.W.Frag) (c : Cl) (E : XK) : TS := (tIfS (tOr (tNot (tB (tCall (sp_is_whole K) [] E0 (tCons (tVar 0) tNil)))) (tOr (tTest (tOp oLt (tVar 0) (tVar 1))) (tTest (tOp oGt (tVar 0) (tVar 2))))) (tRz (tMkO c.k_BadValue (sp_init_BadValue K c.k_BadValue) [] (tCons (tVar 3) tNil)) (fun cls d _ H => E cls d H)) tNext)
theorem pure_check_number {K : PySem.W.Frag} {c : Cl} {vs : List V} {H : Hp} {Q : VK} {E : XK} (h : sp_check_number K c vs H Q E) : t_p_check_number K c E { nx := fun _ H' => Q .non H', rt := Q } (start N_p_check_number vs) H := by
  obtain ⟨v, n, lo, hi, p, rfl, ht, hC, k1, k2⟩ := h
  unfold t_p_check_number
  fold_lay
  refine c_is_whole ht ?_
  fold_lay
  refine i_ifb (fun h => ?_) (fun h => ?_)
  · have h : vI v = false := by simpa using h
    fold_lay
    exact c_bad hC (k2 (vR_no h))
  · have h : vI v = true := by simpa using h
    obtain ⟨i, rfl⟩ := vI_int h
    fold_lay
    refine i_ifd (fun h1 => ?_) (fun h1 => ?_)
    · fold_lay
      exact c_bad hC (k2 (by simp [vR]; omega))
    · fold_lay
      refine i_ifd (fun h2 => ?_) (fun h2 => ?_)
      · fold_lay
        exact c_bad hC (k2 (by simp [vR]; omega))
      · fold_lay
        exact k1 (vR_yes (by omega) (by omega))
def sp_check_align (K : PySem.W.Frag) (c : Cl) : Sp := fun vs H Q E => ∃ (v : V) (n : String), vs = [v] ∧ Ty0 H v n ∧ BvC K c.k_BadValue ∧
  (vA 4096 v = true → Q .non H) ∧ (vA 4096 v = false → ∀ d H', BadAt H' d (.str "align") → Same H H' → E (.ref c.k_BadValue) (some d) H')
theorem c_check_align {K : PySem.W.Frag} {c : Cl} {v : V} {n : String} {H : Hp} {Q : VK} {E : XK} (h : Ty0 H v n) (hC : BvC K c.k_BadValue) (h1 : vA 4096 v = true → Q .non H) (h2 : vA 4096 v = false → ∀ d H', BadAt H' d (.str "align") → Same H H' → E (.ref c.k_BadValue) (some d) H') :
    sp_check_align K c [v] H Q E := ⟨v, n, rfl, h, hC, h1, h2⟩
def N_p_check_align : List Str := ["value"]
def t_p_check_align (K : PySem.W.Frag) (c : Cl) (E : XK) : TS := (tIfS (tOr (tNot (tB (tCall (sp_is_power K) [] E0 (tCons (tVar 0) tNil)))) (tTest (tOp oGt (tVar 0) (tC (.int 4096))))) (tRz (tMkO c.k_BadValue (sp_init_BadValue K c.k_BadValue) [] (tCons (tC (.str "align")) tNil)) (fun cls d _ H => E cls d H)) tNext)
theorem pure_check_align {K : PySem.W.Frag} {c : Cl} {vs : List V} {H : Hp} {Q : VK} {E : XK} (h : sp_check_align K c vs H Q E) : t_p_check_align K c E { nx := fun _ H' => Q .non H', rt := Q } (start N_p_check_align vs) H := by
  obtain ⟨v, n, rfl, ht, hC, k1, k2⟩ := h
  unfold t_p_check_align
  fold_lay
  refine c_is_power ht ?_
  fold_lay
  refine i_ifb (fun h => ?_) (fun h => ?_)
  · have h : vP v = false := by simpa using h
    fold_lay
    exact c_bad hC (k2 (vA_no h))
  · have h : vP v = true := by simpa using h
    obtain ⟨i, rfl⟩ := vP_int h
    fold_lay
    refine i_ifd (fun h1 => ?_) (fun h1 => ?_)
    · fold_lay
      refine c_bad hC (k2 ?_)
      show (vP (.int i) && decide (i ≤ 4096)) = false
      rw [decide_eq_false (by omega), Bool.and_false]
    · fold_lay
      refine k1 ?_
      show (vP (.int i) && decide (i ≤ 4096)) = true
      rw [decide_eq_true (by omega), h]
      rfl
/-! ## Alike -/
/-! ### alike: two data that are one -/
mutual
def Dt.flat : Dt → Bool
  | .lst l => decide (l.length ≤ 10000) && Dt.flatL l
  | .tup l => decide (l.length ≤ 10000) && Dt.flatL l
  | .dic _ => false
  | _ => true
def Dt.flatL : List Dt → Bool
  | [] => true
  | d :: r => d.flat && Dt.flatL r
end
theorem flatL_get : ∀ {l : List Dt} {i : Nat} {d : Dt}, Dt.flatL l = true → l[i]? = some d → d.flat = true
  | [], _, _, _, h => by simp at h
  | x :: r, 0, d, h, e => by
    simp at e
    subst e
    exact (Bool.and_eq_true_iff.mp (by simpa [Dt.flatL] using h)).1
  | x :: r, i + 1, d, h, e => flatL_get (l := r) (i := i) (Bool.and_eq_true_iff.mp (by simpa [Dt.flatL] using h)).2 (by simpa using e)
theorem depL_get : ∀ {l : List Dt} {i : Nat} {d : Dt}, l[i]? = some d → d.dep ≤ Dt.depL l
  | [], _, _, h => by simp at h
  | x :: r, 0, d, e => by
    simp at e
    subst e
    simp only [Dt.depL]
    omega
  | x :: r, i + 1, d, e => by
    have := depL_get (l := r) (i := i) (d := d) (by simpa using e)
    simp only [Dt.depL]
    omega
def sp_alike : Nat → Sp
  | 0 => fun _ _ _ _ => False
  | n + 1 => fun vs H Q _ => ∃ (va vb : V) (d : Dt), vs = [va, vb] ∧ At H va d ∧ At H vb d ∧ d.dep ≤ n ∧ d.flat = true ∧ ∀ H', Same H H' → Q (.bl true) H'
theorem c_alike {n : Nat} {va vb : V} {d : Dt} {H : Hp} {Q : VK} {E : XK} (h1 : At H va d) (h2 : At H vb d) (h3 : d.dep ≤ n) (h4 : d.flat = true) (h : ∀ H', Same H H' → Q (.bl true) H') : sp_alike (n + 1) [va, vb] H Q E := ⟨va, vb, d, rfl, h1, h2, h3, h4, h⟩
/-- bools compared -/
theorem i_neB {a b : Bool} {H : Hp} {Q : VK} (q : Q (.bl (a != b)) H) : rNe (.bl a) (.bl b) H Q := ⟨rfl, by
  have e : (!decide (V.bl a = V.bl b)) = (a != b) := by cases a <;> cases b <;> rfl
  rw [e]
  exact q⟩
instance s_neB {a b : Bool} {H : Hp} {Q : VK} : Stp (rNe (.bl a) (.bl b) H Q) (Q (.bl (a != b)) H) := ⟨i_neB⟩
theorem i_eqB {a b : Bool} {H : Hp} {Q : VK} (q : Q (.bl (a == b)) H) : rEq (.bl a) (.bl b) H Q := ⟨rfl, by
  have e : decide (V.bl a = V.bl b) = (a == b) := by cases a <;> cases b <;> rfl
  rw [e]
  exact q⟩
instance s_eqB {a b : Bool} {H : Hp} {Q : VK} : Stp (rEq (.bl a) (.bl b) H Q) (Q (.bl (a == b)) H) := ⟨i_eqB⟩
theorem i_ixSL {K : PySem.W.Frag} {H : Hp} {Q : VK} {p : Addr} {xs : List V} {i : Int} {v : V} (h : SqL K H p xs) (e : atI xs i = some v) (q : Q v H) : rIx K (.ref p) (.int i) H Q := .inl (i_ixL h e q)
theorem i_ixST {K : PySem.W.Frag} {H : Hp} {Q : VK} {p : Addr} {xs : List V} {i : Int} {v : V} (h : SqT K H p xs) (e : atI xs i = some v) (q : Q v H) : rIx K (.ref p) (.int i) H Q := .inr (.inl (i_ixT h e q))
theorem i_all {K : PySem.W.Frag} {H : Hp} {Q : VK} {a : Addr} {m : Nat} (h : H a = some (.lst (List.replicate m (.bl true)))) (q : Q (.bl true) H) : rAll K [.ref a] H Q := by
  refine ⟨a, List.replicate m true, rfl, sqL (by rw [List.map_replicate]; exact h), ?_⟩
  rw [List.all_replicate]
  cases m <;> exact q
theorem nz {x : V} (h : x ≠ .non) : ¬ (x = .non) := h
def N_l_alike : List Str := ["_law_actual", "_law_due_here", "_law_k"]
def t_l_alike (K : PySem.W.Frag) (n : Nat) : TS := (tSeq (tIfS (tOr (tTest (tOp oIsN (tVar 1) (tC .non))) (tTest (tOp oIsN (tVar 0) (tC .non)))) (tRet (tAndV (tOp oIsN (tVar 1) (tC .non)) (tOp oIsN (tVar 0) (tC .non)))) tNext)
  (tSeq (tIfS (tOr (tB (tCB (rIsi K) (tCons (tVar 1) (tCons (tC (.ty "list")) tNil)))) (tB (tCB (rIsi K) (tCons (tVar 1) (tCons (tC (.ty "tuple")) tNil))))) (tSeq (tIfS (tOr (tTest (tOp rNe (tCB (rIsi K) (tCons (tVar 0) (tCons (tC (.ty "list")) tNil))) (tCB (rIsi K) (tCons (tVar 1) (tCons (tC (.ty "list")) tNil))))) (tTest (tOp rNe (tCB (rIsi K) (tCons (tVar 0) (tCons (tC (.ty "tuple")) tNil))) (tCB (rIsi K) (tCons (tVar 1) (tCons (tC (.ty "tuple")) tNil)))))) (tRet (tC (.bl false))) tNext)
  (tRet (tAndV (tOp rEq (tCB (rLen K) (tCons (tVar 0) tNil)) (tCB (rLen K) (tCons (tVar 1) tNil))) (tCB (rAll K) (tCons (tLc (iRng1 (tCons (tCB (rLen K) (tCons (tVar 1) tNil)) tNil)) (gName 2) tYes (tCall (sp_alike n) [] E0 (tCons (tOp (rIx K) (tVar 0) (tVar 2)) (tCons (tOp (rIx K) (tVar 1) (tVar 2)) tNil))) [2]) tNil))))) tNext)
  (tSeq (tIfS (tTest (tOp rNe (tCB (rIsi K) (tCons (tVar 1) (tCons (tC (.ty "bool")) tNil))) (tCB (rIsi K) (tCons (tVar 0) (tCons (tC (.ty "bool")) tNil))))) (tRet (tC (.bl false))) tNext)
  (tSeq (tIfS (tB (tCB (rIsi K) (tCons (tVar 1) (tCons (tC (.ty "int")) tNil)))) (tRet (tAndV (tCB (rIsi K) (tCons (tVar 0) (tCons (tC (.ty "int")) tNil))) (tOp rEq (tVar 0) (tVar 1)))) tNext)
  (tRet (tAndV (tCB (rIsi K) (tCons (tVar 0) (tCons (tC (.ty "str")) tNil))) (tOp rEq (tVar 0) (tVar 1))))))))
/-- the walk over two rows that hold the same data -/
theorem alike_row {K : PySem.W.Frag} {n : Nat} {a b : Addr} {xs ys : List V} {ds : List Dt} {H : Hp} {Q : VK} {x : Option V} (A : ∀ H', Same H H' → ∀ (i : Int) v (Q' : VK), atI xs i = some v → Q' v H' → rIx K (.ref a) (.int i) H' Q') (B : ∀ H', Same H H' → ∀ (i : Int) v (Q' : VK), atI ys i = some v → Q' v H' → rIx K (.ref b) (.int i) H' Q')
    (h1 : Ats H xs ds) (h2 : Ats H ys ds) (hl : ds.length ≤ 10000) (hd : Dt.depL ds + 1 ≤ n) (hf : Dt.flatL ds = true) (k : ∀ D H', Same H H' → H' D = some (.lst (List.replicate ds.length (.bl true))) → Q (.ref D) H') :
    LcW (Itr 0 ds.length) (gName 2) tYes (tCall (sp_alike n) [] E0 (tCons (tOp (rIx K) (tVar 0) (tVar 2)) (tCons (tOp (rIx K) (tVar 1) (tVar 2)) tNil))) [2] [some (.ref a), some (.ref b), x] H Q := by
  refine m_rng (fun D i H' => Same H H' ∧ H D = none ∧ H' D = some (.lst (List.replicate i (.bl true)))) ?_ ?_ ?_
  · exact fun D hD => ⟨same_new hD, hD, upd_same⟩
  · rintro D i H' hi ⟨s1, s2, s3⟩
    obtain ⟨d, hd'⟩ : ∃ d, ds[i]? = some d := ⟨_, List.getElem?_eq_getElem hi⟩
    obtain ⟨va, ea, ha⟩ := h1.get hd'
    obtain ⟨vb, eb, hb⟩ := h2.get hd'
    fold_lay
    refine ⟨rfl, ?_⟩
    fold_lay
    refine A H' s1 _ va _ (at_of (j := i) (by omega) ea) ?_
    fold_lay
    refine B H' s1 _ vb _ (at_of (j := i) (by omega) eb) ?_
    fold_lay
    cases n with
    | zero => omega
    | succ m =>
      have hdd := depL_get hd'
      refine c_alike (ha.mono s1) (hb.mono s1) (by omega) (flatL_get hf hd') fun H2 s4 => ?_
      refine ⟨_, s4 _ _ s3, szl (by rw [List.length_replicate]; omega), ?_, s2, ?_⟩
      · exact fun c o e => upd_off (ne_of_none e s2) (s4 _ _ (s1 _ _ e))
      · rw [upd_same, List.replicate_succ']
  · rintro D H' ⟨s1, s2, s3⟩
    exact k D H' s1 s3
theorem pure_alike {K : PySem.W.Frag} {n : Nat} {vs : List V} {H : Hp} {Q : VK} {E : XK} (h : sp_alike (n + 1) vs H Q E) : t_l_alike K n { nx := fun _ H' => Q .non H', rt := Q } (start N_l_alike vs) H := by
  obtain ⟨va, vb, d, rfl, h1, h2, h3, h4, k⟩ := h
  unfold t_l_alike
  cases h1 with
  | non => cases h2; kbj_rows; exact k H (Same.refl H)
  | bl b =>
    cases h2
    have t1 : Ty0 H (.bl b) "bool" := .bl b
    kbj_rows
    rw [beq_self_eq_true]
    exact k H (Same.refl H)
  | int i =>
    cases h2
    have t1 : Ty0 H (.int i) "int" := .int i
    kbj_rows
    rw [decide_eq_true rfl]
    exact k H (Same.refl H)
  | str x =>
    cases h2
    have t1 : Ty0 H (.str x) "str" := .str x
    kbj_rows
    rw [decide_eq_true rfl]
    exact k H (Same.refl H)
  | @lst a xs ds ea ha =>
    cases h2 with
    | @lst b ys _ eb hb =>
      have t1 : Ty0 H (.ref a) "list" := .lst ea
      have t2 : Ty0 H (.ref b) "list" := .lst eb
      have l1 := ha.length
      have l2 := hb.length
      simp only [Dt.flat, Bool.and_eq_true] at h4
      have f1 := of_decide_eq_true h4.1
      have h3' : Dt.depL ds + 1 ≤ n := by simpa only [Dt.dep] using h3
      kbj_rows
      refine i_yes (by omega) ?_
      kbj_rows
      refine c_rng1 (by omega) (by omega) ?_
      rw [show (ys.length : Int).toNat = ds.length by omega]
      refine alike_row (fun H' s i v Q' e q => i_ixSL (sqL (s _ _ ea)) e q) (fun H' s i v Q' e q => i_ixSL (sqL (s _ _ eb)) e q) ha hb f1 h3' h4.2 fun D H' s1 hD => ?_
      kbj_rows
      exact i_all hD (k H' s1)
  | @tup a xs ds ea ha =>
    cases h2 with
    | @tup b ys _ eb hb =>
      have t1 : Ty0 H (.ref a) "tuple" := .tup ea
      have t2 : Ty0 H (.ref b) "tuple" := .tup eb
      have l1 := ha.length
      have l2 := hb.length
      simp only [Dt.flat, Bool.and_eq_true] at h4
      have f1 := of_decide_eq_true h4.1
      have h3' : Dt.depL ds + 1 ≤ n := by simpa only [Dt.dep] using h3
      kbj_rows
      refine i_yes (by omega) ?_
      kbj_rows
      refine c_rng1 (by omega) (by omega) ?_
      rw [show (ys.length : Int).toNat = ds.length by omega]
      refine alike_row (fun H' s i v Q' e q => i_ixST (sqT (s _ _ ea)) e q) (fun H' s i v Q' e q => i_ixST (sqT (s _ _ eb)) e q) ha hb f1 h3' h4.2 fun D H' s1 hD => ?_
      kbj_rows
      exact i_all hD (k H' s1)
  | dic h hs => cases h4
/-! ## Data -/
/-! ### data: the same, a copy -/
def rLenD : List V → Hp → VK → Prop := fun vs G R => ∃ a kvs, vs = [V.ref a] ∧ G a = some (.dK kvs) ∧ R (.int kvs.length) G
def rListDk : List V → Hp → VK → Prop := fun vs G R => ∃ (a : Addr) (kvs : List (Key × V)), vs = [.ref a] ∧ Rd G a (.dK kvs) ∧ ∀ p, G p = none → R (.ref p) (upd G p (.lst (kvs.map fun kv => kV kv.1)))
theorem okL_get : ∀ {l : List Dt} {i : Nat} {d : Dt}, Dt.okL l = true → l[i]? = some d → d.okd = true
  | [], i, d, _, e => by simp at e
  | x :: r, i, d, h, e => by
    simp only [Dt.okL, Bool.and_eq_true] at h
    cases i with
    | zero =>
      simp at e
      rw [← e]
      exact h.1
    | succ i => exact okL_get (i := i) h.2 (by simpa using e)
theorem okK_mem : ∀ {l : List (Str × Dt)} {p : Str × Dt}, Dt.okK l = true → p ∈ l → p.2.okd = true ∧ p.2.dep ≤ Dt.depK l
  | [], p, _, e => by cases e
  | (k, x) :: r, p, h, e => by
    simp only [Dt.okK, Bool.and_eq_true] at h
    simp only [Dt.depK]
    rcases List.mem_cons.mp e with e | e
    · rw [e]
      exact ⟨h.1, by show x.dep ≤ _; omega⟩
    · have q := okK_mem h.2 e
      exact ⟨q.1, by omega⟩
theorem Atk.length {H : Hp} : ∀ {kvs : List (Key × V)} {ds : List (Str × Dt)}, Atk H kvs ds → kvs.length = ds.length
  | _, _, .nil => rfl
  | _, _, .cons _ hs => congrArg (· + 1) (Atk.length hs)
theorem Atk.keys {H : Hp} : ∀ {kvs : List (Key × V)} {ds : List (Str × Dt)}, Atk H kvs ds → (kvs.map fun kv => kV kv.1) = ds.map fun kd => V.str kd.1
  | _, _, .nil => rfl
  | _, _, .cons (k := k) _ hs => by
    rw [List.map_cons, List.map_cons, Atk.keys hs]
    rfl
theorem valV_cons {k j : Key} {v : V} {r : List (Key × V)} : valV ((j, v) :: r) k = if j = k then some v else valV r k := by
  unfold valV
  rw [List.find?_cons]
  by_cases h : j = k
  · rw [if_pos h]
    have : decide (j = k) = true := decide_eq_true h
    simp [this]
  · rw [if_neg h]
    have : decide (j = k) = false := decide_eq_false h
    simp [this]
/-- the value under a key that is there -/
theorem Atk.find {H : Hp} : ∀ {kvs : List (Key × V)} {ds : List (Str × Dt)} {k : Str} {d : Dt}, Atk H kvs ds → (ds.map (·.1)).Nodup → (k, d) ∈ ds → ∃ v, valV kvs (Sum.inr k) = some v ∧ At H v d
  | _, _, k, d, .nil, _, h => by cases h
  | _, _, k, d, .cons (k := j) (v := v) (d := e) hv hs, nd, h => by
    rw [valV_cons]
    rw [List.map_cons, List.nodup_cons] at nd
    rcases List.mem_cons.mp h with h | h
    · cases h
      rw [if_pos rfl]
      exact ⟨v, rfl, hv⟩
    · have nj : j ≠ k := fun z => nd.1 (by rw [z]; exact List.mem_map.mpr ⟨(k, d), h, rfl⟩)
      rw [if_neg (fun z => nj (Sum.inr.inj z))]
      exact Atk.find hs nd.2 h
def sp_is_int (K : PySem.W.Frag) : Sp := fun vs H Q _ => ∃ (v : V) (n : String), vs = [v] ∧ Ty0 H v n ∧ Q (.bl (vI v)) H
theorem c_is_int {K : PySem.W.Frag} {v : V} {n : String} {H : Hp} {Q : VK} {E : XK} (h : Ty0 H v n) (q : Q (.bl (vI v)) H) : sp_is_int K [v] H Q E := ⟨v, n, rfl, h, q⟩
def N_l_is_int : List Str := ["_law_value"]
def t_l_is_int (K : PySem.W.Frag) : TS := (tRet (tAndV (tCB (rIsi K) (tCons (tVar 0) (tCons (tC (.ty "int")) tNil))) (tNotV (tCB (rIsi K) (tCons (tVar 0) (tCons (tC (.ty "bool")) tNil))))))
theorem pure_is_int {K : PySem.W.Frag} {vs : List V} {H : Hp} {Q : VK} {E : XK} (h : sp_is_int K vs H Q E) : t_l_is_int K { nx := fun _ H' => Q .non H', rt := Q } (start N_l_is_int vs) H := by
  obtain ⟨v, n, rfl, ht, q⟩ := h
  exact pure_is_whole (K := K) (E := E) ⟨v, n, rfl, ht, q⟩
def Dt.eqI (j : Int) : Dt → Bool
  | .int i => decide (i = j)
  | _ => false
/-- what `same` says of two data, where we need it -/
def SameIs (d1 d2 : Dt) (b : Bool) : Prop := (d1 = d2 ∧ b = true) ∨ ∃ j, d2 = .int j ∧ b = d1.eqI j
def sp_same : Nat → Sp
  | 0 => fun _ _ _ _ => False
  | n + 1 => fun vs H Q _ => ∃ (va vb : V) (d1 d2 : Dt) (b : Bool), vs = [va, vb] ∧ At H va d1 ∧ At H vb d2 ∧ SameIs d1 d2 b ∧ d1.dep ≤ n ∧ d1.okd = true ∧ ∀ H', Same H H' → Q (.bl b) H'
theorem c_same {n : Nat} {va vb : V} {d : Dt} {H : Hp} {Q : VK} {E : XK} (h1 : At H va d) (h2 : At H vb d) (h3 : d.dep ≤ n) (h4 : d.okd = true) (h : ∀ H', Same H H' → Q (.bl true) H') : sp_same (n + 1) [va, vb] H Q E := ⟨va, vb, d, d, true, rfl, h1, h2, .inl ⟨rfl, rfl⟩, h3, h4, h⟩
theorem c_sameI {n : Nat} {va : V} {d : Dt} {j : Int} {H : Hp} {Q : VK} {E : XK} (h1 : At H va d) (h3 : d.dep ≤ n) (h4 : d.okd = true) (h : ∀ H', Same H H' → Q (.bl (d.eqI j)) H') : sp_same (n + 1) [va, .int j] H Q E := ⟨va, .int j, d, .int j, _, rfl, h1, .int j, .inr ⟨j, rfl, rfl⟩, h3, h4, h⟩
theorem i_lenD {H : Hp} {Q : VK} {a : Addr} {kvs : List (Key × V)} (h : H a = some (.dK kvs)) (q : Q (.int kvs.length) H) : rLenD [.ref a] H Q := ⟨a, kvs, rfl, h, q⟩
theorem i_dget {σ : St} {H : Hp} {Q : VK} {td ty : TE} (h : td σ H fun x H1 => ty σ H1 fun y H2 => ∃ a v, x = .ref a ∧ DGet H2 a y (some v) ∧ Q v H2) : tDGet td ty σ H Q := h
instance s_dget {σ : St} {H : Hp} {Q : VK} {td ty : TE} : Stp (tDGet td ty σ H Q) (td σ H fun x H1 => ty σ H1 fun y H2 => ∃ a v, x = .ref a ∧ DGet H2 a y (some v) ∧ Q v H2) := ⟨i_dget⟩
theorem i_dnotin {σ : St} {H : Hp} {Q : VK} {td ty : TE} (h : ty σ H fun y H1 => td σ H1 fun x H2 => ∃ a o, x = .ref a ∧ DGet H2 a y o ∧ Q (.bl (!o.isSome)) H2) : tDNotIn ty td σ H Q := h
instance s_dnotin {σ : St} {H : Hp} {Q : VK} {td ty : TE} : Stp (tDNotIn ty td σ H Q) (ty σ H fun y H1 => td σ H1 fun x H2 => ∃ a o, x = .ref a ∧ DGet H2 a y o ∧ Q (.bl (!o.isSome)) H2) := ⟨i_dnotin⟩
theorem dget_k {H : Hp} {a : Addr} {kvs : List (Key × V)} {k : Str} {v : V} (h : H a = some (.dK kvs)) (e : valV kvs (Sum.inr k) = some v) : DGet H a (.str k) (some v) := by
  rw [← e]
  exact DGet.k (k := Sum.inr k) h
instance s_dput {σ : St} {H : Hp} {D : Ends} {td ty tv : TE} : Stp (sDPut td ty tv D σ H) (tv σ H fun v H1 => td σ H1 fun x H2 => ty σ H2 fun y H3 => ∃ a H4, x = .ref a ∧ DPut H3 a y v H4 ∧ D.nx σ H4) := ⟨fun h => h⟩
/-- a test of the built-in class -/
theorem isi {K : PySem.W.Frag} {H : Hp} {Q : VK} {v : V} {d : Dt} (h : At H v d) (c : String) (b : Bool) (e : kitB d.ty c = some b) (q : Q (.bl b) H) : rIsi K [v, .ty c] H Q := i_isi h.ty e q
def N_l_same : List Str := ["_law_actual", "_law_expected", "_law_key", "_law_k"]
def t_l_same (K : PySem.W.Frag) (n : Nat) : TS := (tSeq (tIfS (tOr (tTest (tOp oIsN (tVar 0) (tC .non))) (tTest (tOp oIsN (tVar 1) (tC .non)))) (tRet (tAndV (tOp oIsN (tVar 0) (tC .non)) (tOp oIsN (tVar 1) (tC .non)))) tNext)
  (tSeq (tIfS (tOr (tB (tCB (rIsi K) (tCons (tVar 0) (tCons (tC (.ty "bool")) tNil)))) (tB (tCB (rIsi K) (tCons (tVar 1) (tCons (tC (.ty "bool")) tNil))))) (tRet (tAndV (tCB (rIsi K) (tCons (tVar 0) (tCons (tC (.ty "bool")) tNil))) (tAndV (tCB (rIsi K) (tCons (tVar 1) (tCons (tC (.ty "bool")) tNil))) (tOp rEq (tVar 0) (tVar 1))))) tNext)
  (tSeq (tIfS (tB (tCB (rIsi K) (tCons (tVar 1) (tCons (tC (.ty "int")) tNil)))) (tRet (tAndV (tCB (rIsi K) (tCons (tVar 0) (tCons (tC (.ty "int")) tNil))) (tOp rEq (tVar 0) (tVar 1)))) tNext)
  (tSeq (tIfS (tB (tCB (rIsi K) (tCons (tVar 1) (tCons (tC (.ty "str")) tNil)))) (tRet (tAndV (tCB (rIsi K) (tCons (tVar 0) (tCons (tC (.ty "str")) tNil))) (tOp rEq (tVar 0) (tVar 1)))) tNext)
  (tSeq (tIfS (tB (tCB (rIsi K) (tCons (tVar 1) (tCons (tC (.ty "dict")) tNil)))) (tSeq (tIfS (tOr (tNot (tB (tCB (rIsi K) (tCons (tVar 0) (tCons (tC (.ty "dict")) tNil))))) (tTest (tOp rNe (tCB rLenD (tCons (tVar 0) tNil)) (tCB rLenD (tCons (tVar 1) tNil))))) (tRet (tC (.bl false))) tNext)
  (tSeq (tFor (iList K (tCB rListDk (tCons (tVar 1) tNil))) (gName 2) (tIfS (tOr (tB (tDNotIn (tVar 2) (tVar 0))) (tNot (tB (tCall (sp_same n) [] E0 (tCons (tDGet (tVar 0) (tVar 2)) (tCons (tDGet (tVar 1) (tVar 2)) tNil)))))) (tRet (tC (.bl false))) tNext))
  (tRet (tC (.bl true))))) tNext)
  (tSeq (tIfS (tTest (tOp rNe (tCB (rIsi K) (tCons (tVar 1) (tCons (tC (.ty "list")) tNil))) (tCB (rIsi K) (tCons (tVar 0) (tCons (tC (.ty "list")) tNil))))) (tRet (tC (.bl false))) tNext)
  (tSeq (tIfS (tTest (tOp rNe (tCB (rIsi K) (tCons (tVar 1) (tCons (tC (.ty "tuple")) tNil))) (tCB (rIsi K) (tCons (tVar 0) (tCons (tC (.ty "tuple")) tNil))))) (tRet (tC (.bl false))) tNext)
  (tSeq (tIfS (tOr (tAnd (tNot (tB (tCB (rIsi K) (tCons (tVar 1) (tCons (tC (.ty "list")) tNil))))) (tNot (tB (tCB (rIsi K) (tCons (tVar 1) (tCons (tC (.ty "tuple")) tNil)))))) (tTest (tOp rNe (tCB (rLen K) (tCons (tVar 0) tNil)) (tCB (rLen K) (tCons (tVar 1) tNil))))) (tRet (tC (.bl false))) tNext)
  (tSeq (tFor (iRng1 (tCons (tCB (rLen K) (tCons (tVar 1) tNil)) tNil)) (gName 3) (tIfS (tNot (tB (tCall (sp_same n) [] E0 (tCons (tOp (rIx K) (tVar 0) (tVar 3)) (tCons (tOp (rIx K) (tVar 1) (tVar 3)) tNil))))) (tRet (tC (.bl false))) tNext))
  (tRet (tC (.bl true))))))))))))

/-- the walk over two rows that hold the same data -/
theorem same_row {K : PySem.W.Frag} {n : Nat} {a b : Addr} {xs ys : List V} {ds : List Dt} {H : Hp} {Q : VK} {x y : Option V} {nx bk ct : St → Hp → Prop} (A : ∀ H', Same H H' → ∀ (i : Int) v (Q' : VK), atI xs i = some v → Q' v H' → rIx K (.ref a) (.int i) H' Q') (B : ∀ H', Same H H' → ∀ (i : Int) v (Q' : VK), atI ys i = some v → Q' v H' → rIx K (.ref b) (.int i) H' Q')
    (h1 : Ats H xs ds) (h2 : Ats H ys ds) (hl : ds.length ≤ 10000) (hd : Dt.depL ds + 1 ≤ n) (hf : Dt.okL ds = true) (k : ∀ σ' H', Same H H' → nx σ' H') :
    ForW (Itr 0 ds.length) (gName 3) (tIfS (tNot (tB (tCall (sp_same n) [] E0 (tCons (tOp (rIx K) (tVar 0) (tVar 3)) (tCons (tOp (rIx K) (tVar 1) (tVar 3)) tNil))))) (tRet (tC (.bl false))) tNext) ⟨nx, Q, bk, ct⟩ [some (.ref a), some (.ref b), x, y] H := by
  refine l_rng (fun i σ H' => Same H H' ∧ ∃ y, σ = [some (.ref a), some (.ref b), x, y]) ⟨Same.refl H, y, rfl⟩ ?_ ?_
  · rintro i σ H' hi ⟨s1, y, rfl⟩
    obtain ⟨d, hd'⟩ : ∃ d, ds[i]? = some d := ⟨_, List.getElem?_eq_getElem hi⟩
    obtain ⟨va, ea, ha⟩ := h1.get hd'
    obtain ⟨vb, eb, hb⟩ := h2.get hd'
    fold_lay
    refine A H' s1 _ va _ (at_of (j := i) (by omega) ea) ?_
    fold_lay
    refine B H' s1 _ vb _ (at_of (j := i) (by omega) eb) ?_
    fold_lay
    cases n with
    | zero => omega
    | succ m =>
      have hdd := depL_get hd'
      refine c_same (ha.mono s1) (hb.mono s1) (by omega) (okL_get hf hd') fun H2 s4 => ?_
      fold_lay
      exact ⟨s1.trans s4, _, rfl⟩
  · rintro σ H' ⟨s1, _⟩
    exact k σ H' s1
theorem pure_same {K : PySem.W.Frag} {n : Nat} {vs : List V} {H : Hp} {Q : VK} {E : XK} (h : sp_same (n + 1) vs H Q E) : t_l_same K n { nx := fun _ H' => Q .non H', rt := Q } (start N_l_same vs) H := by
  obtain ⟨va, vb, d1, d2, b, rfl, h1, h2, hb, h3, h4, k⟩ := h
  unfold t_l_same
  rcases hb with ⟨rfl, rfl⟩ | ⟨j, rfl, rfl⟩
  rotate_left
  · cases h2
    have t0 : Ty0 H (.int j) "int" := .int j
    have t1 := h1.ty
    cases h1 with
    | non => kbj_rows; exact k H (Same.refl H)
    | bl b => simp only [Dt.ty] at t1; kbj_rows; exact k H (Same.refl H)
    | int i => simp only [Dt.ty] at t1; kbj_rows; exact k H (Same.refl H)
    | str x => simp only [Dt.ty] at t1; kbj_rows; exact k H (Same.refl H)
    | lst ea ha => simp only [Dt.ty] at t1; kbj_rows; exact k H (Same.refl H)
    | tup ea ha => simp only [Dt.ty] at t1; kbj_rows; exact k H (Same.refl H)
    | dic ea ha => simp only [Dt.ty] at t1; kbj_rows; exact k H (Same.refl H)
  cases h1 with
  | non => cases h2; kbj_rows; exact k H (Same.refl H)
  | bl b =>
    cases h2
    have t1 : Ty0 H (.bl b) "bool" := .bl b
    kbj_rows
    rw [beq_self_eq_true]
    exact k H (Same.refl H)
  | int i =>
    cases h2
    have t1 : Ty0 H (.int i) "int" := .int i
    kbj_rows
    rw [decide_eq_true rfl]
    exact k H (Same.refl H)
  | str x =>
    cases h2
    have t1 : Ty0 H (.str x) "str" := .str x
    kbj_rows
    rw [decide_eq_true rfl]
    exact k H (Same.refl H)
  | @lst a xs ds ea ha =>
    cases h2 with
    | @lst b ys _ eb hb =>
      have t1 : Ty0 H (.ref a) "list" := .lst ea
      have t2 : Ty0 H (.ref b) "list" := .lst eb
      have l1 := ha.length
      have l2 := hb.length
      simp only [Dt.okd, Bool.and_eq_true] at h4
      have f1 := of_decide_eq_true h4.1
      have h3' : Dt.depL ds + 1 ≤ n := by simpa only [Dt.dep] using h3
      kbj_rows
      refine i_ifn (fun z => absurd (by omega) z) (fun _ => ?_)
      kbj_rows
      refine f_rng1 (by omega) (by omega) ?_
      rw [show (ys.length : Int).toNat = ds.length by omega]
      refine same_row (fun H' s i v Q' e q => i_ixSL (sqL (s _ _ ea)) e q) (fun H' s i v Q' e q => i_ixSL (sqL (s _ _ eb)) e q) ha hb f1 h3' h4.2 fun σ' H' s1 => ?_
      kbj_rows
      exact k H' s1
  | @tup a xs ds ea ha =>
    cases h2 with
    | @tup b ys _ eb hb =>
      have t1 : Ty0 H (.ref a) "tuple" := .tup ea
      have t2 : Ty0 H (.ref b) "tuple" := .tup eb
      have l1 := ha.length
      have l2 := hb.length
      simp only [Dt.okd, Bool.and_eq_true] at h4
      have f1 := of_decide_eq_true h4.1
      have h3' : Dt.depL ds + 1 ≤ n := by simpa only [Dt.dep] using h3
      kbj_rows
      refine i_ifn (fun z => absurd (by omega) z) (fun _ => ?_)
      kbj_rows
      refine f_rng1 (by omega) (by omega) ?_
      rw [show (ys.length : Int).toNat = ds.length by omega]
      refine same_row (fun H' s i v Q' e q => i_ixST (sqT (s _ _ ea)) e q) (fun H' s i v Q' e q => i_ixST (sqT (s _ _ eb)) e q) ha hb f1 h3' h4.2 fun σ' H' s1 => ?_
      kbj_rows
      exact k H' s1
  | @dic a kv1 ds ea ha =>
    cases h2 with
    | @dic b kv2 _ eb hb =>
      have t1 : Ty0 H (.ref a) "dict" := .dic ea
      have t2 : Ty0 H (.ref b) "dict" := .dic eb
      have l1 := ha.length
      have l2 := hb.length
      simp only [Dt.okd, Bool.and_eq_true] at h4
      have f1 := of_decide_eq_true h4.1.1
      have f2 := of_decide_eq_true h4.1.2
      have h3' : Dt.depK ds + 1 ≤ n := by simpa only [Dt.dep] using h3
      kbj_rows
      refine i_lenD ea ?_
      kbj_rows
      refine i_lenD eb ?_
      kbj_rows
      refine i_ifn (fun z => absurd (by omega) z) (fun _ => ?_)
      kbj_rows
      refine ⟨b, kv2, rfl, .inl eb, fun p hp => ?_⟩
      rw [hb.keys]
      refine f_lst (sqL upd_same) (l_lst (fun i σ H' => Same (upd H p (.lst (ds.map fun kd => V.str kd.1))) H' ∧ ∃ x y, σ = [some (.ref a), some (.ref b), x, y]) ⟨Same.refl _, _, _, rfl⟩ (fun i σ H' _ h => sqL (h.1 _ _ upd_same)) ?_ ?_)
      · rintro i x σ H' hx ⟨s1, y, z, rfl⟩
        have s0 := (same_new (o := .lst (ds.map fun kd => V.str kd.1)) hp).trans s1
        rw [List.getElem?_map, Option.map_eq_some_iff] at hx
        obtain ⟨⟨kk, d⟩, hk, rfl⟩ := hx
        have hm := List.mem_of_getElem? hk
        obtain ⟨v1, e1, a1⟩ := ha.find f2 hm
        obtain ⟨v2, e2, a2⟩ := hb.find f2 hm
        have ok := okK_mem h4.2 hm
        kbj_rows
        refine ⟨a, some v1, rfl, dget_k (s0 _ _ ea) e1, ?_⟩
        kbj_rows
        refine i_ifF ?_
        kbj_rows
        refine ⟨a, v1, rfl, dget_k (s0 _ _ ea) e1, ?_⟩
        kbj_rows
        refine ⟨b, v2, rfl, dget_k (s0 _ _ eb) e2, ?_⟩
        kbj_rows
        cases n with
        | zero => omega
        | succ m =>
          refine c_same (a1.mono s0) (a2.mono s0) (by have := ok.2; simp only at this; omega) ok.1 fun H2 s4 => ?_
          kbj_rows
          exact ⟨s1.trans s4, _, _, rfl⟩
      · rintro σ H' ⟨s1, _⟩
        kbj_rows
        exact k H' ((same_new hp).trans s1)

def sp_copy : Nat → Sp
  | 0 => fun _ _ _ _ => False
  | n + 1 => fun vs H Q _ => ∃ (v : V) (d : Dt), vs = [v] ∧ At H v d ∧ d.dep ≤ n ∧ d.okd = true ∧ ∀ v' H', At (nw H H') v' d → Same H H' → Q v' H'
theorem c_copy {n : Nat} {v : V} {d : Dt} {H : Hp} {Q : VK} {E : XK} (h1 : At H v d) (h3 : d.dep ≤ n) (h4 : d.okd = true) (h : ∀ v' H', At (nw H H') v' d → Same H H' → Q v' H') : sp_copy (n + 1) [v] H Q E := ⟨v, d, rfl, h1, h3, h4, h⟩
/-- what was copied ahead stays beside the growing row at D -/
theorem beside_old {H H1 H2 : Hp} {D : Addr} {o : HO} (k : Same H1 H2) : Same (hid D (nw H H1)) (hid D (nw H (upd H2 D o))) := fun b u e => by
  obtain ⟨e1, e2⟩ := hid_of e
  obtain ⟨e3, e4⟩ := nw_of e1
  exact hid_to (nw_to e3 (upd_off e2 (k _ _ e4))) e2
theorem beside_new {H H1 H2 : Hp} {D : Addr} {o o1 : HO} (h0 : Same H H1 ∨ ∀ b u, H b = some u → b ≠ D → H1 b = some u) (hD : H1 D = some o1) (hn : H D = none) : Same (nw H1 H2) (hid D (nw H (upd H2 D o))) := fun b u e => by
  obtain ⟨e1, e2⟩ := nw_of e
  have nb : b ≠ D := fun z => by
    rw [z, hD] at e1
    cases e1
  have hb : H b = none := by
    cases q : H b with
    | none => rfl
    | some w =>
      rcases h0 with h0 | h0
      · rw [h0 b w q] at e1
        cases e1
      · rw [h0 b w q nb] at e1
        cases e1
  exact hid_to (nw_to hb (upd_off nb e2)) nb
theorem Ats.snoc {H : Hp} : ∀ {vs : List V} {ds : List Dt} {v : V} {d : Dt}, Ats H vs ds → At H v d → Ats H (vs ++ [v]) (ds ++ [d])
  | _, _, _, _, .nil, h => .cons h .nil
  | _, _, _, _, .cons h1 hs, h => .cons h1 (Ats.snoc hs h)
theorem Atk.snoc {H : Hp} : ∀ {vs : List (Key × V)} {ds : List (Str × Dt)} {k : Str} {v : V} {d : Dt}, Atk H vs ds → At H v d → Atk H (vs ++ [(Sum.inr k, v)]) (ds ++ [(k, d)])
  | _, _, _, _, _, .nil, h => .cons h .nil
  | _, _, _, _, _, .cons h1 hs, h => .cons h1 (Atk.snoc hs h)
theorem hid_nw_sub {H H1 : Hp} {D : Addr} : Same (hid D (nw H H1)) (nw H H1) := hid_same
/-- the copies of a row's items, in a new list -/
theorem copy_row {K : PySem.W.Frag} {n : Nat} {J : It} {xs : List V} {ds : List Dt} {H : Hp} {Q : VK} {σ : St} (hJ : ∀ (Pv : Addr → Nat → Hp → Prop), (∀ D, H D = none → Pv D 0 (upd H D (.lst []))) → (∀ D i H', i ≤ xs.length → Pv D i H' → Same H H') →
      (∀ D i x H', xs[i]? = some x → Pv D i H' → gName 3 x (wipe σ [3]) H' fun σ2 H2 => wipe σ2 [3] = wipe σ [3] ∧ tYes σ2 H2 fun b H3 => if b = true then tCall (sp_copy n) [] E0 (tCons (tVar 3) tNil) σ2 H3 fun y H4 => ∃ acc, H4 D = some (.lst acc) ∧ acc.length < sizeLine ∧ Pv D (i + 1) (upd H4 D (.lst (acc ++ [y]))) else Pv D (i + 1) H3) →
      (∀ D H', Pv D xs.length H' → Q (.ref D) H') → LcW J (gName 3) tYes (tCall (sp_copy n) [] E0 (tCons (tVar 3) tNil)) [3] σ H Q)
    (hσ : ∀ x, ((wipe σ [3]).set 3 (some x))[3]? = some (some x)) (hw : ∀ x, wipe ((wipe σ [3]).set 3 (some x)) [3] = wipe σ [3])
    (h1 : Ats H xs ds) (hl : ds.length ≤ 10000) (hd : Dt.depL ds + 1 ≤ n) (hf : Dt.okL ds = true)
    (k : ∀ D ys H', Same H H' → H D = none → H' D = some (.lst ys) → Ats (hid D (nw H H')) ys ds → Q (.ref D) H') : LcW J (gName 3) tYes (tCall (sp_copy n) [] E0 (tCons (tVar 3) tNil)) [3] σ H Q := by
  have hlen := h1.length
  refine hJ (fun D i H' => Same H H' ∧ H D = none ∧ ∃ ys, H' D = some (.lst ys) ∧ Ats (hid D (nw H H')) ys (ds.take i)) ?_ ?_ ?_ ?_
  · exact fun D hD => ⟨same_new hD, hD, [], upd_same, .nil⟩
  · exact fun D i H' _ h => h.1
  · rintro D i x H' hx ⟨s1, hn, ys, hys, hat⟩
    have hi : i < ds.length := by
      have := (List.getElem?_eq_some_iff.mp hx).1
      omega
    obtain ⟨d, hd'⟩ : ∃ d, ds[i]? = some d := ⟨_, List.getElem?_eq_getElem hi⟩
    obtain ⟨va, ea, ha⟩ := h1.get hd'
    rw [hx] at ea
    obtain rfl : x = va := Option.some.inj ea
    refine i_gname ⟨hw _, ?_⟩
    fold_lay
    refine i_var (hσ x) ?_
    fold_lay
    cases n with
    | zero => omega
    | succ m =>
      have hdd := depL_get hd'
      have hly := hat.length
      rw [List.length_take] at hly
      refine c_copy (ha.mono s1) (by omega) (okL_get hf hd') fun v' H2 hv' s2 => ?_
      refine ⟨ys, s2 _ _ hys, szl (by omega), ?_, hn, _, upd_same, ?_⟩
      · exact fun b o e => upd_off (ne_of_none e hn) (s2 _ _ (s1 _ _ e))
      · rw [take_more hd']
        exact (hat.mono (beside_old s2)).snoc (hv'.mono (beside_new (.inl s1) hys hn))
  · rintro D H' ⟨s1, hn, ys, hys, hat⟩
    rw [hlen, List.take_length] at hat
    exact k D ys H' s1 hn hys hat
def N_l_copy : List Str := ["_law_value", "_law_twin", "_law_key", "_law_one"]
def t_l_copy (K : PySem.W.Frag) (n : Nat) : TS := (tSeq (tIfS (tB (tCB (rIsi K) (tCons (tVar 0) (tCons (tC (.ty "list")) tNil)))) (tRet (tLc (iList K (tVar 0)) (gName 3) tYes (tCall (sp_copy n) [] E0 (tCons (tVar 3) tNil)) [3])) tNext)
  (tSeq (tIfS (tB (tCB (rIsi K) (tCons (tVar 0) (tCons (tC (.ty "tuple")) tNil)))) (tRet (tCB (rTupleOf K) (tCons (tLc (iTup K (tVar 0)) (gName 3) tYes (tCall (sp_copy n) [] E0 (tCons (tVar 3) tNil)) [3]) tNil))) tNext)
  (tSeq (tIfS (tB (tCB (rIsi K) (tCons (tVar 0) (tCons (tC (.ty "dict")) tNil)))) (tSeq (tAsg tDNewK (gName 1))
  (tSeq (tFor (iList K (tCB rListDk (tCons (tVar 0) tNil))) (gName 2) (sDPut (tVar 1) (tVar 2) (tCall (sp_copy n) [] E0 (tCons (tDGet (tVar 0) (tVar 2)) tNil))))
  (tRet (tVar 1)))) tNext)
  (tRet (tVar 0)))))
theorem take_fresh : ∀ {ds : List (Str × Dt)} {i : Nat} {p : Str × Dt}, (ds.map (·.1)).Nodup → ds[i]? = some p → p.1 ∉ (ds.take i).map (·.1)
  | [], i, p, _, e => by simp at e
  | x :: r, 0, p, _, e => by simp
  | x :: r, i + 1, p, nd, e => by
    rw [List.map_cons, List.nodup_cons] at nd
    rw [List.getElem?_cons_succ] at e
    rw [List.take_succ_cons, List.map_cons, List.mem_cons, not_or]
    exact ⟨fun z => nd.1 (by rw [← z]; exact List.mem_map.mpr ⟨p, List.mem_of_getElem? e, rfl⟩), take_fresh nd.2 e⟩
theorem putK_fresh {kvs : List (Key × V)} {k : Key} {v : V} (h : ∀ kv ∈ kvs, kv.1 ≠ k) : putK kvs k v = kvs ++ [(k, v)] := by
  unfold putK
  rw [if_neg]
  intro z
  rw [List.any_eq_true] at z
  obtain ⟨kv, h1, h2⟩ := z
  exact h kv h1 (of_decide_eq_true h2)
theorem Atk.fresh {H : Hp} {k : Str} : ∀ {kvs : List (Key × V)} {ds : List (Str × Dt)}, Atk H kvs ds → k ∉ ds.map (·.1) → ∀ kv ∈ kvs, kv.1 ≠ Sum.inr k
  | _, _, .nil, _, kv, h => by cases h
  | _, _, .cons (k := j) hv hs, hn, kv, h => by
    rw [List.map_cons, List.mem_cons, not_or] at hn
    rcases List.mem_cons.mp h with h | h
    · rw [h]
      exact fun z => hn.1 (Sum.inr.inj z).symm
    · exact Atk.fresh hs hn.2 kv h
theorem pure_copy {K : PySem.W.Frag} {n : Nat} {vs : List V} {H : Hp} {Q : VK} {E : XK} (h : sp_copy (n + 1) vs H Q E) : t_l_copy K n { nx := fun _ H' => Q .non H', rt := Q } (start N_l_copy vs) H := by
  obtain ⟨v, d, rfl, h1, h3, h4, k⟩ := h
  unfold t_l_copy
  cases h1 with
  | non => have t1 : Ty0 H .non "NoneType" := .non; kbj_rows; exact k _ H .non (Same.refl H)
  | bl b => have t1 : Ty0 H (.bl b) "bool" := .bl b; kbj_rows; exact k _ H (.bl b) (Same.refl H)
  | int i => have t1 : Ty0 H (.int i) "int" := .int i; kbj_rows; exact k _ H (.int i) (Same.refl H)
  | str x => have t1 : Ty0 H (.str x) "str" := .str x; kbj_rows; exact k _ H (.str x) (Same.refl H)
  | @lst a xs ds ea ha =>
    have t1 : Ty0 H (.ref a) "list" := .lst ea
    simp only [Dt.okd, Bool.and_eq_true] at h4
    have f1 := of_decide_eq_true h4.1
    have h3' : Dt.depL ds + 1 ≤ n := by simpa only [Dt.dep] using h3
    kbj_rows
    refine c_lst (sqL ea) (copy_row (K := K) (fun Pv p0 pl ps pd => m_lst (K := K) (a := a) (xs := xs) Pv p0 (fun D i H' hi hp => sqL (pl D i H' hi hp _ _ ea)) ps pd) (fun x => rfl) (fun x => rfl) ha f1 h3' h4.2 fun D ys H' s1 hn hD hat => ?_)
    exact k _ H' (.lst (nw_to hn hD) (hat.mono hid_nw_sub)) s1
  | @tup a xs ds ea ha =>
    have t1 : Ty0 H (.ref a) "tuple" := .tup ea
    simp only [Dt.okd, Bool.and_eq_true] at h4
    have f1 := of_decide_eq_true h4.1
    have h3' : Dt.depL ds + 1 ≤ n := by simpa only [Dt.dep] using h3
    kbj_rows
    refine c_tup (sqT ea) (copy_row (K := K) (fun Pv p0 pl ps pd => m_tup (K := K) (a := a) (xs := xs) Pv p0 (fun D i H' hi hp => sqT (pl D i H' hi hp _ _ ea)) ps pd) (fun x => rfl) (fun x => rfl) ha f1 h3' h4.2 fun D ys H' s1 hn hD hat => ?_)
    kbj_rows
    refine ⟨D, ys, rfl, .inl ⟨sqL hD, fun p hp => ?_⟩⟩
    refine k _ _ (.tup (nw_to (s1.free hp) upd_same) (hat.mono ?_)) (s1.trans (same_new hp))
    exact fun b o e => by
      obtain ⟨e1, e2⟩ := nw_of (hid_same _ _ e)
      exact nw_to e1 (upd_keep hp e2)
  | @dic a kvs ds ea ha =>
    have t1 : Ty0 H (.ref a) "dict" := .dic ea
    simp only [Dt.okd, Bool.and_eq_true] at h4
    have f1 := of_decide_eq_true h4.1.1
    have f2 := of_decide_eq_true h4.1.2
    have h3' : Dt.depK ds + 1 ≤ n := by simpa only [Dt.dep] using h3
    kbj_rows
    intro p hp
    kbj_rows
    refine ⟨a, kvs, rfl, .inl (upd_keep hp ea), fun q hq => ?_⟩
    rw [ha.keys]
    have np : p ≠ q := ne_of_none upd_same hq
    have h0 : upd H p (.dK []) p = some (.dK []) := upd_same
    refine f_lst (sqL upd_same) (l_lst (xs := ds.map fun kd => V.str kd.1) (fun i σ H' => Same H H' ∧ H' q = some (.lst (ds.map fun kd => V.str kd.1)) ∧ (∃ kw, H' p = some (.dK kw) ∧ Atk (hid p (nw H H')) kw (ds.take i)) ∧ ∃ x y, σ = [some (.ref a), some (.ref p), x, y]) ⟨(same_new hp).trans (same_new hq), upd_same, ⟨[], upd_keep hq h0, .nil⟩, _, _, rfl⟩ (fun i σ H' _ h => sqL h.2.1) ?_ ?_)
    · rintro i x σ H' hx ⟨s1, hq', ⟨kw, hkw, hat⟩, y, z, rfl⟩
      rw [List.getElem?_map, Option.map_eq_some_iff] at hx
      obtain ⟨⟨kk, d⟩, hk, rfl⟩ := hx
      have hm := List.mem_of_getElem? hk
      obtain ⟨v1, e1, a1⟩ := ha.find f2 hm
      have ok := okK_mem h4.2 hm
      kbj_rows
      refine ⟨a, v1, rfl, dget_k (s1 _ _ ea) e1, ?_⟩
      kbj_rows
      cases n with
      | zero => omega
      | succ m =>
        refine c_copy (a1.mono s1) (by have := ok.2; simp only at this; omega) ok.1 fun v' H2 hv' s2 => ?_
        kbj_rows
        refine ⟨p, _, rfl, DPut.k (k := Sum.inr kk) (s2 _ _ hkw) (szl (by have := hat.length; rw [List.length_take] at this; omega)), ?_⟩
        have nk : kk ∉ (ds.take i).map (·.1) := take_fresh f2 hk
        rw [putK_fresh (hat.fresh nk)]
        refine ⟨fun b o e => upd_off (ne_of_none e hp) (s2 _ _ (s1 _ _ e)), upd_off (Ne.symm np) (s2 _ _ hq'), ⟨_, upd_same, ?_⟩, _, _, rfl⟩
        rw [take_more hk]
        exact (hat.mono (beside_old s2)).snoc (hv'.mono (beside_new (.inl s1) hkw hp))
    · rintro σ H' ⟨s1, hq', ⟨kw, hkw, hat⟩, y, z, rfl⟩
      rw [List.length_map, List.take_length] at hat
      kbj_rows
      exact k _ H' (.dic (nw_to hp hkw) (hat.mono hid_nw_sub)) s1
/-! ## Seq -/
/-! ### for over what may be a list or a tuple -/
def iSeq (K : PySem.W.Frag) (tl : TE) : TI := fun σ H R => tl σ H fun x H1 => ∃ a, x = .ref a ∧ (((∃ xs, SqL K H1 a xs) ∧ R (Itl K a) H1) ∨ ((∃ xs, SqT K H1 a xs) ∧ R (Itt K a) H1))
/-- a fresh walk at the heap's end -/
theorem fresh_fp {X : Cx} {pins : List (Addr × Obj)} {σ : St} {H : Hp} {g : Shared} (J : Inv X pins σ H g) : ∀ b ∈ [g.heap.objs.size], FpOk X pins H b := fun b hb => by
  rw [List.mem_singleton.mp hb]
  exact J.fpOk (Nat.le_refl _) (J.hok.fresh (Nat.le_refl _))
theorem pi_seq {X : Cx} {tg l : Expr} {tl : TE} (hl : PE X l tl) : PI X tg l (iSeq X.K tl) := by
  constructor
  intro pins g σ H R J h
  refine thn (hl.run pins g σ H _ J h) fun u g1 z => ?_
  obtain ⟨y, G, J1, ry, a, ey, q⟩ := z
  subst ey
  obtain rfl : u = .ref a := ry
  rcases q with ⟨⟨xs, hx⟩, q⟩ | ⟨⟨xs, hx⟩, q⟩
  · obtain ⟨its, _, at1, _⟩ := J1.list hx
    refine wpAny_pyIter_list at1.isList ⟨_, _, _, _, G, rfl, ?_, turn_list a _, ⟨_, Heap.get?_push_size _ rfl, rfl, rfl⟩, fun b hb => ?_, q⟩
    · exact J1.kept (t' := g1.toks) fun b o e => Heap.get?_push_of_some _ e
    · exact fresh_fp J1 b hb
  · obtain ⟨its, _, at1, _⟩ := J1.tuple hx
    have at2 : g1.heap.IsTuple a its.toArray := at1
    refine wpAny_pyIter_tuple at2 ⟨_, _, _, _, G, rfl, ?_, turn_tuple a _, ⟨_, Heap.get?_push_size _ rfl, rfl, rfl⟩, fun b hb => ?_, q⟩
    · exact J1.kept (t' := g1.toks) fun b o e => Heap.get?_push_of_some _ e
    · exact fresh_fp J1 b hb
instance s_forS {K : PySem.W.Frag} {σ : St} {H : Hp} {D : Ends} {g : TG} {tb : TS} {tl : TE} : Stp (tFor (iSeq K tl) g tb D σ H) (tl σ H fun x H1 => ∃ a, x = .ref a ∧ (((∃ xs, SqL K H1 a xs) ∧ ForW (Itl K a) g tb D σ H1) ∨ ((∃ xs, SqT K H1 a xs) ∧ ForW (Itt K a) g tb D σ H1))) := ⟨fun h => h⟩
/-! ## Enum -/
/-! ### for .. in enumerate(list); tuples among the constants -/
section
variable {K : PySem.W.Frag} {σ : St} {H : Hp} {g : TG} {tb : TS} {a : Addr} {xs : List V} {nx bk ct : St → Hp → Prop} {rt : VK}
theorem l_enum (Pv : Nat → St → Hp → Prop) (h0 : Pv 0 σ H) (hl : ∀ i σ' H', i ≤ xs.length → Pv i σ' H' → SqL K H' a xs)
    (hs : ∀ i x σ' H' T, xs[i]? = some x → Pv i σ' H' → H' T = none → g (.ref T) σ' (upd H' T (.tup [.int (i : Nat), x])) fun σ2 H2 => tb ⟨Pv (i + 1), rt, nx, Pv (i + 1)⟩ σ2 H2) (hd : ∀ σ' H', Pv xs.length σ' H' → nx σ' H') : ForW (Ite K a) g tb ⟨nx, rt, bk, ct⟩ σ H := by
  refine ⟨fun i m σ' H' => m + i = xs.length ∧ Pv i σ' H', ⟨xs.length, rfl, h0⟩, fun i m σ' H' h => ?_⟩
  obtain ⟨hm, hp⟩ := h
  have q := hl i σ' H' (by omega) hp
  cases m with
  | zero =>
    have e : i = xs.length := by omega
    subst e
    exact .inl ⟨⟨xs, q, Nat.le_refl _⟩, hd σ' H' hp⟩
  | succ m =>
    have hi : xs[i]? = some (xs[i]'(by omega)) := List.getElem?_eq_getElem _
    refine .inr ⟨⟨xs, _, q, hi⟩, Pv (i + 1), fun σ2 H2 p2 => ⟨m, by omega, by omega, p2⟩, fun v H2 y => ?_⟩
    obtain ⟨T, x, rfl, hT, rfl, hx⟩ := y
    exact hs i x σ' H' T (hx xs q) hp hT
instance s_forE {D : Ends} {ta : TA} : Stp (tFor (iEnum K ta) g tb D σ H) (ta σ H fun vs H1 => ∃ a xs, vs = [.ref a] ∧ SqL K H1 a xs ∧ ForW (Ite K a) g tb D σ H1) := ⟨fun h => h⟩
end
/-- a tuple of ints among the constants -/
def KTup (K : PySem.W.Frag) (a : Addr) (l : List Int) : Prop := ∃ (o : Obj) (its : Array Value) (n : Nat), K.lookup a = some o ∧ o.cls = .type "tuple" ∧ o.data = .seq its n ∧ its.size ≤ sizeLine ∧ Vals (l.map V.int) its.toList
theorem KTup.sq {K : PySem.W.Frag} {a : Addr} {l : List Int} {H : Hp} (h : KTup K a l) : SqT K H a (l.map V.int) := .inr h
/-! ## Data2 -/
/-! ### rows of ints -/
theorem at_isI {H : Hp} {v : V} {d : Dt} (h : At H v d) : vI v = d.isI := by
  cases h <;> rfl
def isInts (l : Bool) (n : Int) : Dt → Bool
  | .lst ds => l && ((decide (n < 0) || decide ((ds.length : Int) = n)) && ds.all Dt.isI)
  | .tup ds => !l && ((decide (n < 0) || decide ((ds.length : Int) = n)) && ds.all Dt.isI)
  | _ => false
def sp_is_ints (K : PySem.W.Frag) : Sp := fun vs H Q _ => ∃ (v : V) (l : Bool) (n : Int) (d : Dt), vs = [v, .bl l, .int n] ∧ At H v d ∧ Q (.bl (isInts l n d)) H
theorem c_is_ints {K : PySem.W.Frag} {v : V} {l : Bool} {n : Int} {d : Dt} {H : Hp} {Q : VK} {E : XK} (h : At H v d) (q : Q (.bl (isInts l n d)) H) : sp_is_ints K [v, .bl l, .int n] H Q E := ⟨v, l, n, d, rfl, h, q⟩
def N_l_is_ints : List Str := ["_law_value", "_law_listed", "_law_many", "_law_one"]
def t_l_is_ints (K : PySem.W.Frag) : TS := (tSeq (tIfS (tOr (tAnd (tB (tVar 1)) (tNot (tB (tCB (rIsi K) (tCons (tVar 0) (tCons (tC (.ty "list")) tNil)))))) (tAnd (tNot (tB (tVar 1))) (tNot (tB (tCB (rIsi K) (tCons (tVar 0) (tCons (tC (.ty "tuple")) tNil))))))) (tRet (tC (.bl false))) tNext)
  (tSeq (tIfS (tAnd (tTest (tOp oGe (tVar 2) (tC (.int 0)))) (tTest (tOp rNe (tCB (rLen K) (tCons (tVar 0) tNil)) (tVar 2)))) (tRet (tC (.bl false))) tNext)
  (tSeq (tFor (iSeq K (tVar 0)) (gName 3) (tIfS (tNot (tB (tCall (sp_is_int K) [] E0 (tCons (tVar 3) tNil)))) (tRet (tC (.bl false))) tNext))
  (tRet (tC (.bl true))))))
theorem ints_row {K : PySem.W.Frag} {H : Hp} {Q : VK} {xs : List V} {ds : List Dt} {J : It} {nx bk ct : St → Hp → Prop} {σ0 : List (Option V)} {x0 : Option V} (hJ : ∀ (Pv : Nat → St → Hp → Prop), Pv 0 (σ0 ++ [x0]) H → (∀ i σ' H', Pv i σ' H' → H' = H) → (∀ i x σ' H', xs[i]? = some x → Pv i σ' H' → gName 3 x σ' H' fun σ2 H2 => tIfS (tNot (tB (tCall (sp_is_int K) [] E0 (tCons (tVar 3) tNil)))) (tRet (tC (.bl false))) tNext ⟨Pv (i + 1), Q, nx, Pv (i + 1)⟩ σ2 H2) → (∀ σ' H', Pv xs.length σ' H' → nx σ' H') → ForW J (gName 3) (tIfS (tNot (tB (tCall (sp_is_int K) [] E0 (tCons (tVar 3) tNil)))) (tRet (tC (.bl false))) tNext) ⟨nx, Q, bk, ct⟩ (σ0 ++ [x0]) H)
    (h0 : σ0.length = 3) (h : Ats H xs ds) (k1 : ds.all Dt.isI = true → ∀ σ', nx σ' H) (k2 : ds.all Dt.isI = false → Q (.bl false) H) : ForW J (gName 3) (tIfS (tNot (tB (tCall (sp_is_int K) [] E0 (tCons (tVar 3) tNil)))) (tRet (tC (.bl false))) tNext) ⟨nx, Q, bk, ct⟩ (σ0 ++ [x0]) H := by
  match σ0, h0 with
  | [a1, a2, a3], _ =>
    refine hJ (fun i σ' H' => H' = H ∧ (ds.take i).all Dt.isI = true ∧ ∃ y, σ' = [a1, a2, a3] ++ [y]) ⟨rfl, rfl, x0, rfl⟩ (fun i σ' H' h => h.1) ?_ ?_
    · rintro i x σ' H' hx ⟨rfl, ht, y, rfl⟩
      have hi := (List.getElem?_eq_some_iff.mp hx).1
      have hl := h.length
      obtain ⟨d, hd⟩ : ∃ d, ds[i]? = some d := ⟨_, List.getElem?_eq_getElem (by omega)⟩
      obtain ⟨va, ea, ha⟩ := h.get hd
      rw [hx] at ea
      obtain rfl : x = va := Option.some.inj ea
      fold_lay
      refine c_is_int ha.ty ?_
      rw [at_isI ha]
      fold_lay
      refine i_ifb (fun z => ?_) (fun z => ?_)
      · fold_lay
        refine k2 ?_
        rw [← Bool.not_eq_true]
        intro w
        have := List.all_eq_true.mp w d (List.mem_of_getElem? hd)
        rw [this] at z
        cases z
      · fold_lay
        refine ⟨rfl, ?_, _, rfl⟩
        rw [take_more hd, List.all_append, ht]
        simpa using z
    · rintro σ' H' ⟨rfl, ht, y, rfl⟩
      rw [h.length, List.take_length] at ht
      exact k1 ht _
theorem pure_is_ints {K : PySem.W.Frag} {vs : List V} {H : Hp} {Q : VK} {E : XK} (h : sp_is_ints K vs H Q E) : t_l_is_ints K { nx := fun _ H' => Q .non H', rt := Q } (start N_l_is_ints vs) H := by
  obtain ⟨v, l, n, d, rfl, h1, k⟩ := h
  unfold t_l_is_ints
  have t1 := h1.ty
  cases h1 with
  | non => simp only [Dt.ty] at t1; cases l <;> kbj_rows <;> exact k
  | bl b => simp only [Dt.ty] at t1; cases l <;> kbj_rows <;> exact k
  | int i => simp only [Dt.ty] at t1; cases l <;> kbj_rows <;> exact k
  | str x => simp only [Dt.ty] at t1; cases l <;> kbj_rows <;> exact k
  | dic ea ha => simp only [Dt.ty] at t1; cases l <;> kbj_rows <;> exact k
  | @lst a xs ds ea ha =>
    simp only [Dt.ty] at t1
    have hl := ha.length
    cases l
    · kbj_rows; exact k
    fold_depth
    refine i_cut (fun σ' H' => H' = H ∧ (decide (n < 0) || decide ((ds.length : Int) = n)) = true ∧ σ' = [some (.ref a), some (.bl true), some (.int n), none]) ?_ (fun nx key => ?_)
    · rintro σ' H' ⟨rfl, hc, rfl⟩
      fold_depth
      refine ⟨a, rfl, .inl ⟨⟨_, sqL ea⟩, ?_⟩⟩
      refine ints_row (σ0 := [some (.ref a), some (.bl true), some (.int n)]) (fun Pv p0 pe ps pd => l_lst (xs := xs) Pv p0 (fun i σ' H' _ h => sqL (by rw [pe i σ' H' h]; exact ea)) ps pd) rfl ha (fun w σ' => ?_) (fun w => ?_)
      · fold_lay
        simpa [isInts, hc, w] using k
      · simpa [isInts, hc, w] using k
    · fold_lay
      refine i_ifd (fun h1 => ?_) (fun h1 => ?_)
      · fold_lay
        refine i_ifn (fun h2 => ?_) (fun h2 => ?_)
        · fold_lay
          have : (decide (n < 0) || decide ((ds.length : Int) = n)) = false := by simp; omega
          simpa [isInts, this] using k
        · fold_lay
          exact key _ _ ⟨rfl, by simp; omega, rfl⟩
      · fold_lay
        exact key _ _ ⟨rfl, by simp; omega, rfl⟩
  | @tup a xs ds ea ha =>
    simp only [Dt.ty] at t1
    have hl := ha.length
    cases l
    rotate_left
    · kbj_rows; exact k
    fold_depth
    refine i_cut (fun σ' H' => H' = H ∧ (decide (n < 0) || decide ((ds.length : Int) = n)) = true ∧ σ' = [some (.ref a), some (.bl false), some (.int n), none]) ?_ (fun nx key => ?_)
    · rintro σ' H' ⟨rfl, hc, rfl⟩
      fold_depth
      refine ⟨a, rfl, .inr ⟨⟨_, sqT ea⟩, ?_⟩⟩
      refine ints_row (σ0 := [some (.ref a), some (.bl false), some (.int n)]) (fun Pv p0 pe ps pd => l_tup (xs := xs) Pv p0 (fun i σ' H' _ h => sqT (by rw [pe i σ' H' h]; exact ea)) ps pd) rfl ha (fun w σ' => ?_) (fun w => ?_)
      · fold_lay
        simpa [isInts, hc, w] using k
      · simpa [isInts, hc, w] using k
    · fold_lay
      refine i_ifd (fun h1 => ?_) (fun h1 => ?_)
      · fold_lay
        refine i_ifn (fun h2 => ?_) (fun h2 => ?_)
        · fold_lay
          have : (decide (n < 0) || decide ((ds.length : Int) = n)) = false := by simp; omega
          simpa [isInts, this] using k
        · fold_lay
          exact key _ _ ⟨rfl, by simp; omega, rfl⟩
      · fold_lay
        exact key _ _ ⟨rfl, by simp; omega, rfl⟩
/-! ## Told -/
/-! ### refusals, asked under try -/
theorem i_isX {K : PySem.W.Frag} {H : Hp} {Q : VK} {a D dd C : Addr} {fs : List (Str × V)} {b : Bool} (ha : H a = some (exi a (.ref D) (some dd))) (hd : H dd = some (.xd fs)) (hD : ExcC K D) (e : PySem.W.kitOne K (.ref D) (.ref C) = some b) (q : Q (.bl b) H) : rIsX K [.ref a, .ref C] H Q :=
  ⟨a, D, dd, fs, .ref C, .ref C, b, rfl, .own C, ha, hd, hD, e, q⟩
theorem i_isXt {K : PySem.W.Frag} {H : Hp} {Q : VK} {a D dd : Addr} {t : String} {fs : List (Str × V)} {b : Bool} (ha : H a = some (exi a (.ref D) (some dd))) (hd : H dd = some (.xd fs)) (hD : ExcC K D) (e : PySem.W.kitOne K (.ref D) (.type t) = some b) (q : Q (.bl b) H) : rIsX K [.ref a, .ty t] H Q :=
  ⟨a, D, dd, fs, .ty t, .type t, b, rfl, .ty t, ha, hd, hD, e, q⟩
theorem i_xt {K : PySem.W.Frag} {σ : St} {H : Hp} {Q : VK} {f : Str} {te : TE} (h : te σ H fun x H1 => ∃ (a C dd : Addr) (fs : List (Str × V)) (v : V), x = .ref a ∧ H1 a = some (exi a (.ref C) (some dd)) ∧ XfC K C ∧ PySem.W.findIn K (.ref C) f = some none ∧ H1 dd = some (.xd fs) ∧ fs.lookup f = some v ∧ Q v H1) : tXt K f te σ H Q := h
instance s_xt {K : PySem.W.Frag} {σ : St} {H : Hp} {Q : VK} {f : Str} {te : TE} : Stp (tXt K f te σ H Q) (te σ H fun x H1 => ∃ (a C dd : Addr) (fs : List (Str × V)) (v : V), x = .ref a ∧ H1 a = some (exi a (.ref C) (some dd)) ∧ XfC K C ∧ PySem.W.findIn K (.ref C) f = some none ∧ H1 dd = some (.xd fs) ∧ fs.lookup f = some v ∧ Q v H1) := ⟨i_xt⟩
theorem i_cat {H : Hp} {Q : VK} {l b : Addr} {xs zs : List V} (h1 : H l = some (.lst xs)) (h2 : H b = some (.lst zs)) (hz : xs.length + zs.length ≤ 100000) (q : ∀ p, H p = none → Q (.ref p) (upd H p (.lst (xs ++ zs)))) : rCat (.ref l) (.ref b) H Q := ⟨l, b, xs, zs, rfl, rfl, h1, h2, sz hz, q⟩
theorem lk_told {s : V} {t : Addr} : List.lookup ("told" : Str) [("told", V.ref t), ("parameter", s)] = some (V.ref t) := by
  have e : (("told" : Str) == ("told" : Str)) = true := beq_self_eq_true _
  simp only [List.lookup, e]
theorem lk_param {s : V} {t : Addr} : List.lookup ("parameter" : Str) [("told", V.ref t), ("parameter", s)] = some s := by
  have e : (("parameter" : Str) == ("told" : Str)) = false := by decide
  have e2 : (("parameter" : Str) == ("parameter" : Str)) = true := beq_self_eq_true _
  simp only [List.lookup, e, e2]
theorem i_callS {sp : Sp} {E : St → XK} {t : TA} {σ : St} {H : Hp} {Q : VK} (h : t σ H fun vs H1 => sp vs H1 Q (E σ)) : tCallS sp E t σ H Q := h
instance s_callS {sp : Sp} {E : St → XK} {t : TA} {σ : St} {H : Hp} {Q : VK} : Stp (tCallS sp E t σ H Q) (t σ H fun vs H1 => sp vs H1 Q (E σ)) := ⟨i_callS⟩
theorem i_try {K : PySem.W.Frag} {c : Value} {i : Nat} {tb : WX → TS} {ts : TS} {Wout : WX} {D : Ends} {σ : St} {H : Hp} (h : tb (wAsT K c i ts Wout D) D σ H) : tTryT K c i tb ts Wout D σ H := h
instance s_try {K : PySem.W.Frag} {c : Value} {i : Nat} {tb : WX → TS} {ts : TS} {Wout : WX} {D : Ends} {σ : St} {H : Hp} : Stp (tTryT K c i tb ts Wout D σ H) (tb (wAsT K c i ts Wout D) D σ H) := ⟨i_try⟩
def titles : List Str := ["BadValue", "Broken", "Unknown", "NotHeld", "Fault", "NoRoom", "Cut", "BadLine"]
theorem Ats_bls {H : Hp} : ∀ l : List Bool, Ats H (l.map V.bl) (l.map Dt.bl)
  | [] => .nil
  | b :: r => .cons (.bl b) (Ats_bls r)
theorem getS {l : List Str} {i : Nat} {y : V} (hi : (l.map V.str)[i]? = some y) : ∃ z, l[i]? = some z ∧ y = V.str z := by
  rw [List.getElem?_map, Option.map_eq_some_iff] at hi
  exact hi.elim fun z h => ⟨z, h.1, h.2.symm⟩
/-- which of the ten classes an exception of class D is of -/
structure ExK (K : PySem.W.Frag) (c : Cl) (D : Addr) (k3 k4 k5 k6 k7 k8 k9 k10 : Bool) : Prop where
  ex : ExcC K D
  xf : XfC K D
  i1 : PySem.W.kitOne K (.ref D) (.ref c.k_StoreError) = some true
  i2 : PySem.W.kitOne K (.ref D) (.type "ValueError") = some true
  i3 : PySem.W.kitOne K (.ref D) (.ref c.k_BadValue) = some k3
  i4 : PySem.W.kitOne K (.ref D) (.ref c.k_Broken) = some k4
  i5 : PySem.W.kitOne K (.ref D) (.ref c.k_Unknown) = some k5
  i6 : PySem.W.kitOne K (.ref D) (.ref c.k_NotHeld) = some k6
  i7 : PySem.W.kitOne K (.ref D) (.ref c.k_Fault) = some k7
  i8 : PySem.W.kitOne K (.ref D) (.ref c.k_NoRoom) = some k8
  i9 : PySem.W.kitOne K (.ref D) (.ref c.k_Cut) = some k9
  i10 : PySem.W.kitOne K (.ref D) (.ref c.k_BadLine) = some k10
def sp_kinds (K : PySem.W.Frag) (c : Cl) : Sp := fun vs H Q _ => ∃ (e d D : Addr) (fs : List (Str × V)) (k3 k4 k5 k6 k7 k8 k9 k10 : Bool), vs = [.ref e] ∧ H e = some (exi e (.ref D) (some d)) ∧ H d = some (.xd fs) ∧ ExK K c D k3 k4 k5 k6 k7 k8 k9 k10 ∧
  ∀ p, H p = none → Q (.ref p) (upd H p (.lst ([true, true, k3, k4, k5, k6, k7, k8, k9, k10].map V.bl)))
def N_l_kinds : List Str := ["_law_error"]
def t_l_kinds (K : PySem.W.Frag) (c : Cl) : TS := (tRet (tLst (tCons (tCB (rIsX K) (tCons (tVar 0) (tCons (tC (.ref c.k_StoreError)) tNil))) (tCons (tCB (rIsX K) (tCons (tVar 0) (tCons (tC (.ty "ValueError")) tNil))) (tCons (tCB (rIsX K) (tCons (tVar 0) (tCons (tC (.ref c.k_BadValue)) tNil))) (tCons (tCB (rIsX K) (tCons (tVar 0) (tCons (tC (.ref c.k_Broken)) tNil))) (tCons (tCB (rIsX K) (tCons (tVar 0) (tCons (tC (.ref c.k_Unknown)) tNil))) (tCons (tCB (rIsX K) (tCons (tVar 0) (tCons (tC (.ref c.k_NotHeld)) tNil))) (tCons (tCB (rIsX K) (tCons (tVar 0) (tCons (tC (.ref c.k_Fault)) tNil))) (tCons (tCB (rIsX K) (tCons (tVar 0) (tCons (tC (.ref c.k_NoRoom)) tNil))) (tCons (tCB (rIsX K) (tCons (tVar 0) (tCons (tC (.ref c.k_Cut)) tNil))) (tCons (tCB (rIsX K) (tCons (tVar 0) (tCons (tC (.ref c.k_BadLine)) tNil))) tNil))))))))))))
theorem pure_kinds {K : PySem.W.Frag} {c : Cl} {vs : List V} {H : Hp} {Q : VK} {E : XK} (h : sp_kinds K c vs H Q E) : t_l_kinds K c { nx := fun _ H' => Q .non H', rt := Q } (start N_l_kinds vs) H := by
  obtain ⟨e, d, D, fs, k3, k4, k5, k6, k7, k8, k9, k10, rfl, he, hd, R, k⟩ := h
  unfold t_l_kinds
  fold_lay
  refine i_isX he hd R.ex R.i1 ?_
  fold_lay
  refine i_isXt he hd R.ex R.i2 ?_
  fold_lay
  refine i_isX he hd R.ex R.i3 ?_
  fold_lay
  refine i_isX he hd R.ex R.i4 ?_
  fold_lay
  refine i_isX he hd R.ex R.i5 ?_
  fold_lay
  refine i_isX he hd R.ex R.i6 ?_
  fold_lay
  refine i_isX he hd R.ex R.i7 ?_
  fold_lay
  refine i_isX he hd R.ex R.i8 ?_
  fold_lay
  refine i_isX he hd R.ex R.i9 ?_
  fold_lay
  refine i_isX he hd R.ex R.i10 ?_
  fold_lay
  rename_i p hp
  exact k p hp
/-- BadValue, all that is asked of it -/
structure BvK (K : PySem.W.Frag) (c : Cl) : Prop where
  bv : BvC K c.k_BadValue
  kd : ExK K c c.k_BadValue true false false false false false false false
  ht : PySem.W.exmOne K (.ref c.k_BadValue) (.ref c.k_BadValue) = some true
def yes (t : Str) : List Bool := titles.map fun s : Str => decide (s = t)
def refD2 (t : Str) (fd : Dt) : Dt := .lst [.str "refused", .tup [.str t, fd], fd, .lst (([true, true] ++ yes t).map Dt.bl)]
theorem yes_bad : yes "BadValue" = [true, false, false, false, false, false, false, false] := by decide +kernel
def sp_refused : Sp := fun vs H Q _ => ∃ (t : Str) (v : V) (fd : Dt), vs = [.str t, v] ∧ At H v fd ∧ ∀ w H', At H' w (refD2 t fd) → Same H H' → Q w H'
theorem c_refused {t : Str} {v : V} {fd : Dt} {H : Hp} {Q : VK} {E : XK} (h : At H v fd) (k : ∀ w H', At H' w (refD2 t fd) → Same H H' → Q w H') : sp_refused [.str t, v] H Q E := ⟨t, v, fd, rfl, h, k⟩
def N_l_refused : List Str := ["_law_title", "_law_fields", "_law_titles", "_law_one"]
def t_l_refused (K : PySem.W.Frag) : TS := (tSeq (tAsg (tLst (tCons (tC (.str "BadValue")) (tCons (tC (.str "Broken")) (tCons (tC (.str "Unknown")) (tCons (tC (.str "NotHeld")) (tCons (tC (.str "Fault")) (tCons (tC (.str "NoRoom")) (tCons (tC (.str "Cut")) (tCons (tC (.str "BadLine")) tNil))))))))) (gName 2))
  (tRet (tLst (tCons (tC (.str "refused")) (tCons (tTup (tCons (tVar 0) (tCons (tVar 1) tNil))) (tCons (tVar 1) (tCons (tOp rCat (tLst (tCons (tC (.bl true)) (tCons (tC (.bl true)) tNil))) (tLc (iList K (tVar 2)) (gName 3) tYes (tOp rEq (tVar 3) (tVar 0)) [3])) tNil)))))))
theorem pure_refused {K : PySem.W.Frag} {vs : List V} {H : Hp} {Q : VK} {E : XK} (h : sp_refused vs H Q E) : t_l_refused K { nx := fun _ H' => Q .non H', rt := Q } (start N_l_refused vs) H := by
  obtain ⟨t, v, fd, rfl, hv, k⟩ := h
  unfold t_l_refused
  fold_lay
  rename_i p hp q hq r hr
  have s1 : Same H (upd H p (.lst [.str "BadValue", .str "Broken", .str "Unknown", .str "NotHeld", .str "Fault", .str "NoRoom", .str "Cut", .str "BadLine"])) := same_new hp
  have s2 : Same H (upd (upd H p (.lst [.str "BadValue", .str "Broken", .str "Unknown", .str "NotHeld", .str "Fault", .str "NoRoom", .str "Cut", .str "BadLine"])) q (.tup [.str t, v])) := s1.trans (same_new hq)
  have s3 : Same H (upd (upd (upd H p (.lst [.str "BadValue", .str "Broken", .str "Unknown", .str "NotHeld", .str "Fault", .str "NoRoom", .str "Cut", .str "BadLine"])) q (.tup [.str t, v])) r (.lst [.bl true, .bl true])) := s2.trans (same_new hr)
  have hp3 : upd (upd (upd H p (.lst [.str "BadValue", .str "Broken", .str "Unknown", .str "NotHeld", .str "Fault", .str "NoRoom", .str "Cut", .str "BadLine"])) q (.tup [.str t, v])) r (.lst [.bl true, .bl true]) p = some (.lst [.str "BadValue", .str "Broken", .str "Unknown", .str "NotHeld", .str "Fault", .str "NoRoom", .str "Cut", .str "BadLine"]) := upd_keep hr (upd_keep hq upd_same)
  have hq3 : upd (upd (upd H p (.lst [.str "BadValue", .str "Broken", .str "Unknown", .str "NotHeld", .str "Fault", .str "NoRoom", .str "Cut", .str "BadLine"])) q (.tup [.str t, v])) r (.lst [.bl true, .bl true]) q = some (.tup [.str t, v]) := upd_keep hr upd_same
  have hr3 : upd (upd (upd H p (.lst [.str "BadValue", .str "Broken", .str "Unknown", .str "NotHeld", .str "Fault", .str "NoRoom", .str "Cut", .str "BadLine"])) q (.tup [.str t, v])) r (.lst [.bl true, .bl true]) r = some (.lst [.bl true, .bl true]) := upd_same
  generalize upd (upd (upd H p (.lst [.str "BadValue", .str "Broken", .str "Unknown", .str "NotHeld", .str "Fault", .str "NoRoom", .str "Cut", .str "BadLine"])) q (.tup [.str t, v])) r (.lst [.bl true, .bl true]) = H3 at s3 hp3 hq3 hr3
  have hp3 : H3 p = some (.lst (titles.map V.str)) := hp3
  refine c_lst (xs := titles.map V.str) (sqL hp3) (m_lst (xs := titles.map V.str) (fun D i H' => Same H3 H' ∧ H3 D = none ∧ H' D = some (.lst (((titles.take i).map (fun s : Str => decide (s = t))).map V.bl))) ?_ ?_ ?_ ?_)
  · exact fun D hD => ⟨same_new hD, hD, upd_same⟩
  · exact fun D i H' _ h => sqL (h.1 _ _ hp3)
  · rintro D i x H' hx ⟨a1, a2, a3⟩
    obtain ⟨z, hz, rfl⟩ := getS hx
    fold_lay
    refine ⟨rfl, ?_⟩
    fold_lay
    refine ⟨_, a3, szl (by have : titles.length = 8 := rfl; simp; omega), ?_, a2, ?_⟩
    · exact fun b o e => upd_off (ne_of_none e a2) (a1 b o e)
    · rw [upd_same, take_more hz, List.map_append, List.map_append]
      rfl
  · rintro D H' ⟨a1, a2, a3⟩
    rw [List.length_map, List.take_length] at a3
    refine i_cat (a1 _ _ hr3) a3 (by have : titles.length = 8 := rfl; simp; omega) fun l hl => ?_
    fold_lay
    rename_i m hm
    have s5 := (a1.trans (same_new (o := .lst ([.bl true, .bl true] ++ (titles.map (fun s : Str => decide (s = t))).map V.bl)) hl)).trans (same_new (o := .lst [.str "refused", .ref q, v, .ref l]) hm)
    refine k _ _ (.lst upd_same (.cons (.str _) (.cons (.tup (s5 _ _ hq3) (.cons (.str _) (.cons (hv.mono (s3.trans s5)) .nil))) (.cons (hv.mono (s3.trans s5)) (.cons (.lst (upd_keep hm upd_same) ?_) .nil))))) (s3.trans s5)
    have := Ats_bls (H := upd (upd H' l (.lst ([.bl true, .bl true] ++ (titles.map (fun s : Str => decide (s = t))).map V.bl))) m (.lst [.str "refused", .ref q, v, .ref l])) ([true, true] ++ yes t)
    rw [List.map_append] at this
    exact this
/-! ## Told3 -/
/-! ### refusals told -/
structure BvU (K : PySem.W.Frag) (c : Cl) : Prop where
  bv : BvC K c.k_BadValue
  ex : ExcC K c.k_BadValue
  xf : XfC K c.k_BadValue
  i1 : PySem.W.kitOne K (.ref c.k_BadValue) (.ref c.k_StoreError) = some true
  i2 : PySem.W.kitOne K (.ref c.k_BadValue) (.type "ValueError") = some true
  i3 : PySem.W.kitOne K (.ref c.k_BadValue) (.ref c.k_Unknown) = some false
  ht : PySem.W.exmOne K (.ref c.k_BadValue) (.ref c.k_BadValue) = some true
def dueD (t : Str) : Dt := .tup [.str "BadValue", .str t, .tup [.str "BadValue", .tup [.str t]], .tup [.bl true, .bl true, .bl false]]
/-- the except suite of the refusals -/
def tTold (K : PySem.W.Frag) (c : Cl) (i j : Nat) : TS := tSeq (tAsg (tTup (tCons (tCB (rIsX K) (tCons (tVar i) (tCons (tC (.ref c.k_StoreError)) tNil))) (tCons (tCB (rIsX K) (tCons (tVar i) (tCons (tC (.ty "ValueError")) tNil))) (tCons (tCB (rIsX K) (tCons (tVar i) (tCons (tC (.ref c.k_Unknown)) tNil))) tNil)))) (gName j))
  (tRet (tTup (tCons (tC (.str "BadValue")) (tCons (tXt K "parameter" (tVar i)) (tCons (tXt K "told" (tVar i)) (tCons (tVar j) tNil))))))
theorem told25 {K : PySem.W.Frag} {c : Cl} {a0 a1 : Option V} {H : Hp} {t : Str} {d : Addr} {nx bk ct : St → Hp → Prop} {rt : VK} {e : Addr} (R : BvU K c) (he : H e = none) (hB : BadAt H d (.str t)) (k : ∀ v H', At H' v (dueD t) → Same H H' → rt v H') :
    tTold K c 2 3 ⟨nx, rt, bk, ct⟩ [a0, a1, some (.ref e), none] (upd H e (exi e (.ref c.k_BadValue) (some d))) := by
  obtain ⟨u1, u2, g1, g2, g3⟩ := hB
  have he1 : upd H e (exi e (.ref c.k_BadValue) (some d)) e = some (exi e (.ref c.k_BadValue) (some d)) := upd_same
  have hd1 := upd_keep (o := exi e (.ref c.k_BadValue) (some d)) he g1
  unfold tTold
  fold_lay
  refine i_isX he1 hd1 R.ex R.i1 ?_
  fold_lay
  refine i_isXt he1 hd1 R.ex R.i2 ?_
  fold_lay
  refine i_isX he1 hd1 R.ex R.i3 ?_
  fold_lay
  rename_i p hp
  refine ⟨e, c.k_BadValue, d, _, .str t, rfl, upd_keep hp he1, R.xf, R.bv.np, upd_keep hp hd1, lk_param, ?_⟩
  fold_lay
  refine ⟨e, c.k_BadValue, d, _, .ref u2, rfl, upd_keep hp he1, R.xf, R.bv.nt, upd_keep hp hd1, lk_told, ?_⟩
  fold_lay
  rename_i q hq
  have s1 := ((same_new (o := exi e (.ref c.k_BadValue) (some d)) he).trans (same_new (o := .tup [.bl true, .bl true, .bl false]) hp)).trans (same_new (o := .tup [.str "BadValue", .str t, .ref u2, .ref p]) hq)
  exact k _ _ (.tup upd_same (.cons (.str _) (.cons (.str _) (.cons (.tup (s1 _ _ g2) (.cons (.str _) (.cons (.tup (s1 _ _ g3) (.cons (.str _) .nil)) .nil))) (.cons (.tup (upd_keep hq upd_same) (.cons (.bl _) (.cons (.bl _) (.cons (.bl _) .nil)))) .nil))))) s1
/-! ## Slots -/
/-! ### slots.py -/
def N_p_check_whole : List Str := ["value", "low", "high", "parameter"]
def t_p_check_whole (K : PySem.W.Frag) (c : Cl) (E : XK) : TS := (tIfS (tOr (tNot (tB (tCall (sp_is_whole K) [] E0 (tCons (tVar 0) tNil)))) (tOr (tTest (tOp oLt (tVar 0) (tVar 1))) (tTest (tOp oGt (tVar 0) (tVar 2))))) (tRz (tMkO c.k_BadValue (sp_init_BadValue K c.k_BadValue) [] (tCons (tVar 3) tNil)) (fun cls d _ H => E cls d H)) tNext)
theorem pure_check_whole {K : PySem.W.Frag} {c : Cl} {vs : List V} {H : Hp} {Q : VK} {E : XK} (h : sp_check_number K c vs H Q E) : t_p_check_whole K c E { nx := fun _ H' => Q .non H', rt := Q } (start N_p_check_whole vs) H := by
  obtain ⟨v, n, lo, hi, p, rfl, ht, hC, k1, k2⟩ := h
  unfold t_p_check_whole
  fold_lay
  refine c_is_whole ht ?_
  fold_lay
  refine i_ifb (fun h => ?_) (fun h => ?_)
  · have h : vI v = false := by simpa using h
    fold_lay
    exact c_bad hC (k2 (vR_no h))
  · have h : vI v = true := by simpa using h
    obtain ⟨i, rfl⟩ := vI_int h
    fold_lay
    refine i_ifd (fun h1 => ?_) (fun h1 => ?_)
    · fold_lay
      exact c_bad hC (k2 (by simp [vR]; omega))
    · fold_lay
      refine i_ifd (fun h2 => ?_) (fun h2 => ?_)
      · fold_lay
        exact c_bad hC (k2 (by simp [vR]; omega))
      · fold_lay
        exact k1 (vR_yes (by omega) (by omega))
def sp_check_align3 (K : PySem.W.Frag) (c : Cl) : Sp := fun vs H Q E => ∃ (v : V) (n : String) (m : Int) (p : Str), vs = [v, .int m, .str p] ∧ Ty0 H v n ∧ BvC K c.k_BadValue ∧
  (vA m v = true → Q .non H) ∧ (vA m v = false → ∀ d H', BadAt H' d (.str p) → Same H H' → E (.ref c.k_BadValue) (some d) H')
theorem c_check_align3 {K : PySem.W.Frag} {c : Cl} {v : V} {n : String} {m : Int} {p : Str} {H : Hp} {Q : VK} {E : XK} (h : Ty0 H v n) (hC : BvC K c.k_BadValue) (h1 : vA m v = true → Q .non H) (h2 : vA m v = false → ∀ d H', BadAt H' d (.str p) → Same H H' → E (.ref c.k_BadValue) (some d) H') :
    sp_check_align3 K c [v, .int m, .str p] H Q E := ⟨v, n, m, p, rfl, h, hC, h1, h2⟩
def N_p_check_align3 : List Str := ["value", "most", "parameter"]
def t_p_check_align3 (K : PySem.W.Frag) (c : Cl) (E : XK) : TS := (tIfS (tOr (tNot (tB (tCall (sp_is_power K) [] E0 (tCons (tVar 0) tNil)))) (tTest (tOp oGt (tVar 0) (tVar 1)))) (tRz (tMkO c.k_BadValue (sp_init_BadValue K c.k_BadValue) [] (tCons (tVar 2) tNil)) (fun cls d _ H => E cls d H)) tNext)
theorem pure_check_align3 {K : PySem.W.Frag} {c : Cl} {vs : List V} {H : Hp} {Q : VK} {E : XK} (h : sp_check_align3 K c vs H Q E) : t_p_check_align3 K c E { nx := fun _ H' => Q .non H', rt := Q } (start N_p_check_align3 vs) H := by
  obtain ⟨v, n, m, p, rfl, ht, hC, k1, k2⟩ := h
  unfold t_p_check_align3
  fold_lay
  refine c_is_power ht ?_
  fold_lay
  refine i_ifb (fun h => ?_) (fun h => ?_)
  · have h : vP v = false := by simpa using h
    fold_lay
    exact c_bad hC (k2 (vA_no h))
  · have h : vP v = true := by simpa using h
    obtain ⟨i, rfl⟩ := vP_int h
    fold_lay
    refine i_ifd (fun h1 => ?_) (fun h1 => ?_)
    · fold_lay
      refine c_bad hC (k2 ?_)
      show (vP (.int i) && decide (i ≤ m)) = false
      rw [decide_eq_false (by omega), Bool.and_false]
    · fold_lay
      refine k1 ?_
      show (vP (.int i) && decide (i ≤ m)) = true
      rw [decide_eq_true (by omega), h]
      rfl
def vW : V → Bool
  | .int i => decide (i = 16) || (decide (i = 32) || decide (i = 64))
  | _ => false
def sp_check_width (K : PySem.W.Frag) (c : Cl) : Sp := fun vs H Q E => ∃ (v : V) (n : String), vs = [v] ∧ Ty0 H v n ∧ BvC K c.k_BadValue ∧
  (vW v = true → ∀ H', Same H H' → Q .non H') ∧ (vW v = false → ∀ d H', BadAt H' d (.str "width") → Same H H' → E (.ref c.k_BadValue) (some d) H')
def N_p_check_width : List Str := ["value"]
def t_p_check_width (K : PySem.W.Frag) (c : Cl) (E : XK) : TS := (tIfS (tOr (tNot (tB (tCall (sp_is_whole K) [] E0 (tCons (tVar 0) tNil)))) (tTest (tOp (rIn K true) (tVar 0) (tTup (tCons (tC (.int 16)) (tCons (tC (.int 32)) (tCons (tC (.int 64)) tNil))))))) (tRz (tMkO c.k_BadValue (sp_init_BadValue K c.k_BadValue) [] (tCons (tC (.str "width")) tNil)) (fun cls d _ H => E cls d H)) tNext)
theorem vW_no {v : V} (h : vI v = false) : vW v = false := by
  cases v <;> first | rfl | cases h
theorem in_width {i : Int} : inV (.int i) [.int 16, .int 32, .int 64] = vW (.int i) := by
  have e : ∀ j : Int, (j == i) = decide (i = j) := fun j => by
    rw [Bool.eq_iff_iff]
    exact ⟨fun h => decide_eq_true (eq_of_beq h).symm, fun h => beq_iff_eq.mpr (of_decide_eq_true h).symm⟩
  simp only [inV, vW, eqV, List.any_cons, List.any_nil, Bool.or_false, e]
theorem pure_check_width {K : PySem.W.Frag} {c : Cl} {vs : List V} {H : Hp} {Q : VK} {E : XK} (h : sp_check_width K c vs H Q E) : t_p_check_width K c E { nx := fun _ H' => Q .non H', rt := Q } (start N_p_check_width vs) H := by
  obtain ⟨v, n, rfl, ht, hC, k1, k2⟩ := h
  unfold t_p_check_width
  fold_lay
  refine c_is_whole ht ?_
  fold_lay
  refine i_ifb (fun h => ?_) (fun h => ?_)
  · have h : vI v = false := by simpa using h
    fold_lay
    exact c_bad hC (k2 (vW_no h))
  · have h : vI v = true := by simpa using h
    obtain ⟨i, rfl⟩ := vI_int h
    fold_lay
    rename_i p hp
    refine ⟨p, _, rfl, .inr (sqT upd_same), rfl, rfl, ?_⟩
    rw [in_width]
    refine i_blV ?_
    refine i_ifb (fun h => ?_) (fun h => ?_)
    · have h : vW (.int i) = false := by simpa using h
      fold_lay
      exact c_bad hC fun d H' hB hS => k2 h d H' hB ((same_new hp).trans hS)
    · have h : vW (.int i) = true := by simpa using h
      fold_lay
      exact k1 h _ (same_new hp)
theorem c_check_width {K : PySem.W.Frag} {c : Cl} {v : V} {n : String} {H : Hp} {Q : VK} {E : XK} (h : Ty0 H v n) (hC : BvC K c.k_BadValue) (h1 : vW v = true → ∀ H', Same H H' → Q .non H') (h2 : vW v = false → ∀ d H', BadAt H' d (.str "width") → Same H H' → E (.ref c.k_BadValue) (some d) H') :
    sp_check_width K c [v] H Q E := ⟨v, n, rfl, h, hC, h1, h2⟩
def up (n m : Int) : Int := (n + m - 1) / m * m
theorem up_spec {n m : Int} (hm : 0 < m) : n ≤ up n m ∧ up n m < n + m ∧ up n m % m = 0 ∧ ∀ q, n ≤ q → q % m = 0 → up n m ≤ q := by
  unfold up
  have e := Int.mul_ediv_add_emod (n + m - 1) m
  have h0 := Int.emod_nonneg (n + m - 1) (by omega : m ≠ 0)
  have h1 := Int.emod_lt_of_pos (n + m - 1) hm
  generalize hr : (n + m - 1) % m = r at *
  generalize hq : (n + m - 1) / m = k at *
  have ec : k * m = m * k := Int.mul_comm _ _
  refine ⟨by omega, by omega, Int.mul_emod_left _ _, fun q hq1 hq2 => ?_⟩
  obtain ⟨j, hj⟩ := Int.dvd_of_emod_eq_zero hq2
  subst hj
  rw [ec]
  refine Int.mul_le_mul_of_nonneg_left ?_ (by omega)
  refine Int.lt_add_one_iff.mp ?_
  refine Int.lt_of_mul_lt_mul_left (a := m) ?_ (by omega)
  rw [Int.mul_add, Int.mul_one]
  omega
def toI : V → Int
  | .int i => i
  | _ => 0
def bad4 (v1 v2 v3 v4 : V) : Option Str := if vW v1 = false then some "width" else if vR 0 8 v2 = false then some "order" else if vR 1 4096 v3 = false then some "size" else if vA (toI v1) v4 = false then some "align" else none
/-- the words of a slab -/
def wds (w o : Int) : Int := w * 2 ^ o.toNat
def shape (w o s a : Int) : Option (Int × Int × Int) := if (wds w o - a) / up (s + 1) a = 0 then none else some (up (s + 1) a, (wds w o - a) / up (s + 1) a, (wds w o - a - (wds w o - a) / up (s + 1) a * up (s + 1) a) / a + 1)
def shD : Option (Int × Int × Int) → Dt
  | none => .non
  | some (x, y, z) => .tup [.int x, .int y, .int z]
structure Slab (w o s a : Int) : Prop where
  w1 : w = 16 ∨ w = 32 ∨ w = 64
  o1 : 0 ≤ o
  o2 : o ≤ 8
  s1 : 1 ≤ s
  s2 : s ≤ 4096
  a1 : ∃ k : Nat, a = 2 ^ k
  a2 : a ≤ w
def sp_slab_shape (K : PySem.W.Frag) (c : Cl) : Sp := fun vs H Q E => ∃ (v1 v2 v3 v4 : V) (n1 n2 n3 n4 : String), vs = [v1, v2, v3, v4] ∧ Ty0 H v1 n1 ∧ Ty0 H v2 n2 ∧ Ty0 H v3 n3 ∧ Ty0 H v4 n4 ∧ BvC K c.k_BadValue ∧
  (∀ t, bad4 v1 v2 v3 v4 = some t → ∀ d H', BadAt H' d (.str t) → Same H H' → E (.ref c.k_BadValue) (some d) H') ∧
  (bad4 v1 v2 v3 v4 = none → ∀ w o s a, v1 = .int w → v2 = .int o → v3 = .int s → v4 = .int a → Slab w o s a → ∀ v H', At (nw H H') v (shD (shape w o s a)) → Same H H' → Q v H')
theorem vR_int {v : V} {lo hi : Int} (h : vR lo hi v = true) : ∃ i, v = .int i ∧ lo ≤ i ∧ i ≤ hi := by
  cases v <;> first | exact ⟨_, rfl, by simpa [vR] using h⟩ | cases h
theorem vA_int {v : V} {m : Int} (h : vA m v = true) : ∃ i, v = .int i ∧ (∃ k : Nat, i = 2 ^ k) ∧ i ≤ m := by
  cases v <;> first | exact ⟨_, rfl, vA_iff.mp h⟩ | cases h
theorem vW_int {v : V} (h : vW v = true) : ∃ i, v = .int i ∧ (i = 16 ∨ i = 32 ∨ i = 64) := by
  cases v <;> first | exact ⟨_, rfl, by simpa [vW] using h⟩ | cases h
theorem pw_le {o : Nat} (h : o ≤ 9) : (2 : Int) ^ o ≤ 512 := by
  have : o = 0 ∨ o = 1 ∨ o = 2 ∨ o = 3 ∨ o = 4 ∨ o = 5 ∨ o = 6 ∨ o = 7 ∨ o = 8 ∨ o = 9 := by omega
  rcases this with rfl | rfl | rfl | rfl | rfl | rfl | rfl | rfl | rfl | rfl <;> decide
def N_p_slab_shape : List Str := ["width", "order", "size", "align", "words", "stride", "slots", "colours"]
def t_p_slab_shape (K : PySem.W.Frag) (c : Cl) (E : XK) : TS := (tSeq (tDrop (tCall (sp_check_width K c) [] E (tCons (tVar 0) tNil)))
  (tSeq (tDrop (tCall (sp_check_number K c) [] E (tCons (tVar 1) (tCons (tC (.int 0)) (tCons (tC (.int 8)) (tCons (tC (.str "order")) tNil))))))
  (tSeq (tDrop (tCall (sp_check_number K c) [] E (tCons (tVar 2) (tCons (tC (.int 1)) (tCons (tC (.int 4096)) (tCons (tC (.str "size")) tNil))))))
  (tSeq (tDrop (tCall (sp_check_align3 K c) [] E (tCons (tVar 3) (tCons (tVar 0) (tCons (tC (.str "align")) tNil)))))
  (tSeq (tAsg (tOp oShl (tVar 0) (tVar 1)) (gName 4))
  (tSeq (tAsg (tCall sp_align_up [] E0 (tCons (tOp oAdd (tVar 2) (tC (.int 1))) (tCons (tVar 3) tNil))) (gName 5))
  (tSeq (tAsg (tOp oDiv (tOp oSub (tVar 4) (tVar 3)) (tVar 5)) (gName 6))
  (tSeq (tIfS (tTest (tOp rEq (tVar 6) (tC (.int 0)))) (tRet (tC .non)) tNext)
  (tSeq (tAsg (tOp oAdd (tOp oDiv (tOp oSub (tOp oSub (tVar 4) (tVar 3)) (tOp oMul (tVar 6) (tVar 5))) (tVar 3)) (tC (.int 1))) (gName 7))
  (tRet (tTup (tCons (tVar 5) (tCons (tVar 6) (tCons (tVar 7) tNil))))))))))))))
theorem pure_slab_shape {K : PySem.W.Frag} {c : Cl} {vs : List V} {H : Hp} {Q : VK} {E : XK} (h : sp_slab_shape K c vs H Q E) : t_p_slab_shape K c E { nx := fun _ H' => Q .non H', rt := Q } (start N_p_slab_shape vs) H := by
  obtain ⟨v1, v2, v3, v4, n1, n2, n3, n4, rfl, t1, t2, t3, t4, hC, kE, kQ⟩ := h
  unfold t_p_slab_shape
  fold_lay
  refine c_check_width t1 hC (fun h1 H1 s1 => ?_) (fun h1 => kE _ (by simp [bad4, h1]))
  fold_lay
  refine c_check_number (t2.mono s1) hC (fun h2 => ?_) (fun h2 d H' hB hS => kE _ (by simp [bad4, h1, h2]) d H' hB (s1.trans hS))
  fold_lay
  refine c_check_number (t3.mono s1) hC (fun h3 => ?_) (fun h3 d H' hB hS => kE _ (by simp [bad4, h1, h2, h3]) d H' hB (s1.trans hS))
  obtain ⟨w, rfl, w1⟩ := vW_int h1
  fold_lay
  refine c_check_align3 (t4.mono s1) hC (fun h4 => ?_) (fun h4 d H' hB hS => kE _ (by simp [bad4, h1, h2, h3, toI, h4]) d H' hB (s1.trans hS))
  have kk := kQ (by simp [bad4, h1, h2, h3, toI, h4])
  obtain ⟨o, rfl, o1, o2⟩ := vR_int h2
  obtain ⟨s, rfl, b1, b2⟩ := vR_int h3
  obtain ⟨a, rfl, a1, a2⟩ := vA_int h4
  have kk := kk w o s a rfl rfl rfl rfl ⟨w1, o1, o2, b1, b2, a1, a2⟩
  have ap : 0 < a := by
    obtain ⟨k, rfl⟩ := a1
    exact two_pow_pos k
  obtain ⟨u1, u2, u3, u4⟩ := up_spec (n := s + 1) ap
  fold_lay
  refine i_shl ⟨o1, by omega, by rcases w1 with rfl | rfl | rfl <;> decide⟩ ?_
  fold_lay
  refine c_align_up (by omega) (by omega) a1 (by omega) ?_
  unfold shape wds up at kk
  unfold up at u1 u2 u3 u4
  fold_lay
  generalize (s + 1 + a - 1) / a * a = st at *
  fold_lay; fold_depth
  generalize hsl : (w * 2 ^ o.toNat - a) / st = sl at *
  refine i_ifd (fun h0 => ?_) (fun h0 => ?_)
  · rw [if_pos h0] at kk
    fold_lay
    exact kk _ _ .non s1
  · rw [if_neg h0] at kk
    fold_lay
    rename_i p hp
    exact kk _ _ (.tup (nw_to (s1.free hp) upd_same) (.cons (.int _) (.cons (.int _) (.cons (.int _) .nil)))) (s1.trans (same_new hp))
theorem c_slab_ok {K : PySem.W.Frag} {c : Cl} {w o s a : Int} {H : Hp} {Q : VK} {E : XK} (hC : BvC K c.k_BadValue) (h : Slab w o s a) (k : ∀ v H', At (nw H H') v (shD (shape w o s a)) → Same H H' → Q v H') : sp_slab_shape K c [.int w, .int o, .int s, .int a] H Q E := by
  have g : bad4 (.int w) (.int o) (.int s) (.int a) = none := by
    have e1 : vW (.int w) = true := by simpa [vW] using h.w1
    simp [bad4, e1, vR_yes h.o1 h.o2, vR_yes h.s1 h.s2, toI, vA_yes h.a1 h.a2]
  refine ⟨_, _, _, _, _, _, _, _, rfl, .int w, .int o, .int s, .int a, hC, fun t ht => ?_, fun _ w' o' s' a' e1 e2 e3 e4 _ => ?_⟩
  · rw [g] at ht
    cases ht
  · cases e1
    cases e2
    cases e3
    cases e4
    exact k
/-! ## Slots2 -/
/-! ### the slots' starts -/
theorem mask {p : Int} (h : 0 ≤ p) (o : Nat) : Builtin.bitAnd p (2 ^ o - 1) = p % 2 ^ o := by
  have hp := two_pow_pos o
  have e2 : ((2 : Int) ^ o - 1).toNat = 2 ^ o - 1 := by
    have : (2 : Int) ^ o = ((2 ^ o : Nat) : Int) := (Int.natCast_pow 2 o).symm
    omega
  rw [bitAnd_pp h (by omega), e2, Nat.and_two_pow_sub_one_eq_mod]
  have e3 : ((p.toNat : Nat) : Int) = p := Int.toNat_of_nonneg h
  rw [Int.natCast_emod, e3, Int.natCast_pow]
  rfl
def bad5 (v1 v2 v3 v4 v5 : V) : Option Str := match bad4 v1 v2 v3 v4 with
  | some t => some t
  | none => if vR 0 255 v5 = false then some "page" else if toI v5 % 2 ^ (toI v2).toNat ≠ 0 then some "page" else none
def first (w o a p col : Int) : Int := p * w + a + p / 2 ^ o.toNat % col * a
def starts (w o s a p : Int) : List Int := match shape w o s a with
  | none => []
  | some (st, n, col) => (List.range n.toNat).map fun i : Nat => first w o a p col + (i : Int) * st
def intsD (l : List Int) : Dt := .lst (l.map Dt.int)
theorem Ats_ints {H : Hp} : ∀ l : List Int, Ats H (l.map V.int) (l.map Dt.int)
  | [] => .nil
  | b :: r => .cons (.int b) (Ats_ints r)
/-- what is known of a shape -/
structure Shp (w o s a st n col : Int) : Prop where
  st1 : s + 1 ≤ st
  st2 : st < s + 1 + a
  st3 : st % a = 0
  n1 : 1 ≤ n
  n2 : n ≤ 16384
  r1 : a ≤ wds w o - n * st
  r2 : wds w o - n * st < a + st
  c1 : 1 ≤ col
  c2 : a * col ≤ wds w o - n * st
  c3 : wds w o - n * st < a * (col + 1)
  c4 : col ≤ 16384
theorem Slab.ap {w o s a : Int} (h : Slab w o s a) : 0 < a := by
  obtain ⟨k, hk⟩ := h.a1
  rw [hk]
  exact two_pow_pos k
theorem wds_le {w o s a : Int} (h : Slab w o s a) : w ≤ wds w o ∧ wds w o ≤ 16384 := by
  have e := pw_le (o := o.toNat) (by have := h.o2; omega)
  have e2 : (2 : Int) ^ o.toNat ≤ 2 ^ 8 := by
    have : o.toNat = 0 ∨ o.toNat = 1 ∨ o.toNat = 2 ∨ o.toNat = 3 ∨ o.toNat = 4 ∨ o.toNat = 5 ∨ o.toNat = 6 ∨ o.toNat = 7 ∨ o.toNat = 8 := by have := h.o2; omega
    rcases this with h | h | h | h | h | h | h | h | h <;> rw [h] <;> decide
  have e1 := two_pow_pos o.toNat
  unfold wds
  generalize (2 : Int) ^ o.toNat = z at *
  have e3 : (2 : Int) ^ 8 = 256 := by decide
  rcases h.w1 with rfl | rfl | rfl <;> omega
theorem shape_spec {w o s a st n col : Int} (h : Slab w o s a) (e : shape w o s a = some (st, n, col)) : Shp w o s a st n col := by
  have ap := h.ap
  obtain ⟨u1, u2, u3, u4⟩ := up_spec (n := s + 1) ap
  have hw := wds_le h
  have hs := h.s1
  have ha := h.a2
  unfold shape at e
  split at e
  · cases e
  · rename_i h0
    injection e with e
    injection e with e1 e
    injection e with e2 e3
    rw [e1] at e2 e3 u1 u2 u3
    have sp : 0 < st := by omega
    have d1 := Int.mul_ediv_add_emod (wds w o - a) st
    have d2 := Int.emod_nonneg (wds w o - a) (by omega : st ≠ 0)
    have d3 := Int.emod_lt_of_pos (wds w o - a) sp
    rw [e1] at h0
    rw [e2] at e3 d1 h0
    have q0 : 0 ≤ n := by rw [← e2]; exact Int.ediv_nonneg (by omega) (by omega)
    have cm : st * n = n * st := Int.mul_comm _ _
    generalize hns : n * st = ns at *
    have f1 := Int.mul_ediv_add_emod (wds w o - a - ns) a
    have f2 := Int.emod_nonneg (wds w o - a - ns) (by omega : a ≠ 0)
    have f3 := Int.emod_lt_of_pos (wds w o - a - ns) ap
    have f4 : 0 ≤ (wds w o - a - ns) / a := Int.ediv_nonneg (by omega) (by omega)
    have f5 : (wds w o - a - ns) / a ≤ wds w o - a - ns := Int.ediv_le_self _ (by omega)
    have e4 : (wds w o - a - ns) / a = col - 1 := by omega
    rw [e4] at f1 f4 f5
    have g1 : a * (col - 1) = a * col - a := by rw [Int.mul_sub, Int.mul_one]
    have g2 : a * (col + 1) = a * col + a := by rw [Int.mul_add, Int.mul_one]
    have n1 : 1 ≤ n := by omega
    have n2 : n ≤ ns := by
      have := Int.mul_le_mul_of_nonneg_left (by omega : 1 ≤ st) q0
      rw [Int.mul_one, hns] at this
      exact this
    exact ⟨u1, u2, u3, n1, by omega, by rw [hns]; omega, by rw [hns]; omega, by omega, by rw [hns]; omega, by rw [hns, g2]; omega, by omega⟩
def sp_slot_starts (K : PySem.W.Frag) (c : Cl) : Sp := fun vs H Q E => ∃ (v1 v2 v3 v4 v5 : V) (n1 n2 n3 n4 n5 : String), vs = [v1, v2, v3, v4, v5] ∧ Ty0 H v1 n1 ∧ Ty0 H v2 n2 ∧ Ty0 H v3 n3 ∧ Ty0 H v4 n4 ∧ Ty0 H v5 n5 ∧ BvC K c.k_BadValue ∧
  (∀ t, bad5 v1 v2 v3 v4 v5 = some t → ∀ d H', BadAt H' d (.str t) → Same H H' → E (.ref c.k_BadValue) (some d) H') ∧
  (bad5 v1 v2 v3 v4 v5 = none → ∀ w o s a p, v1 = .int w → v2 = .int o → v3 = .int s → v4 = .int a → v5 = .int p → Slab w o s a → 0 ≤ p → p ≤ 255 → ∀ l H', H l = none → H' l = some (.lst ((starts w o s a p).map V.int)) → Same H H' → Q (.ref l) H')
theorem rng_take {n i : Nat} (h : i < n) : ((List.range n).take i).length = i := by
  rw [List.length_take, List.length_range]
  omega
def N_p_slot_starts : List Str := ["width", "order", "size", "align", "page", "shape", "count", "stride", "slots", "colours", "colour", "first", "number"]
def t_p_slot_starts (K : PySem.W.Frag) (c : Cl) (E : XK) : TS := (tSeq (tAsg (tCall (sp_slab_shape K c) [] E (tCons (tVar 0) (tCons (tVar 1) (tCons (tVar 2) (tCons (tVar 3) tNil))))) (gName 5))
  (tSeq (tDrop (tCall (sp_check_number K c) [] E (tCons (tVar 4) (tCons (tC (.int 0)) (tCons (tC (.int 255)) (tCons (tC (.str "page")) tNil))))))
  (tSeq (tAsg (tOp oShl (tC (.int 1)) (tVar 1)) (gName 6))
  (tSeq (tIfS (tTest (tOp rNe (tOp oAnd (tVar 4) (tOp oSub (tVar 6) (tC (.int 1)))) (tC (.int 0)))) (tRz (tMkO c.k_BadValue (sp_init_BadValue K c.k_BadValue) [] (tCons (tC (.str "page")) tNil)) (fun cls d _ H => E cls d H)) tNext)
  (tSeq (tIfS (tTest (tOp oIsN (tVar 5) (tC .non))) (tRet (tLst tNil)) tNext)
  (tSeq (tAsg (tVar 5) (gTup K 3 (gCons (gName 7) (gCons (gName 8) (gCons (gName 9) gNil)))))
  (tSeq (tAsg (tOp oMod (tOp oDiv (tVar 4) (tVar 6)) (tVar 9)) (gName 10))
  (tSeq (tAsg (tOp oAdd (tOp oAdd (tOp oMul (tVar 4) (tVar 0)) (tVar 3)) (tOp oMul (tVar 10) (tVar 3))) (gName 11))
  (tRet (tLc (iRng1 (tCons (tVar 8) tNil)) (gName 12) tYes (tOp oAdd (tVar 11) (tOp oMul (tVar 12) (tVar 7))) [12]))))))))))
theorem pure_slot_starts {K : PySem.W.Frag} {c : Cl} {vs : List V} {H : Hp} {Q : VK} {E : XK} (h : sp_slot_starts K c vs H Q E) : t_p_slot_starts K c E { nx := fun _ H' => Q .non H', rt := Q } (start N_p_slot_starts vs) H := by
  obtain ⟨v1, v2, v3, v4, v5, n1, n2, n3, n4, n5, rfl, t1, t2, t3, t4, t5, hC, kE, kQ⟩ := h
  unfold t_p_slot_starts
  fold_lay
  refine ⟨v1, v2, v3, v4, n1, n2, n3, n4, rfl, t1, t2, t3, t4, hC, fun t ht => kE t (by simp [bad5, ht]), fun hb w o s a e1 e2 e3 e4 hS v H1 hv s1 => ?_⟩
  subst e1 e2 e3 e4
  have ap := hS.ap
  have ha := hS.a2
  have hw := hS.w1
  have ho1 := hS.o1
  have ho2 := hS.o2
  have hp2 := two_pow_pos o.toNat
  have hp9 := pw_le (o := o.toNat) (by omega)
  fold_lay
  refine c_check_number (t5.mono s1) hC (fun h5 => ?_) (fun h5 d H' hB hS' => kE _ (by simp [bad5, hb, h5]) d H' hB (s1.trans hS'))
  obtain ⟨p, rfl, p1, p2⟩ := vR_int h5
  fold_lay; fold_depth
  rw [Int.one_mul, mask p1]
  refine i_ifn (fun h6 => ?_) (fun h6 => ?_)
  · fold_lay
    exact c_bad hC fun d H' hB hS' => kE _ (by simp [bad5, hb, h5, toI, h6]) d H' hB (s1.trans hS')
  have kk := kQ (by simp [bad5, hb, h5, toI, h6]) w o s a p rfl rfl rfl rfl rfl hS p1 p2
  unfold starts at kk
  cases hsh : shape w o s a with
  | none =>
    rw [hsh] at hv kk
    cases hv
    fold_lay; fold_depth
    rename_i l hl
    exact kk l _ (s1.free hl) upd_same (s1.trans (same_new hl))
  | some x =>
    obtain ⟨st, n, col⟩ := x
    rw [hsh] at hv kk
    obtain ⟨g1, g2, g3, g4, g5, g6, g7, g8, g9, g10, g11⟩ := shape_spec hS hsh
    have hs2 := hS.s2
    cases hv with
    | @tup r rs _ hr hrs =>
      cases hrs with
      | cons h1 h2 =>
        cases h1
        cases h2 with
        | cons h1 h2 =>
          cases h1
          cases h2 with
          | cons h1 h2 =>
            cases h1
            cases h2
            have hr1 := (nw_of hr).2
            fold_lay; fold_depth
            fold_lay
            refine c_rng1 (by omega) (by omega) (m_rng (fun D i H' => Same H1 H' ∧ H1 D = none ∧ H' D = some (.lst (((List.range i).map fun i : Nat => first w o a p col + (i : Int) * st).map V.int))) ?_ ?_ ?_)
            · exact fun D hD => ⟨same_new hD, hD, upd_same⟩
            · rintro D i H' hi ⟨q1, q2, q3⟩
              fold_lay
              refine ⟨rfl, ?_⟩
              fold_lay
              refine ⟨_, q3, szl (by simp; omega), ?_, q2, ?_⟩
              · exact fun b o e => upd_off (ne_of_none e q2) (q1 b o e)
              · rw [upd_same, List.range_succ, List.map_append, List.map_append, Int.zero_add]
                rfl
            · rintro D H' ⟨q1, q2, q3⟩
              exact kk D H' (s1.free q2) q3 (s1.trans q1)
theorem pow2_le {j k : Nat} (h : j ≤ k) : (2 : Int) ^ j ≤ 2 ^ k := by
  have := Nat.pow_le_pow_right (n := 2) (by decide) h
  exact_mod_cast this
theorem dead {d s b : Addr} {H H1 : Hp} (h : Dr d s H1) (k : Same (hid s H) (hid s H1)) (e : H1 b = none) : H b = none := by
  cases q : H b with
  | none => rfl
  | some o =>
    obtain ⟨u, hu⟩ := alive h k b o q
    rw [hu] at e
    cases e
/-! ## Rowx -/
/-! ### rows that are spoilt -/
/-- a list of drawn values, new since G -/
structure RowN (d s r : Addr) (G : Hp) (H : Hp) (xs : List V) : Prop where
  dr : Dr d s H
  ro : H r = some (.lst xs)
  ty : ∀ v ∈ xs, ∃ n, Ty0 (hid r (hid s H)) v n
  sm : Same (hid s G) (hid s H)
theorem RowN.grow {d s r : Addr} {G H H' : Hp} {xs : List V} (R : RowN d s r G H xs) (n : r ≠ s) (hD : Dr d s H') (k : Same (hid s H) (hid s H')) : RowN d s r G H' xs :=
  ⟨hD, hid_same _ _ (k _ _ (hid_to R.ro n)), fun v hv => by
    obtain ⟨m, hm⟩ := R.ty v hv
    exact ⟨m, hm.mono (hid_mono k)⟩, R.sm.trans k⟩
theorem RowN.put {d s r : Addr} {G H : Hp} {xs : List V} {v : V} {n : String} {a : Nat} (R : RowN d s r G H xs) (nr : r ≠ s) (hDG : Dr d s G) (hG : G r = none) (hv : Ty0 (hid r (hid s H)) v n) : RowN d s r G (upd H r (.lst (xs.set a v))) (xs.set a v) := by
  refine ⟨hDG.upd hG R.sm R.dr, upd_same, fun w hw => ?_, fun b o e => ?_⟩
  · rw [hid2_upd nr]
    rcases List.mem_or_eq_of_mem_set hw with h | h
    · exact R.ty w h
    · rw [h]
      exact ⟨n, hv⟩
  · have e1 := R.sm b o e
    obtain ⟨e2, e3⟩ := hid_of e
    obtain ⟨e4, e5⟩ := hid_of e1
    refine hid_to (upd_off (fun z => ?_) e4) e5
    rw [z, hG] at e2
    cases e2
theorem gd_in {H : Hp} {v : V} {dt : Dt} {lo hi : Int} (h : At H v dt) (hn : ¬ dt.inR lo hi) : vR lo hi v = false := by
  cases h <;> first | rfl | (simp only [vR]; rw [← Bool.not_eq_true]; intro q; simp at q; exact hn ⟨q.1, q.2⟩)
theorem gd_al {H : Hp} {v : V} {dt : Dt} {m : Int} (h : At H v dt) (hn : ¬ dt.isAl m) : vA m v = false := by
  cases h <;> first | rfl | (rw [← Bool.not_eq_true]; intro q; exact hn (vA_iff.mp q))
theorem gd_w {H : Hp} {v : V} {dt : Dt} (h : At H v dt) (hn : ∀ j ∈ ([16, 32, 64] : List Int), dt.eqI j = false) : vW v = false := by
  cases h with
  | int i =>
    have e1 := hn 16 (by simp)
    have e2 := hn 32 (by simp)
    have e3 := hn 64 (by simp)
    simp only [Dt.eqI] at e1 e2 e3
    simp only [vW, e1, e2, e3]
    rfl
  | _ => rfl
theorem due_dep (t : Str) : (dueD t).dep ≤ 5 := (show 3 ≤ 5 by decide)
theorem due_ok (t : Str) : (dueD t).okd = true := rfl
/-! ## Among -/
/-! ### a value that is not among some ints -/
def sp_not_among (K : PySem.W.Frag) : Sp := fun vs H Q _ => ∃ (d s r : Addr) (js : List Int), vs = [.ref d, .ref r] ∧ Dr d s H ∧ H r = some (.lst (js.map V.int)) ∧ r ≠ s ∧
  ∀ v dt H', At (nw H H') v dt → (∀ j ∈ js, dt.eqI j = false) → (dt.dep ≤ 1 ∧ dt.okd = true) → Dr d s H' → Same (hid s H) (hid s H') → Q v H'
theorem c_not_among {K : PySem.W.Frag} {d s r : Addr} {js : List Int} {H : Hp} {Q : VK} {E : XK} (hD : Dr d s H) (hr : H r = some (.lst (js.map V.int))) (n : r ≠ s)
    (k : ∀ v dt H', At (nw H H') v dt → (∀ j ∈ js, dt.eqI j = false) → (dt.dep ≤ 1 ∧ dt.okd = true) → Dr d s H' → Same (hid s H) (hid s H') → Q v H') : sp_not_among K [.ref d, .ref r] H Q E := ⟨d, s, r, js, rfl, hD, hr, n, k⟩
def notD : List Dt := [.int (-1), .int 0, .int 1, .int 2, .int 8, .int 15, .int 17, .int 33, .int 48, .int 128, .bl true, .bl false, .non, .str "", .str "worst", .str "16", .lst [], .tup [], .lst [.int 16], .tup [.str "best"]]
theorem notD_ok : ∀ d ∈ notD, d.dep ≤ 1 ∧ d.okd = true := by
  intro d hd
  simp only [notD, List.mem_cons, List.not_mem_nil, or_false] at hd
  rcases hd with rfl | rfl | rfl | rfl | rfl | rfl | rfl | rfl | rfl | rfl | rfl | rfl | rfl | rfl | rfl | rfl | rfl | rfl | rfl | rfl <;> exact ⟨by decide, by decide⟩
/-- the rest, while it grows -/
structure Rest (H1 : Hp) (q : Addr) (N : Hp) (js : List Int) (H' : Hp) (xs : List V) : Prop where
  kp : ∀ b o, b ≠ q → H1 b = some o → H' b = some o
  at_ : H' q = some (.lst xs)
  le : xs.length ≤ 20
  it : ∀ x ∈ xs, ∃ d, At N x d ∧ (∀ j ∈ js, d.eqI j = false) ∧ d.dep ≤ 1 ∧ d.okd = true
theorem not_loop {K : PySem.W.Frag} {H1 N : Hp} {q r l d : Addr} {js : List Int} {vals : List V} {nx bk ct : St → Hp → Prop} {rt : VK} (hq : H1 q = some (.lst [])) (hl : H1 l = some (.lst vals)) (hr : H1 r = some (.lst (js.map V.int))) (nl : l ≠ q) (nr : r ≠ q) (hN : ∀ b o, N b = some o → b ≠ q ∧ H1 b = some o) (hv : Ats N vals notD)
    (hn : ∀ σ' H' xs, Rest H1 q N js H' xs → 0 < xs.length → (∃ u1 u2 u3, σ' = [some (.ref d), some (.ref r), some (.ref q), u1, u2, u3]) → nx σ' H') :
    ForW (Itl K l) (gName 3) (tSeq (tAsg (tC (.bl false)) (gName 4)) (tSeq (tFor (iList K (tVar 1)) (gName 5) (tIfS (tB (tCall (sp_same 6) [] E0 (tCons (tVar 3) (tCons (tVar 5) tNil)))) (tAsg (tC (.bl true)) (gName 4)) tNext)) (tIfS (tNot (tB (tVar 4))) (tDrop (tBM K "list" rAppend (tVar 2) (tCons (tVar 3) tNil))) tNext))) ⟨nx, rt, bk, ct⟩ [some (.ref d), some (.ref r), some (.ref q), none, none, none] H1 := by
  have lv := hv.length
  have l20 : notD.length = 20 := rfl
  refine l_lst (xs := vals) (fun i σ' H' => ∃ xs u1 u2 u3, Rest H1 q N js H' xs ∧ xs.length ≤ i ∧ (10 < i → 0 < xs.length) ∧ σ' = [some (.ref d), some (.ref r), some (.ref q), u1, u2, u3]) ⟨[], none, none, none, ⟨fun b o _ e => e, hq, by simp, fun x hx => by cases hx⟩, by simp, by omega, rfl⟩ ?_ ?_ ?_
  · rintro i σ' H' _ ⟨xs, _, _, _, R, _⟩
    exact sqL (R.kp _ _ nl hl)
  · rintro i x σ' H' hx ⟨xs, u1, u2, u3, R, hle, hpos, rfl⟩
    have hi := (List.getElem?_eq_some_iff.mp hx).1
    obtain ⟨e, he⟩ : ∃ e, notD[i]? = some e := ⟨_, List.getElem?_eq_getElem (by omega)⟩
    obtain ⟨va, ea, ha⟩ := hv.get he
    rw [hx] at ea
    obtain rfl : x = va := Option.some.inj ea
    have hok := notD_ok e (List.mem_of_getElem? he)
    have hat : At H' x e := ha.mono fun b o w => R.kp _ _ (hN b o w).1 (hN b o w).2
    fold_lay; fold_depth
    refine f_lst (sqL (R.kp _ _ nr hr)) (l_lst (xs := js.map V.int) (fun m σ H2 => Same H' H2 ∧ ∃ y, σ = [some (.ref d), some (.ref r), some (.ref q), some x, some (.bl ((js.take m).any fun j => e.eqI j)), y]) ⟨Same.refl _, _, rfl⟩ (fun m σ H2 _ h => sqL (h.1 _ _ (R.kp _ _ nr hr))) ?_ ?_)
    · rintro m y σ H2 hy ⟨s2, z, rfl⟩
      obtain ⟨j, hj, rfl⟩ := getI hy
      fold_lay
      refine c_sameI (E := E0) (hat.mono s2) (Nat.le_trans hok.1 (by decide)) hok.2 fun H3 s3 => ?_
      have et : (js.take (m + 1)).any (fun j => e.eqI j) = ((js.take m).any (fun j => e.eqI j) || e.eqI j) := by
        rw [take_more hj, List.any_append]
        simp
      rw [et]
      fold_lay
      refine i_ifb (fun w => ?_) (fun w => ?_)
      · fold_lay
        rw [w, Bool.or_true]
        exact ⟨s2.trans s3, _, rfl⟩
      · fold_lay
        rw [w, Bool.or_false]
        exact ⟨s2.trans s3, _, rfl⟩
    · rintro σ H2 ⟨s2, z, rfl⟩
      rw [List.length_map, List.take_length]
      fold_lay
      refine i_ifb (fun w => ?_) (fun w => ?_)
      · have w : (js.any fun j => e.eqI j) = false := by simpa using w
        have hq2 := s2 _ _ R.at_
        fold_lay
        refine i_put hq2 (by have := R.le; omega) ?_
        refine ⟨xs ++ [x], _, _, _, ⟨fun b o nb hb => upd_off nb (s2 _ _ (R.kp _ _ nb hb)), upd_same, ?_, fun y hy => ?_⟩, ?_, ?_, rfl⟩
        · rw [List.length_append]
          show xs.length + 1 ≤ 20
          omega
        · rcases List.mem_append.mp hy with hy | hy
          · exact R.it y hy
          · rw [List.mem_singleton.mp hy]
            exact ⟨e, ha, fun j hj => by
              rw [← Bool.not_eq_true]
              intro g
              rw [List.any_eq_false] at w
              exact w j hj g, hok.1, hok.2⟩
        · rw [List.length_append]
          show xs.length + 1 ≤ i + 1
          omega
        · intro _
          rw [List.length_append]
          show 0 < xs.length + 1
          omega
      · have w : (js.any fun j => e.eqI j) = true := by simpa using w
        fold_lay
        refine ⟨xs, _, _, _, ⟨fun b o nb hb => s2 _ _ (R.kp _ _ nb hb), s2 _ _ R.at_, R.le, R.it⟩, by omega, fun hi10 => ?_, rfl⟩
        by_cases h10 : i = 10
        · subst h10
          have : e = .bl true := by
            have : notD[10]? = some (.bl true) := rfl
            rw [this] at he
            exact (Option.some.inj he).symm
          subst this
          simp [Dt.eqI] at w
        · exact hpos (by omega)
  · rintro σ' H' ⟨xs, u1, u2, u3, R, hle, hpos, rfl⟩
    exact hn _ _ xs R (hpos (by omega)) ⟨u1, u2, u3, rfl⟩
def N_l_not_among : List Str := ["_law_draws_here", "_law_row", "_law_rest", "_law_value", "_law_known", "_law_member"]
def t_l_not_among (K : PySem.W.Frag) : TS := (tSeq (tAsg (tLst tNil) (gName 2))
  (tSeq (tFor (iList K (tLst (tCons (tUn oNeg (tC (.int 1))) (tCons (tC (.int 0)) (tCons (tC (.int 1)) (tCons (tC (.int 2)) (tCons (tC (.int 8)) (tCons (tC (.int 15)) (tCons (tC (.int 17)) (tCons (tC (.int 33)) (tCons (tC (.int 48)) (tCons (tC (.int 128)) (tCons (tC (.bl true)) (tCons (tC (.bl false)) (tCons (tC .non) (tCons (tC (.str "")) (tCons (tC (.str "worst")) (tCons (tC (.str "16")) (tCons (tLst tNil) (tCons (tTup tNil) (tCons (tLst (tCons (tC (.int 16)) tNil)) (tCons (tTup (tCons (tC (.str "best")) tNil)) tNil)))))))))))))))))))))) (gName 3) (tSeq (tAsg (tC (.bl false)) (gName 4))
  (tSeq (tFor (iList K (tVar 1)) (gName 5) (tIfS (tB (tCall (sp_same 6) [] E0 (tCons (tVar 3) (tCons (tVar 5) tNil)))) (tAsg (tC (.bl true)) (gName 4)) tNext))
  (tIfS (tNot (tB (tVar 4))) (tDrop (tBM K "list" rAppend (tVar 2) (tCons (tVar 3) tNil))) tNext))))
  (tRet (tCall (sp_among K) [] E0 (tCons (tVar 0) (tCons (tVar 2) tNil))))))
theorem pure_not_among {K : PySem.W.Frag} {vs : List V} {H : Hp} {Q : VK} {E : XK} (h : sp_not_among K vs H Q E) : t_l_not_among K { nx := fun _ H' => Q .non H', rt := Q } (start N_l_not_among vs) H := by
  obtain ⟨d, s, r, js, rfl, hD, hr, nr, k⟩ := h
  unfold t_l_not_among
  fold_lay
  rename_i q hq
  fold_depth
  rename_i p1 h1 p2 h2 p3 h3 p4 h4 p5 h5
  have hrq : r ≠ q := ne_of_none hr hq
  have s0 := same_new (o := .lst []) hq
  have s1 := s0.trans (same_new (o := .lst []) h1)
  have s2 := s1.trans (same_new (o := .tup []) h2)
  have s3 := s2.trans (same_new (o := .lst [.int 16]) h3)
  have s4 := s3.trans (same_new (o := .tup [.str "best"]) h4)
  have s5 := s4.trans (same_new (o := .lst [.int (-1), .int 0, .int 1, .int 2, .int 8, .int 15, .int 17, .int 33, .int 48, .int 128, .bl true, .bl false, .non, .str "", .str "worst", .str "16", .ref p1, .ref p2, .ref p3, .ref p4]) h5)
  have b0 := upd_same (H := H) (a := q) (o := .lst [])
  have b1 := upd_keep (o := .lst []) h1 b0
  have b2 := upd_keep (o := .tup []) h2 b1
  have b3 := upd_keep (o := .lst [.int 16]) h3 b2
  have b4 := upd_keep (o := .tup [.str "best"]) h4 b3
  have b5 := upd_keep (o := .lst [.int (-1), .int 0, .int 1, .int 2, .int 8, .int 15, .int 17, .int 33, .int 48, .int 128, .bl true, .bl false, .non, .str "", .str "worst", .str "16", .ref p1, .ref p2, .ref p3, .ref p4]) h5 b4
  have f1 := Ne.symm (ne_of_none b0 h1)
  have f2 := Ne.symm (ne_of_none b1 h2)
  have f3 := Ne.symm (ne_of_none b2 h3)
  have f4 := Ne.symm (ne_of_none b3 h4)
  have f5 := Ne.symm (ne_of_none b4 h5)
  refine f_lst (sqL upd_same) (not_loop (N := hid q (nw H _)) b5 upd_same (s5 _ _ hr) f5 hrq (fun b o e => ⟨(hid_of e).2, (nw_of (hid_of e).1).2⟩) ?_ ?_)
  · exact .cons (.int _) (.cons (.int _) (.cons (.int _) (.cons (.int _) (.cons (.int _) (.cons (.int _) (.cons (.int _) (.cons (.int _) (.cons (.int _) (.cons (.int _) (.cons (.bl _) (.cons (.bl _) (.cons .non (.cons (.str _) (.cons (.str _) (.cons (.str _)
      (.cons (.lst (hid_to (nw_to (s0.free h1) (by kct_strs)) f1) .nil) (.cons (.tup (hid_to (nw_to (s1.free h2) (by kct_strs)) f2) .nil) (.cons (.lst (hid_to (nw_to (s2.free h3) (by kct_strs)) f3) (.cons (.int 16) .nil)) (.cons (.tup (hid_to (nw_to (s3.free h4) (by kct_strs)) f4) (.cons (.str _) .nil)) .nil)))))))))))))))))))
  · rintro σ' H' xs R hpos ⟨u1, u2, u3, rfl⟩
    have nqs : q ≠ s := hD.ne hq
    have sH : Same H H' := fun b o e => R.kp _ _ (ne_of_none e hq) (s5 _ _ e)
    have hD' := hD.same sH
    fold_lay
    refine c_among hD' R.at_ nqs hpos (by have := R.le; omega) fun v H2 hv hD2 st2 => ?_
    obtain ⟨dt, g1, g2, g3, g4⟩ := R.it v hv
    refine k v dt H2 (g1.mono fun b o e => ?_) g2 ⟨g3, g4⟩ hD2 ((hid_mono sH).trans st2)
    obtain ⟨e1, e2⟩ := hid_of e
    obtain ⟨e3, e4⟩ := nw_of e1
    exact nw_to e3 (hid_same _ _ (st2 _ _ (hid_to (R.kp _ _ e2 e4) (hD.ne e3))))
/-! ## Classes -/
/-! ### classes of slots -/
def szs : List Int := [1, 2, 3, 4, 6, 8, 12, 16, 24, 32]
def szw (w : Int) : List Int := szs.filter fun i => decide (i ≤ w / 2)
theorem szw64 : szw 64 = szs := by decide +kernel
theorem szs_le : ∀ i ∈ szs, 1 ≤ i ∧ i ≤ 32 := by decide
def vC : V → Bool
  | .int i => decide (i ∈ szs)
  | _ => false
/-- the align of a class -/
def cal (i : Int) : Int := if i % 4 = 0 then 4 else if i % 2 = 0 then 2 else 1
def sp_power_in : Sp := fun vs H Q _ => ∃ (i : Int), vs = [.int i] ∧ 1 ≤ i ∧ i ≤ 1000000000 ∧ Q (.int (Builtin.bitAnd i (-i))) H
def N_p_power_in : List Str := ["number"]
def t_p_power_in (K : PySem.W.Frag) : TS := (tSeq (tIfS (tNot (tB (tCall (sp_whole_between K) [] E0 (tCons (tVar 0) (tCons (tC (.int 1)) (tCons (tC (.int 1000000000)) tNil)))))) tNever tNext)
  (tRet (tOp oAnd (tVar 0) (tUn oNeg (tVar 0)))))
theorem pure_power_in {K : PySem.W.Frag} {vs : List V} {H : Hp} {Q : VK} {E : XK} (h : sp_power_in vs H Q E) : t_p_power_in K { nx := fun _ H' => Q .non H', rt := Q } (start N_p_power_in vs) H := by
  obtain ⟨i, rfl, h1, h2, k⟩ := h
  unfold t_p_power_in
  fold_depth
  refine c_whole_between (.int _) ?_
  rw [vR_yes h1 h2]
  fold_lay
  exact k
def sp_class_sizes (K : PySem.W.Frag) (c : Cl) : Sp := fun vs H Q E => ∃ (v : V) (n : String), vs = [v] ∧ Ty0 H v n ∧ BvC K c.k_BadValue ∧ KTup K c.x_SIZES szs ∧
  (vW v = true → ∀ l H', H l = none → H' l = some (.lst ((szw (toI v)).map V.int)) → Same H H' → Q (.ref l) H') ∧ (vW v = false → ∀ d H', BadAt H' d (.str "width") → Same H H' → E (.ref c.k_BadValue) (some d) H')
def N_p_class_sizes : List Str := ["width", "size"]
def t_p_class_sizes (K : PySem.W.Frag) (c : Cl) (E : XK) : TS := (tSeq (tDrop (tCall (sp_check_width K c) [] E (tCons (tVar 0) tNil)))
  (tRet (tLc (iTup K (tC (.ref c.x_SIZES))) (gName 1) (tTest (tOp oLe (tVar 1) (tOp oDiv (tVar 0) (tC (.int 2))))) (tVar 1) [1])))
theorem filter_take {p : Int → Bool} {l : List Int} {i : Nat} {x : Int} (h : l[i]? = some x) : (l.take (i + 1)).filter p = (l.take i).filter p ++ (if p x = true then [x] else []) := by
  rw [take_more h, List.filter_append]
  by_cases q : p x = true
  · simp [q]
  · simp [q]
theorem pure_class_sizes {K : PySem.W.Frag} {c : Cl} {vs : List V} {H : Hp} {Q : VK} {E : XK} (h : sp_class_sizes K c vs H Q E) : t_p_class_sizes K c E { nx := fun _ H' => Q .non H', rt := Q } (start N_p_class_sizes vs) H := by
  obtain ⟨v, n, rfl, ht, hC, hT, k1, k2⟩ := h
  unfold t_p_class_sizes
  fold_lay
  refine c_check_width ht hC (fun h1 H1 s1 => ?_) k2
  have k1 := k1 h1
  obtain ⟨w, rfl, w1⟩ := vW_int h1
  fold_lay
  refine c_tup (hT.sq) (m_tup (xs := szs.map V.int) (fun D i H' => Same H1 H' ∧ H1 D = none ∧ H' D = some (.lst (((szs.take i).filter fun i => decide (i ≤ w / 2)).map V.int))) ?_ ?_ ?_ ?_)
  · exact fun D hD => ⟨same_new hD, hD, upd_same⟩
  · exact fun D i H' _ h => hT.sq
  · rintro D i x H' hx ⟨a1, a2, a3⟩
    obtain ⟨z, hz, rfl⟩ := getI hx
    fold_lay
    refine ⟨rfl, ?_⟩
    fold_lay
    have ft := filter_take (p := fun i => decide (i ≤ w / 2)) hz
    refine i_ifd (fun g => ?_) (fun g => ?_)
    · fold_lay
      refine ⟨_, a3, szl (by have e1 : szs.length = 10 := rfl; have := List.length_filter_le (fun i => decide (i ≤ w / 2)) (szs.take i); rw [List.length_take] at this; rw [List.length_map]; omega), ?_, a2, ?_⟩
      · exact fun b o e => upd_off (ne_of_none e a2) (a1 b o e)
      · rw [upd_same, ft, if_pos (decide_eq_true g), List.map_append]
        rfl
    · fold_lay
      refine ⟨a1, a2, ?_⟩
      rw [a3, ft, if_neg (by simpa using g), List.append_nil]
  · rintro D H' ⟨a1, a2, a3⟩
    rw [List.length_map, List.take_length] at a3
    exact k1 D H' (s1.free a2) a3 (s1.trans a1)
theorem c_class_sizes {K : PySem.W.Frag} {c : Cl} {w : Int} {H : Hp} {Q : VK} {E : XK} (w1 : w = 16 ∨ w = 32 ∨ w = 64) (hC : BvC K c.k_BadValue) (hT : KTup K c.x_SIZES szs) (k : ∀ l H', H l = none → H' l = some (.lst ((szw w).map V.int)) → Same H H' → Q (.ref l) H') : sp_class_sizes K c [.int w] H Q E := by
  have e : vW (.int w) = true := by simpa [vW] using w1
  exact ⟨_, _, rfl, .int w, hC, hT, fun _ => k, fun h => by rw [e] at h; cases h⟩
theorem in_ints {i : Int} : ∀ {l : List Int}, inV (.int i) (l.map V.int) = decide (i ∈ l)
  | [] => rfl
  | x :: r => by
    have e : (x == i) = decide (i = x) := by
      rw [Bool.eq_iff_iff]
      exact ⟨fun h => decide_eq_true (eq_of_beq h).symm, fun h => beq_iff_eq.mpr (of_decide_eq_true h).symm⟩
    have := in_ints (i := i) (l := r)
    unfold inV at this ⊢
    rw [List.map_cons, List.any_cons, this]
    show ((x == i) || decide (i ∈ r)) = _
    rw [e]
    simp
theorem flat_ints : ∀ l : List Int, (l.map V.int).all flatV = true
  | [] => rfl
  | x :: r => by
    rw [List.map_cons, List.all_cons, flat_ints r]
    rfl
theorem vC_no {v : V} (h : vI v = false) : vC v = false := by
  cases v <;> first | rfl | cases h
theorem vC_int {v : V} (h : vC v = true) : ∃ i, v = .int i ∧ i ∈ szs := by
  cases v <;> first | exact ⟨_, rfl, of_decide_eq_true h⟩ | cases h
def sp_check_class_size (K : PySem.W.Frag) (c : Cl) : Sp := fun vs H Q E => ∃ (v : V) (n : String), vs = [v] ∧ Ty0 H v n ∧ BvC K c.k_BadValue ∧ KTup K c.x_SIZES szs ∧
  (vC v = true → ∀ H', Same H H' → Q .non H') ∧ (vC v = false → ∀ d H', BadAt H' d (.str "size") → Same H H' → E (.ref c.k_BadValue) (some d) H')
theorem c_check_class_size {K : PySem.W.Frag} {c : Cl} {v : V} {n : String} {H : Hp} {Q : VK} {E : XK} (h : Ty0 H v n) (hC : BvC K c.k_BadValue) (hT : KTup K c.x_SIZES szs) (h1 : vC v = true → ∀ H', Same H H' → Q .non H') (h2 : vC v = false → ∀ d H', BadAt H' d (.str "size") → Same H H' → E (.ref c.k_BadValue) (some d) H') :
    sp_check_class_size K c [v] H Q E := ⟨v, n, rfl, h, hC, hT, h1, h2⟩
def N_p_check_class_size : List Str := ["value"]
def t_p_check_class_size (K : PySem.W.Frag) (c : Cl) (E : XK) : TS := (tIfS (tOr (tNot (tB (tCall (sp_is_whole K) [] E0 (tCons (tVar 0) tNil)))) (tTest (tOp (rIn K true) (tVar 0) (tCall (sp_class_sizes K c) [] E (tCons (tC (.int 64)) tNil))))) (tRz (tMkO c.k_BadValue (sp_init_BadValue K c.k_BadValue) [] (tCons (tC (.str "size")) tNil)) (fun cls d _ H => E cls d H)) tNext)
theorem pure_check_class_size {K : PySem.W.Frag} {c : Cl} {vs : List V} {H : Hp} {Q : VK} {E : XK} (h : sp_check_class_size K c vs H Q E) : t_p_check_class_size K c E { nx := fun _ H' => Q .non H', rt := Q } (start N_p_check_class_size vs) H := by
  obtain ⟨v, n, rfl, ht, hC, hT, k1, k2⟩ := h
  unfold t_p_check_class_size
  fold_lay
  refine c_is_whole ht ?_
  fold_lay
  refine i_ifb (fun h => ?_) (fun h => ?_)
  · have h : vI v = false := by simpa using h
    fold_lay
    exact c_bad hC (k2 (vC_no h))
  · have h : vI v = true := by simpa using h
    obtain ⟨i, rfl⟩ := vI_int h
    fold_lay
    refine c_class_sizes (by omega) hC hT fun l H1 hl hl1 s1 => ?_
    rw [szw64] at hl1
    refine ⟨l, _, rfl, .inl (sqL hl1), rfl, flat_ints _, ?_⟩
    rw [in_ints]
    refine i_blV ?_
    refine i_ifb (fun h => ?_) (fun h => ?_)
    · have h : vC (.int i) = false := by
        show decide (i ∈ szs) = false
        simpa using h
      fold_lay
      exact c_bad hC fun d H' hB hS => k2 h d H' hB (s1.trans hS)
    · have h : vC (.int i) = true := by
        show decide (i ∈ szs) = true
        simpa using h
      fold_lay
      exact k1 h _ s1
theorem cal_is : ∀ i ∈ szs, (if 4 < Builtin.bitAnd i (-i) then 4 else Builtin.bitAnd i (-i)) = cal i := by decide +kernel
def sp_class_align (K : PySem.W.Frag) (c : Cl) : Sp := fun vs H Q E => ∃ (v : V) (n : String), vs = [v] ∧ Ty0 H v n ∧ BvC K c.k_BadValue ∧ KTup K c.x_SIZES szs ∧
  (vC v = true → ∀ H', Same H H' → Q (.int (cal (toI v))) H') ∧ (vC v = false → ∀ d H', BadAt H' d (.str "size") → Same H H' → E (.ref c.k_BadValue) (some d) H')
def N_p_class_align : List Str := ["size"]
def t_p_class_align (K : PySem.W.Frag) (c : Cl) (E : XK) : TS := (tSeq (tDrop (tCall (sp_check_class_size K c) [] E (tCons (tVar 0) tNil)))
  (tRet (tCB rMin2 (tCons (tCall sp_power_in [] E0 (tCons (tVar 0) tNil)) (tCons (tC (.int 4)) tNil)))))
theorem pure_class_align {K : PySem.W.Frag} {c : Cl} {vs : List V} {H : Hp} {Q : VK} {E : XK} (h : sp_class_align K c vs H Q E) : t_p_class_align K c E { nx := fun _ H' => Q .non H', rt := Q } (start N_p_class_align vs) H := by
  obtain ⟨v, n, rfl, ht, hC, hT, k1, k2⟩ := h
  unfold t_p_class_align
  fold_lay
  refine c_check_class_size ht hC hT (fun h1 H1 s1 => ?_) k2
  have k1 := k1 h1 H1 s1
  obtain ⟨i, rfl, hi⟩ := vC_int h1
  have hb := szs_le i hi
  fold_lay
  refine ⟨i, rfl, hb.1, by omega, ?_⟩
  fold_lay
  rw [show (if 4 < Builtin.bitAnd i (-i) then 4 else Builtin.bitAnd i (-i)) = cal i from cal_is i hi]
  exact k1
theorem c_class_align {K : PySem.W.Frag} {c : Cl} {i : Int} {H : Hp} {Q : VK} {E : XK} (hi : i ∈ szs) (hC : BvC K c.k_BadValue) (hT : KTup K c.x_SIZES szs) (k : ∀ H', Same H H' → Q (.int (cal i)) H') : sp_class_align K c [.int i] H Q E := by
  have e : vC (.int i) = true := decide_eq_true hi
  exact ⟨_, _, rfl, .int i, hC, hT, fun _ => k, fun h => by rw [e] at h; cases h⟩
/-! ### class_order -/
/-- how many slots -/
def nsl (w o s : Int) : Int := (wds w o - cal s) / up (s + 1) (cal s)
theorem nsl3 : ∀ w ∈ ([16, 32, 64] : List Int), ∀ s ∈ szs, 2 ≤ nsl w 3 s := by decide +kernel
theorem cal_pow : ∀ s ∈ szs, cal s = 2 ^ 0 ∨ cal s = 2 ^ 1 ∨ cal s = 2 ^ 2 := by decide
theorem slab_cal {w o s : Int} (hw : w = 16 ∨ w = 32 ∨ w = 64) (o1 : 0 ≤ o) (o2 : o ≤ 8) (hs : s ∈ szs) : Slab w o s (cal s) := by
  have b := szs_le s hs
  have c := cal_pow s hs
  refine ⟨hw, o1, o2, b.1, by omega, ?_, ?_⟩
  · rcases c with c | c | c
    · exact ⟨0, c⟩
    · exact ⟨1, c⟩
    · exact ⟨2, c⟩
  · have : cal s ≤ 4 := by
      unfold cal
      split
      · omega
      · split <;> omega
    omega
theorem shape_nsl {w o s : Int} : shape w o s (cal s) = if nsl w o s = 0 then none else some (up (s + 1) (cal s), nsl w o s, (wds w o - cal s - nsl w o s * up (s + 1) (cal s)) / cal s + 1) := rfl
def bad26o (v1 v2 : V) : Option Str := if vW v1 = false then some "width" else if vC v2 = false then some "size" else none
def sp_class_order (K : PySem.W.Frag) (c : Cl) : Sp := fun vs H Q E => ∃ (v1 v2 : V) (n1 n2 : String), vs = [v1, v2] ∧ Ty0 H v1 n1 ∧ Ty0 H v2 n2 ∧ BvC K c.k_BadValue ∧ KTup K c.x_SIZES szs ∧
  (∀ t, bad26o v1 v2 = some t → ∀ d H', BadAt H' d (.str t) → Same H H' → E (.ref c.k_BadValue) (some d) H') ∧
  (bad26o v1 v2 = none → ∀ (o : Nat) H', o ≤ 3 → 2 ≤ nsl (toI v1) o (toI v2) → (∀ p : Nat, p < o → nsl (toI v1) p (toI v2) < 2) → Same H H' → Q (.int o) H')
def N_p_class_order : List Str := ["width", "size", "align", "order", "shape"]
def t_p_class_order (K : PySem.W.Frag) (c : Cl) (E : XK) : TS := (tSeq (tDrop (tCall (sp_check_width K c) [] E (tCons (tVar 0) tNil)))
  (tSeq (tDrop (tCall (sp_check_class_size K c) [] E (tCons (tVar 1) tNil)))
  (tSeq (tAsg (tCall (sp_class_align K c) [] E (tCons (tVar 1) tNil)) (gName 2))
  (tSeq (tAsg (tC (.int 0)) (gName 3))
  (tSeq (tAsg (tCall (sp_slab_shape K c) [] E (tCons (tVar 0) (tCons (tVar 3) (tCons (tVar 1) (tCons (tVar 2) tNil))))) (gName 4))
  (tSeq (tWhile (tOr (tTest (tOp oIsN (tVar 4) (tC .non))) (tTest (tOp oLt (tOp (rIxT K) (tVar 4) (tC (.int 1))) (tC (.int 2))))) (tSeq (tAug 3 (tC (.int 1)) (ipI fun i j => i + j))
  (tAsg (tCall (sp_slab_shape K c) [] E (tCons (tVar 0) (tCons (tVar 3) (tCons (tVar 1) (tCons (tVar 2) tNil))))) (gName 4))))
  (tRet (tVar 3))))))))
theorem pure_class_order {K : PySem.W.Frag} {c : Cl} {vs : List V} {H : Hp} {Q : VK} {E : XK} (h : sp_class_order K c vs H Q E) : t_p_class_order K c E { nx := fun _ H' => Q .non H', rt := Q } (start N_p_class_order vs) H := by
  obtain ⟨v1, v2, n1, n2, rfl, t1, t2, hC, hT, kE, kQ⟩ := h
  unfold t_p_class_order
  fold_lay
  refine c_check_width t1 hC (fun h1 H1 s1 => ?_) (fun h1 => kE _ (by simp [bad26o, h1]))
  fold_lay
  refine c_check_class_size (t2.mono s1) hC hT (fun h2 H2 s2 => ?_) (fun h2 d H' hB hS => kE _ (by simp [bad26o, h1, h2]) d H' hB (s1.trans hS))
  have kk := kQ (by simp [bad26o, h1, h2])
  obtain ⟨w, rfl, w1⟩ := vW_int h1
  obtain ⟨s, rfl, hs⟩ := vC_int h2
  fold_lay
  refine c_class_align hs hC hT fun H3 s3 => ?_
  fold_lay
  refine c_slab_ok hC (slab_cal w1 (by omega) (by omega) hs) fun v H4 hv s4 => ?_
  have st4 := ((s1.trans s2).trans s3).trans s4
  fold_lay
  refine i_seq ?_
  refine l_while (m := 3) (fun m σ' H' => Same H H' ∧ ∃ (o : Nat) (v : V), m + o = 3 ∧ (∀ p : Nat, p < o → nsl w p s < 2) ∧ At H' v (shD (shape w o s (cal s))) ∧ σ' = [some (.int w), some (.int s), some (.int (cal s)), some (.int o), some v]) ⟨st4, 0, v, rfl, fun p hp => by omega, hv.mono nw_same, rfl⟩ ?_
  rintro m σ' H5 ⟨s5, o, v, hm, hlow, hv5, rfl⟩
  have n3 := nsl3 w (by rcases w1 with rfl | rfl | rfl <;> simp) s hs
  have next : nsl w o s < 2 → ∀ σ2, σ2 = [some (.int w), some (.int s), some (.int (cal s)), some (.int o), some v] → tSeq (tAug 3 (tC (.int 1)) (ipI fun i j => i + j)) (tAsg (tCall (sp_slab_shape K c) [] E (tCons (tVar 0) (tCons (tVar 3) (tCons (tVar 1) (tCons (tVar 2) tNil))))) (gName 4)) ⟨fun σ2 H2 => ∃ m', m' < m ∧ (Same H H2 ∧ ∃ (o : Nat) (v : V), m' + o = 3 ∧ (∀ p : Nat, p < o → nsl w p s < 2) ∧ At H2 v (shD (shape w o s (cal s))) ∧ σ2 = [some (.int w), some (.int s), some (.int (cal s)), some (.int o), some v]), Q, tRet (tVar 3) { nx := fun _ H' => Q .non H', rt := Q }, fun σ2 H2 => ∃ m', m' < m ∧ (Same H H2 ∧ ∃ (o : Nat) (v : V), m' + o = 3 ∧ (∀ p : Nat, p < o → nsl w p s < 2) ∧ At H2 v (shD (shape w o s (cal s))) ∧ σ2 = [some (.int w), some (.int s), some (.int (cal s)), some (.int o), some v])⟩ σ2 H5 := by
    rintro hn σ2 rfl
    have ho : o < 3 := by
      rcases Nat.lt_or_ge o 3 with g | g
      · exact g
      · exfalso
        have : o = 3 := by omega
        subst this
        have n3 : 2 ≤ nsl w ((3 : Nat) : Int) s := n3
        omega
    fold_lay
    refine c_slab_ok hC (o := (o : Int) + 1) (slab_cal w1 (by omega) (by omega) hs) fun v' H6 hv6 s6 => ?_
    fold_lay
    exact ⟨m - 1, by omega, s5.trans s6, o + 1, v', by omega, fun p hp => by
      rcases Nat.lt_or_ge p o with g | g
      · exact hlow p g
      · have : p = o := by omega
        subst this
        exact hn, hv6.mono nw_same, rfl⟩
  rw [shape_nsl] at hv5
  by_cases h0 : nsl w o s = 0
  · rw [if_pos h0] at hv5
    cases hv5
    fold_lay
    exact i_turn (next (by omega) _ rfl)
  · rw [if_neg h0] at hv5
    cases hv5 with
    | @tup r rs _ hr hrs =>
      cases hrs with
      | cons e1 e2 =>
        cases e1
        cases e2 with
        | cons e1 e2 =>
          cases e1
          cases e2 with
          | cons e1 e2 =>
            cases e1
            cases e2
            fold_lay
            refine i_ifd (fun g => ?_) (fun g => ?_)
            · exact i_turn (next g _ rfl)
            · fold_lay
              exact kk o H5 (by omega) (by show 2 ≤ nsl w o s; omega) hlow s5
/-! ### class_of -/
def srvs (s a x : Int) : Prop := s ≤ x ∧ a ≤ cal x
/-- what class_of answers: the first class that serves, or None -/
def ClOf (w s a : Int) : V → Prop
  | .non => ∀ (i : Nat) (x : Int), (szw w)[i]? = some x → ¬ srvs s a x
  | .int k => ∃ (n : Nat) (y : Int), k = n ∧ (szw w)[n]? = some y ∧ srvs s a y ∧ ∀ (i : Nat) (x : Int), i < n → (szw w)[i]? = some x → ¬ srvs s a x
  | _ => False
def bad26c (v1 v2 v3 : V) : Option Str := if vW v1 = false then some "width" else if vR 1 1000000000 v2 = false then some "size" else if vA 1073741824 v3 = false then some "align" else none
theorem szw_mem {w x : Int} {i : Nat} (h : (szw w)[i]? = some x) : x ∈ szs := (List.mem_filter.mp (List.mem_of_getElem? h)).1
def sp_class_of (K : PySem.W.Frag) (c : Cl) : Sp := fun vs H Q E => ∃ (v1 v2 v3 : V) (n1 n2 n3 : String), vs = [v1, v2, v3] ∧ Ty0 H v1 n1 ∧ Ty0 H v2 n2 ∧ Ty0 H v3 n3 ∧ BvC K c.k_BadValue ∧ KTup K c.x_SIZES szs ∧
  (∀ t, bad26c v1 v2 v3 = some t → ∀ d H', BadAt H' d (.str t) → Same H H' → E (.ref c.k_BadValue) (some d) H') ∧
  (bad26c v1 v2 v3 = none → ∀ v H', ClOf (toI v1) (toI v2) (toI v3) v → Same H H' → Q v H')
def N_p_class_of : List Str := ["width", "size", "align", "index", "large"]
def t_p_class_of (K : PySem.W.Frag) (c : Cl) (E : XK) : TS := (tSeq (tDrop (tCall (sp_check_width K c) [] E (tCons (tVar 0) tNil)))
  (tSeq (tDrop (tCall (sp_check_number K c) [] E (tCons (tVar 1) (tCons (tC (.int 1)) (tCons (tC (.int 1000000000)) (tCons (tC (.str "size")) tNil))))))
  (tSeq (tDrop (tCall (sp_check_align3 K c) [] E (tCons (tVar 2) (tCons (tC (.int 1073741824)) (tCons (tC (.str "align")) tNil)))))
  (tSeq (tFor (iEnum K (tCons (tCall (sp_class_sizes K c) [] E (tCons (tVar 0) tNil)) tNil)) (gTup K 2 (gCons (gName 3) (gCons (gName 4) gNil))) (tIfS (tAnd (tTest (tOp oGe (tVar 4) (tVar 1))) (tTest (tOp oGe (tCall (sp_class_align K c) [] E (tCons (tVar 4) tNil)) (tVar 2)))) (tRet (tVar 3)) tNext))
  (tRet (tC .non))))))
theorem pure_class_of {K : PySem.W.Frag} {c : Cl} {vs : List V} {H : Hp} {Q : VK} {E : XK} (h : sp_class_of K c vs H Q E) : t_p_class_of K c E { nx := fun _ H' => Q .non H', rt := Q } (start N_p_class_of vs) H := by
  obtain ⟨v1, v2, v3, n1, n2, n3, rfl, t1, t2, t3, hC, hT, kE, kQ⟩ := h
  unfold t_p_class_of
  fold_lay
  refine c_check_width t1 hC (fun h1 H1 s1 => ?_) (fun h1 => kE _ (by simp [bad26c, h1]))
  fold_lay
  refine c_check_number (t2.mono s1) hC (fun h2 => ?_) (fun h2 d H' hB hS => kE _ (by simp [bad26c, h1, h2]) d H' hB (s1.trans hS))
  fold_lay
  refine c_check_align3 (t3.mono s1) hC (fun h3 => ?_) (fun h3 d H' hB hS => kE _ (by simp [bad26c, h1, h2, h3]) d H' hB (s1.trans hS))
  have kk := kQ (by simp [bad26c, h1, h2, h3])
  obtain ⟨w, rfl, w1⟩ := vW_int h1
  obtain ⟨s, rfl, b1, b2⟩ := vR_int h2
  obtain ⟨a, rfl, a1, a2⟩ := vA_int h3
  have kk : ∀ v H', ClOf w s a v → Same H H' → Q v H' := kk
  fold_lay; fold_depth
  refine c_class_sizes w1 hC hT fun l H2 jl hl2 s2 => ?_
  refine ⟨l, _, rfl, sqL hl2, ?_⟩
  refine l_enum (xs := (szw w).map V.int) (fun i σ' H' => Same H2 H' ∧ (∀ (j : Nat) (x : Int), j < i → (szw w)[j]? = some x → ¬ srvs s a x) ∧ ∃ y1 y2, σ' = [some (.int w), some (.int s), some (.int a), y1, y2]) ⟨Same.refl _, fun j x hj => by omega, _, _, rfl⟩ (fun i σ' H' _ h => sqL (h.1 _ _ hl2)) ?_ ?_
  · rintro i v σ' H3 T hv ⟨s3, hno, y1, y2, rfl⟩ hT3
    obtain ⟨x, hx, rfl⟩ := getI hv
    have hT3' : upd H3 T (.tup [.int (i : Nat), .int x]) T = some (.tup [.int (i : Nat), .int x]) := upd_same
    have step : ¬ srvs s a x → ∀ (j : Nat) (y : Int), j < i + 1 → (szw w)[j]? = some y → ¬ srvs s a y := fun hn j y hj hy => by
      rcases Nat.lt_or_ge j i with g | g
      · exact hno j y g hy
      · have : j = i := by omega
        subst this
        rw [hx] at hy
        cases hy
        exact hn
    fold_lay
    refine i_ifd (fun g1 => ?_) (fun g1 => ?_)
    · fold_lay
      refine c_class_align (szw_mem hx) hC hT fun H4 s4 => ?_
      have s24 := s3.trans ((same_new (o := .tup [.int (i : Nat), .int x]) hT3).trans s4)
      fold_lay
      refine i_ifd (fun g2 => ?_) (fun g2 => ?_)
      · fold_lay
        exact kk _ _ ⟨i, x, rfl, hx, ⟨g1, g2⟩, hno⟩ (s1.trans (s2.trans s24))
      · fold_lay
        exact ⟨s24, step fun z => g2 z.2, _, _, rfl⟩
    · fold_lay
      exact ⟨s3.trans (same_new hT3), step fun z => g1 z.1, _, _, rfl⟩
  · rintro σ' H3 ⟨s3, hno, y1, y2, rfl⟩
    fold_lay
    refine kk _ _ (fun i x hx => hno i x ?_ hx) (s1.trans (s2.trans s3))
    have := (List.getElem?_eq_some_iff.mp hx).1
    rw [List.length_map]
    exact this
/-! ## K26a -/
/-! ### classes judged -/
def sp_up : Sp := fun vs H Q _ => ∃ (n m : Int), vs = [.int n, .int m] ∧ 0 < m ∧ m ≤ 1000000000000 ∧ Q (.int (up n m)) H
def N_l_up : List Str := ["_law_number_here", "_law_alignment_here"]
def t_l_up (K : PySem.W.Frag) : TS := (tRet (tOp oMul (tOp oDiv (tOp oSub (tOp oAdd (tVar 0) (tVar 1)) (tC (.int 1))) (tVar 1)) (tVar 1)))
theorem pure_up {K : PySem.W.Frag} {vs : List V} {H : Hp} {Q : VK} {E : XK} (h : sp_up vs H Q E) : t_l_up K { nx := fun _ H' => Q .non H', rt := Q } (start N_l_up vs) H := by
  obtain ⟨n, m, rfl, h1, h2, k⟩ := h
  unfold t_l_up
  fold_lay
  exact k
def sp_is_within (K : PySem.W.Frag) : Sp := fun vs H Q _ => ∃ (v : V) (n : String) (lo hi : Int), vs = [v, .int lo, .int hi] ∧ Ty0 H v n ∧ Q (.bl (vR lo hi v)) H
theorem c_is_within {K : PySem.W.Frag} {v : V} {n : String} {lo hi : Int} {H : Hp} {Q : VK} {E : XK} (h : Ty0 H v n) (q : Q (.bl (vR lo hi v)) H) : sp_is_within K [v, .int lo, .int hi] H Q E := ⟨v, n, lo, hi, rfl, h, q⟩
def N_l_is_within : List Str := ["_law_value", "_law_low", "_law_high"]
def t_l_is_within (K : PySem.W.Frag) : TS := (tRet (tAndV (tCall (sp_is_int K) [] E0 (tCons (tVar 0) tNil)) (tChain oLe oLe (tVar 1) (tVar 0) (tVar 2))))
theorem pure_is_within {K : PySem.W.Frag} {vs : List V} {H : Hp} {Q : VK} {E : XK} (h : sp_is_within K vs H Q E) : t_l_is_within K { nx := fun _ H' => Q .non H', rt := Q } (start N_l_is_within vs) H := by
  obtain ⟨v, n, lo, hi, rfl, ht, k⟩ := h
  unfold t_l_is_within
  fold_lay
  refine c_is_int ht ?_
  fold_lay
  refine i_ifb (fun h => ?_) (fun h => ?_)
  · obtain ⟨i, rfl⟩ := vI_int h
    fold_lay
    refine i_ifd (fun h1 => ?_) (fun h1 => ?_)
    · fold_lay
      simpa [vR, h1] using k
    · simpa [vR, h1] using k
  · rw [vR_no h] at k
    exact k
def sp_lclass_sizes : Sp := fun vs H Q _ => ∃ (w : Int), vs = [.int w] ∧ ∀ l H', H l = none → H' l = some (.lst ((szw w).map V.int)) → Same H H' → Q (.ref l) H'
def N_l_class_sizes : List Str := ["_law_page_width", "_law_size"]
def t_l_class_sizes (K : PySem.W.Frag) : TS := (tRet (tLc (iList K (tLst (tCons (tC (.int 1)) (tCons (tC (.int 2)) (tCons (tC (.int 3)) (tCons (tC (.int 4)) (tCons (tC (.int 6)) (tCons (tC (.int 8)) (tCons (tC (.int 12)) (tCons (tC (.int 16)) (tCons (tC (.int 24)) (tCons (tC (.int 32)) tNil)))))))))))) (gName 1) (tTest (tOp oLe (tVar 1) (tOp oDiv (tVar 0) (tC (.int 2))))) (tVar 1) [1]))
theorem pure_class_sizes_l {K : PySem.W.Frag} {vs : List V} {H : Hp} {Q : VK} {E : XK} (h : sp_lclass_sizes vs H Q E) : t_l_class_sizes K { nx := fun _ H' => Q .non H', rt := Q } (start N_l_class_sizes vs) H := by
  obtain ⟨w, rfl, k1⟩ := h
  unfold t_l_class_sizes
  fold_lay
  rename_i p hp
  have hp1 : upd H p (.lst [.int 1, .int 2, .int 3, .int 4, .int 6, .int 8, .int 12, .int 16, .int 24, .int 32]) p = some (.lst (szs.map V.int)) := upd_same
  have s1 : Same H (upd H p (.lst [.int 1, .int 2, .int 3, .int 4, .int 6, .int 8, .int 12, .int 16, .int 24, .int 32])) := same_new hp
  generalize upd H p (.lst [.int 1, .int 2, .int 3, .int 4, .int 6, .int 8, .int 12, .int 16, .int 24, .int 32]) = H1 at *
  refine c_lst (sqL hp1) (m_lst (xs := szs.map V.int) (fun D i H' => Same H1 H' ∧ H1 D = none ∧ H' D = some (.lst (((szs.take i).filter fun i => decide (i ≤ w / 2)).map V.int))) ?_ ?_ ?_ ?_)
  · exact fun D hD => ⟨same_new hD, hD, upd_same⟩
  · exact fun D i H' _ h => sqL (h.1 _ _ hp1)
  · rintro D i x H' hx ⟨a1, a2, a3⟩
    obtain ⟨z, hz, rfl⟩ := getI hx
    fold_lay
    refine ⟨rfl, ?_⟩
    fold_lay
    have ft := filter_take (p := fun i => decide (i ≤ w / 2)) hz
    refine i_ifd (fun g => ?_) (fun g => ?_)
    · fold_lay
      refine ⟨_, a3, szl (by have e1 : szs.length = 10 := rfl; have := List.length_filter_le (fun i => decide (i ≤ w / 2)) (szs.take i); rw [List.length_take] at this; rw [List.length_map]; omega), ?_, a2, ?_⟩
      · exact fun b o e => upd_off (ne_of_none e a2) (a1 b o e)
      · rw [upd_same, ft, if_pos (decide_eq_true g), List.map_append]
        rfl
    · fold_lay
      refine ⟨a1, a2, ?_⟩
      rw [a3, ft, if_neg (by simpa using g), List.append_nil]
  · rintro D H' ⟨a1, a2, a3⟩
    rw [List.length_map, List.take_length] at a3
    exact k1 D H' (s1.free a2) a3 (s1.trans a1)
theorem i_nin {K : PySem.W.Frag} {H : Hp} {Q : VK} {x : V} {p : Addr} {xs : List V} {b : Bool} (h : SqL K H p xs ∨ SqT K H p xs) (fx : flatV x = true) (fs : xs.all flatV = true) (e : inV x xs = b) (q : Q (.bl (!b)) H) : rIn K true x (.ref p) H Q := ⟨p, xs, rfl, h, fx, fs, by rw [e]; exact q⟩
def sp_is_grain (K : PySem.W.Frag) : Sp := fun vs H Q _ => ∃ (s : Int), vs = [.int s, .int (cal s)] ∧ s ∈ szs ∧ ∀ H', Same H H' → Q (.bl true) H'
def N_l_is_grain : List Str := ["_law_size", "_law_told"]
def t_l_is_grain (K : PySem.W.Frag) : TS := (tSeq (tIfS (tOr (tNot (tB (tCall (sp_is_int K) [] E0 (tCons (tVar 1) tNil)))) (tOr (tTest (tOp (rIn K true) (tVar 1) (tLst (tCons (tC (.int 1)) (tCons (tC (.int 2)) (tCons (tC (.int 4)) tNil)))))) (tTest (tOp rNe (tOp oMod (tCB rInt1 (tCons (tVar 0) tNil)) (tVar 1)) (tC (.int 0)))))) (tRet (tC (.bl false))) tNext)
  (tRet (tOrV (tOp rEq (tVar 1) (tC (.int 4))) (tOp rNe (tOp oMod (tCB rInt1 (tCons (tVar 0) tNil)) (tOp oMul (tC (.int 2)) (tVar 1))) (tC (.int 0))))))
theorem cal_in : ∀ s ∈ szs, cal s ∈ ([1, 2, 4] : List Int) ∧ s % cal s = 0 ∧ (cal s = 4 ∨ s % (2 * cal s) ≠ 0) := by decide
theorem pure_is_grain {K : PySem.W.Frag} {vs : List V} {H : Hp} {Q : VK} {E : XK} (h : sp_is_grain K vs H Q E) : t_l_is_grain K { nx := fun _ H' => Q .non H', rt := Q } (start N_l_is_grain vs) H := by
  obtain ⟨s, rfl, hs, k⟩ := h
  obtain ⟨c1, c2, c3⟩ := cal_in s hs
  have cp : 0 < cal s ∧ cal s ≤ 4 := by
    unfold cal
    split
    · omega
    · split <;> omega
  unfold t_l_is_grain
  fold_depth
  refine c_is_int (.int _) ?_
  rw [show vI (.int (cal s)) = true from rfl]
  fold_lay
  rename_i p hp
  have e : inV (.int (cal s)) [.int 1, .int 2, .int 4] = true := by
    have := in_ints (i := cal s) (l := [1, 2, 4])
    rw [decide_eq_true c1] at this
    exact this
  refine i_nin (.inl (sqL upd_same)) rfl rfl e ?_
  fold_lay
  refine i_ifn (fun z => absurd c2 z) (fun _ => ?_)
  fold_lay
  refine i_ifd (fun g => ?_) (fun g => ?_)
  · exact k _ (same_new hp)
  · fold_lay
    rcases c3 with c3 | c3
    · exact absurd c3 g
    · rw [decide_eq_false c3]
      exact k _ (same_new hp)
/-! ## K26b -/
/-! ### classes judged, on -/
def two (w p s g : Int) : Bool := decide (0 ≤ p) && decide (g + 2 * up (s + 1) g ≤ w * 2 ^ p.toNat)
def sp_two_fit : Sp := fun vs H Q _ => ∃ (w p s g : Int), vs = [.int w, .int p, .int s, .int g] ∧ 0 ≤ w ∧ w ≤ 1000 ∧ p ≤ 100 ∧ 0 < g ∧ g ≤ 1000 ∧ Q (.bl (two w p s g)) H
def N_l_two_fit : List Str := ["_law_page_width", "_law_power_here", "_law_size", "_law_grain"]
def t_l_two_fit (K : PySem.W.Frag) : TS := (tSeq (tIfS (tTest (tOp oLt (tVar 1) (tC (.int 0)))) (tRet (tC (.bl false))) tNext)
  (tRet (tOp oLe (tOp oAdd (tVar 3) (tOp oMul (tC (.int 2)) (tCall sp_up [] E0 (tCons (tOp oAdd (tVar 2) (tC (.int 1))) (tCons (tVar 3) tNil))))) (tOp oMul (tVar 0) (tCall sp_power [] E0 (tCons (tVar 1) tNil))))))
theorem pure_two_fit {K : PySem.W.Frag} {vs : List V} {H : Hp} {Q : VK} {E : XK} (h : sp_two_fit vs H Q E) : t_l_two_fit K { nx := fun _ H' => Q .non H', rt := Q } (start N_l_two_fit vs) H := by
  obtain ⟨w, p, s, g, rfl, w1, w2, p2, g1, g2, k⟩ := h
  unfold t_l_two_fit
  fold_depth
  refine i_ifd (fun h => ?_) (fun h => ?_)
  · fold_lay
    rw [show two w p s g = false by unfold two; rw [decide_eq_false (by omega)]; rfl] at k
    exact k
  · fold_lay
    refine ⟨_, _, rfl, by omega, by omega, ?_⟩
    fold_lay
    refine ⟨p, rfl, by omega, by omega, ?_⟩
    fold_lay
    rw [show two w p s g = decide (g + 2 * up (s + 1) g ≤ w * 2 ^ p.toNat) by unfold two; rw [decide_eq_true (by omega : 0 ≤ p)]; rfl] at k
    exact k
theorem cal_le (s : Int) : 0 < cal s ∧ cal s ≤ 4 := by
  unfold cal
  split
  · omega
  · split <;> omega
theorem two_nsl {w s : Int} {o : Nat} (hs : s ∈ szs) : two w o s (cal s) = decide (2 ≤ nsl w o s) := by
  have c := cal_le s
  have b := szs_le s hs
  have u := up_spec (n := s + 1) c.1
  unfold two nsl wds
  rw [decide_eq_true (by omega : (0 : Int) ≤ (o : Int)), Bool.true_and]
  have e := Int.le_ediv_iff_mul_le (a := 2) (b := w * 2 ^ ((o : Int)).toNat - cal s) (c := up (s + 1) (cal s)) (by omega)
  rw [decide_eq_decide, e]
  omega
theorem two_prev {w s : Int} {o : Nat} (hs : s ∈ szs) (h : ∀ p : Nat, p < o → nsl w p s < 2) : two w ((o : Int) - 1) s (cal s) = false := by
  cases o with
  | zero =>
    unfold two
    rw [decide_eq_false (by omega)]
    rfl
  | succ n =>
    rw [show ((n + 1 : Nat) : Int) - 1 = (n : Int) by omega, two_nsl hs, decide_eq_false (by have := h n (by omega); omega)]
theorem AtI3 {H : Hp} {v : V} {x y z : Int} (h : At H v (.tup [.int x, .int y, .int z])) : ∃ p, v = .ref p ∧ H p = some (.tup [.int x, .int y, .int z]) := by
  cases h with
  | @tup r rs _ hr hrs =>
    cases hrs with
    | cons e1 e2 =>
      cases e1
      cases e2 with
      | cons e1 e2 =>
        cases e1
        cases e2 with
        | cons e1 e2 =>
          cases e1
          cases e2
          exact ⟨r, rfl, hr⟩
theorem nsl_nn {w s : Int} {o : Nat} (w1 : w = 16 ∨ w = 32 ∨ w = 64) (o3 : o ≤ 8) (hs : s ∈ szs) : 0 ≤ nsl w o s := by
  have c := cal_le s
  have b := szs_le s hs
  have u := up_spec (n := s + 1) c.1
  have g := wds_le (slab_cal (o := (o : Int)) w1 (by omega) (by omega) hs)
  unfold nsl
  exact Int.ediv_nonneg (by omega) (by omega)
def sp_is_order (K : PySem.W.Frag) (c : Cl) : Sp := fun vs H Q _ => ∃ (w s : Int) (o : Nat), vs = [.int w, .int s, .int o] ∧ (w = 16 ∨ w = 32 ∨ w = 64) ∧ s ∈ szs ∧ o ≤ 3 ∧ 2 ≤ nsl w o s ∧ (∀ p : Nat, p < o → nsl w p s < 2) ∧ BvC K c.k_BadValue ∧ KTup K c.x_SIZES szs ∧ ∀ H', Same H H' → Q (.bl true) H'
def N_l_is_order : List Str := ["_law_page_width", "_law_size", "_law_told", "_law_grain", "_law_one"]
def t_l_is_order (K : PySem.W.Frag) (c : Cl) : TS := (tSeq (tAsg (tCall (sp_class_align K c) [] E0 (tCons (tVar 1) tNil)) (gName 3))
  (tSeq (tIfS (tOr (tNot (tB (tCall (sp_is_grain K) [] E0 (tCons (tVar 1) (tCons (tVar 3) tNil))))) (tNot (tB (tCall (sp_is_within K) [] E0 (tCons (tVar 2) (tCons (tC (.int 0)) (tCons (tC (.int 8)) tNil))))))) (tRet (tC (.bl false))) tNext)
  (tSeq (tIfS (tOr (tNot (tB (tCall sp_two_fit [] E0 (tCons (tVar 0) (tCons (tVar 2) (tCons (tVar 1) (tCons (tVar 3) tNil))))))) (tB (tCall sp_two_fit [] E0 (tCons (tVar 0) (tCons (tOp oSub (tVar 2) (tC (.int 1))) (tCons (tVar 1) (tCons (tVar 3) tNil))))))) (tRet (tC (.bl false))) tNext)
  (tSeq (tAsg (tCall (sp_slab_shape K c) [] E0 (tCons (tVar 0) (tCons (tVar 2) (tCons (tVar 1) (tCons (tVar 3) tNil))))) (gName 4))
  (tSeq (tIfS (tOr (tNot (tB (tCall (sp_is_ints K) [] E0 (tCons (tVar 4) (tCons (tC (.bl false)) (tCons (tC (.int 3)) tNil)))))) (tTest (tOp oLt (tOp (rIxT K) (tVar 4) (tC (.int 1))) (tC (.int 2))))) (tRet (tC (.bl false))) tNext)
  (tSeq (tIfS (tTest (tOp rEq (tVar 2) (tC (.int 0)))) (tRet (tC (.bl true))) tNext)
  (tSeq (tAsg (tCall (sp_slab_shape K c) [] E0 (tCons (tVar 0) (tCons (tOp oSub (tVar 2) (tC (.int 1))) (tCons (tVar 1) (tCons (tVar 3) tNil))))) (gName 4))
  (tRet (tOrV (tOp oIsN (tVar 4) (tC .non)) (tAndV (tCall (sp_is_ints K) [] E0 (tCons (tVar 4) (tCons (tC (.bl false)) (tCons (tC (.int 3)) tNil)))) (tOp rEq (tOp (rIxT K) (tVar 4) (tC (.int 1))) (tC (.int 1)))))))))))))
theorem pure_is_order {K : PySem.W.Frag} {c : Cl} {vs : List V} {H : Hp} {Q : VK} {E : XK} (h : sp_is_order K c vs H Q E) : t_l_is_order K c { nx := fun _ H' => Q .non H', rt := Q } (start N_l_is_order vs) H := by
  obtain ⟨w, s, o, rfl, w1, hs, o3, n2, hlow, hC, hT, k⟩ := h
  have cp := cal_le s
  unfold t_l_is_order
  fold_lay
  refine c_class_align hs hC hT fun H1 s1 => ?_
  fold_lay; fold_depth
  refine ⟨s, rfl, hs, fun H2 s2 => ?_⟩
  fold_lay
  refine c_is_within (.int _) ?_
  rw [vR_yes (by omega) (by omega)]
  fold_lay; fold_depth
  refine ⟨w, _, s, _, rfl, by omega, by omega, by omega, cp.1, by omega, ?_⟩
  rw [two_nsl hs, decide_eq_true n2]
  fold_lay
  refine ⟨w, _, s, _, rfl, by omega, by omega, by omega, cp.1, by omega, ?_⟩
  rw [two_prev hs hlow]
  fold_lay
  refine c_slab_ok hC (slab_cal w1 (by omega) (by omega) hs) fun v H3 hv s3 => ?_
  have hv := hv.mono nw_same
  rw [shape_nsl, if_neg (by omega)] at hv
  have hv' := hv
  obtain ⟨p, rfl, hp⟩ := AtI3 hv
  fold_lay; fold_depth
  refine c_is_ints hv' ?_
  rw [show isInts false 3 (shD (some (up (s + 1) (cal s), nsl w o s, (wds w o - cal s - nsl w o s * up (s + 1) (cal s)) / cal s + 1))) = true from rfl]
  fold_lay
  refine i_no (by omega) ?_
  fold_lay; fold_depth
  refine i_ifd (fun h0 => ?_) (fun h0 => ?_)
  · fold_lay
    exact k _ (by mem_news)
  · obtain ⟨n, rfl⟩ : ∃ n, o = n + 1 := ⟨o - 1, by omega⟩
    have nn := nsl_nn (o := n) w1 (by omega) hs
    have nl := hlow n (by omega)
    fold_lay
    rw [show ((n + 1 : Nat) : Int) - 1 = (n : Int) by omega]
    refine c_slab_ok hC (slab_cal w1 (by omega) (by omega) hs) fun v H4 hv s4 => ?_
    have hv := hv.mono nw_same
    rw [shape_nsl] at hv
    by_cases z : nsl w n s = 0
    · rw [if_pos z] at hv
      cases hv
      fold_lay
      exact k _ (by mem_news)
    · rw [if_neg z] at hv
      have hv' := hv
      obtain ⟨q, rfl, hq⟩ := AtI3 hv
      fold_lay
      refine c_is_ints hv' ?_
      rw [show isInts false 3 (shD (some (up (s + 1) (cal s), nsl w n s, (wds w n - cal s - nsl w n s * up (s + 1) (cal s)) / cal s + 1))) = true from rfl]
      fold_lay
      rw [decide_eq_true (by omega : nsl w n s = 1)]
      exact k _ (by mem_news)
def sp_is_class (K : PySem.W.Frag) (c : Cl) : Sp := fun vs H Q _ => ∃ (l : Addr) (w s a : Int) (v : V), vs = [.ref l, .int s, .int a, v] ∧ H l = some (.lst ((szw w).map V.int)) ∧ ClOf w s a v ∧ BvC K c.k_BadValue ∧ KTup K c.x_SIZES szs ∧ ∀ H', Same H H' → Q (.bl true) H'
def N_l_is_class : List Str := ["_law_sizes", "_law_size", "_law_alignment_here", "_law_told", "_law_k", "_law_serves"]
def t_l_is_class (K : PySem.W.Frag) (c : Cl) : TS := (tSeq (tIfS (tAnd (tTest (tOp oNotN (tVar 3) (tC .non))) (tNot (tB (tCall (sp_is_within K) [] E0 (tCons (tVar 3) (tCons (tC (.int 0)) (tCons (tOp oSub (tCB (rLen K) (tCons (tVar 0) tNil)) (tC (.int 1))) tNil))))))) (tRet (tC (.bl false))) tNext)
  (tSeq (tFor (iRng1 (tCons (tCB (rLen K) (tCons (tVar 0) tNil)) tNil)) (gName 4) (tSeq (tAsg (tAndV (tOp oGe (tOp (rIxL K) (tVar 0) (tVar 4)) (tVar 1)) (tOp oGe (tCall (sp_class_align K c) [] E0 (tCons (tOp (rIxL K) (tVar 0) (tVar 4)) tNil)) (tVar 2))) (gName 5))
  (tIfS (tOr (tTest (tOp oIsN (tVar 3) (tC .non))) (tTest (tOp oLt (tVar 4) (tVar 3)))) (tIfS (tB (tVar 5)) (tRet (tC (.bl false))) tNext) (tIfS (tAnd (tTest (tOp rEq (tVar 4) (tVar 3))) (tNot (tB (tVar 5)))) (tRet (tC (.bl false))) tNext))))
  (tRet (tC (.bl true)))))
theorem szw_len (w : Int) : (szw w).length ≤ 10 := by
  have := List.length_filter_le (fun i => decide (i ≤ w / 2)) szs
  have e : szs.length = 10 := rfl
  unfold szw
  omega
theorem pure_is_class {K : PySem.W.Frag} {c : Cl} {vs : List V} {H : Hp} {Q : VK} {E : XK} (h : sp_is_class K c vs H Q E) : t_l_is_class K c { nx := fun _ H' => Q .non H', rt := Q } (start N_l_is_class vs) H := by
  obtain ⟨l, w, s, a, v, rfl, hl, hv, hC, hT, k⟩ := h
  have L := szw_len w
  have hv0 : v = .non ∨ ∃ (n : Nat), v = .int n ∧ (n : Int) ≤ ((szw w).length : Int) - 1 := by
    cases v <;> first | exact .inl rfl | (obtain ⟨n, y, rfl, hy, _⟩ := hv; exact .inr ⟨n, rfl, by have := (List.getElem?_eq_some_iff.mp hy).1; omega⟩) | cases hv
  unfold t_l_is_class
  fold_lay
  refine i_cut (fun σ' H' => σ' = [some (.ref l), some (.int s), some (.int a), some v, none, none] ∧ H' = H) ?_ (fun nx key => ?_)
  rotate_left
  · rcases hv0 with rfl | ⟨n, rfl, hn⟩
    · fold_lay
      exact key _ _ ⟨rfl, rfl⟩
    · fold_lay
      refine i_ifn (fun _ => ?_) (fun z => by cases z)
      fold_lay
      rw [List.length_map]
      refine c_is_within (.int _) ?_
      rw [vR_yes (by omega) (by omega)]
      fold_lay
      exact key _ _ ⟨rfl, rfl⟩
  rintro σ' H0 ⟨rfl, rfl⟩
  fold_depth
  rw [List.length_map]
  refine f_rng1 (by omega) (by omega) (l_rng (fun i σ' H' => Same H0 H' ∧ ∃ y1 y2, σ' = [some (.ref l), some (.int s), some (.int a), some v, y1, y2]) ⟨Same.refl _, _, _, rfl⟩ ?_ ?_)
  · rintro i σ' H1 hi ⟨s1, y1, y2, rfl⟩
    obtain ⟨x, hx⟩ : ∃ x, (szw w)[i]? = some x := ⟨_, List.getElem?_eq_getElem (by omega)⟩
    have hx' : ((szw w).map V.int)[i]? = some (.int x) := by rw [List.getElem?_map, hx]; rfl
    refine i_gname ?_
    refine i_cut (fun σ' H' => Same H0 H' ∧ ∃ b : Bool, (b = true ↔ srvs s a x) ∧ σ' = [some (.ref l), some (.int s), some (.int a), some v, some (.int (0 + (i : Int))), some (.bl b)]) ?_ (fun nx key => ?_)
    rotate_left
    · fold_lay
      refine i_ixL (sqL (by kct_strs)) (at_of (j := i) (by omega) hx') ?_
      fold_lay
      refine i_ifd (fun g => ?_) (fun g => ?_)
      · fold_lay
        refine i_ixL (sqL (by kct_strs)) (at_of (j := i) (by omega) hx') ?_
        fold_lay
        refine c_class_align (szw_mem hx) hC hT fun H2 s2 => ?_
        fold_lay
        exact key _ _ ⟨by mem_news, _, by rw [decide_eq_true_iff]; exact ⟨fun z => ⟨g, z⟩, fun z => z.2⟩, rfl⟩
      · fold_lay
        exact key _ _ ⟨by mem_news, false, ⟨fun z => Bool.noConfusion z, fun z => absurd z.1 g⟩, rfl⟩
    rintro σ' H2 ⟨s2, b, hb, rfl⟩
    have nob : ¬ srvs s a x → b = false := fun z => by
      cases b
      · rfl
      · exact absurd (hb.mp rfl) z
    cases v with
    | non =>
      rw [nob (hv i x hx)]
      fold_lay
      exact ⟨s2, _, _, rfl⟩
    | int n0 =>
      obtain ⟨n, y, rfl, hy, hsv, hlow⟩ := hv
      fold_lay
      refine i_ifd (fun g => ?_) (fun g => ?_)
      · rw [nob (hlow i x (by omega) hx)]
        fold_lay
        exact ⟨s2, _, _, rfl⟩
      · fold_lay
        refine i_ifd (fun g2 => ?_) (fun g2 => ?_)
        · have e : i = n := by omega
          subst e
          rw [hx] at hy
          cases hy
          rw [hb.mpr hsv]
          fold_lay
          exact ⟨s2, _, _, rfl⟩
        · fold_lay
          exact ⟨s2, _, _, rfl⟩
    | _ => cases hv
  · rintro σ' H1 ⟨s1, y1, y2, rfl⟩
    fold_lay
    exact k _ s1
structure Ask26 (w s a : Int) : Prop where
  w1 : w = 16 ∨ w = 32 ∨ w = 64
  s1 : 1 ≤ s
  s2 : s ≤ 1000000000
  a1 : ∃ k : Nat, a = 2 ^ k
  a2 : a ≤ 1073741824
def sp_class_ask (K : PySem.W.Frag) : Sp := fun vs H Q _ => ∃ (d s : Addr), vs = [.ref d] ∧ Dr d s H ∧ ∀ p w z a H', H' p = some (.tup [.int w, .int z, .int a]) → H p = none → Ask26 w z a → Dr d s H' → Same (hid s H) (hid s H') → Q (.ref p) H'
theorem c_class_ask {K : PySem.W.Frag} {d s : Addr} {H : Hp} {Q : VK} {E : XK} (hD : Dr d s H) (k : ∀ p w z a H', H' p = some (.tup [.int w, .int z, .int a]) → H p = none → Ask26 w z a → Dr d s H' → Same (hid s H) (hid s H') → Q (.ref p) H') : sp_class_ask K [.ref d] H Q E := ⟨d, s, rfl, hD, k⟩
def N_l_class_ask : List Str := ["_law_draws_here", "_law_page_width", "_law_kind", "_law_size", "_law_alignment_here"]
def t_l_class_ask (K : PySem.W.Frag) : TS := (tSeq (tAsg (tCall (sp_among K) [] E0 (tCons (tVar 0) (tCons (tLst (tCons (tC (.int 16)) (tCons (tC (.int 32)) (tCons (tC (.int 64)) tNil)))) tNil))) (gName 1))
  (tSeq (tAsg (tCall sp_take [] E0 (tCons (tVar 0) (tCons (tC (.int 4)) tNil))) (gName 2))
  (tSeq (tAsg (tCall sp_between [] E0 (tCons (tVar 0) (tCons (tC (.int 1)) (tCons (tOp oAdd (tOp oDiv (tVar 1) (tC (.int 2))) (tC (.int 1))) tNil)))) (gName 3))
  (tSeq (tIfS (tTest (tOp rEq (tVar 2) (tC (.int 0)))) (tAsg (tCB rMax2 (tCons (tC (.int 1)) (tCons (tOp oSub (tOp oAdd (tCall (sp_among K) [] E0 (tCons (tVar 0) (tCons (tCall sp_lclass_sizes [] E0 (tCons (tC (.int 64)) tNil)) tNil))) (tCall sp_take [] E0 (tCons (tVar 0) (tCons (tC (.int 3)) tNil)))) (tC (.int 1))) tNil))) (gName 3)) tNext)
  (tSeq (tIfS (tTest (tOp rEq (tVar 2) (tC (.int 1)))) (tAsg (tCall sp_number [] E0 (tCons (tVar 0) (tCons (tC (.int 1)) (tCons (tOp oPow (tC (.int 10)) (tC (.int 9))) tNil)))) (gName 3)) tNext)
  (tSeq (tAsg (tOp (rIxL K) (tLst (tCons (tC (.int 1)) (tCons (tC (.int 2)) (tCons (tC (.int 4)) (tCons (tC (.int 8)) (tCons (tC (.int 0)) tNil)))))) (tCall sp_take [] E0 (tCons (tVar 0) (tCons (tC (.int 5)) tNil)))) (gName 4))
  (tSeq (tIfS (tTest (tOp rEq (tVar 4) (tC (.int 0)))) (tAsg (tCall sp_alignment [] E0 (tCons (tVar 0) (tCons (tC (.int 30)) tNil))) (gName 4)) tNext)
  (tRet (tTup (tCons (tVar 1) (tCons (tVar 3) (tCons (tVar 4) tNil))))))))))))
theorem pure_class_ask {K : PySem.W.Frag} {vs : List V} {H : Hp} {Q : VK} {E : XK} (h : sp_class_ask K vs H Q E) : t_l_class_ask K { nx := fun _ H' => Q .non H', rt := Q } (start N_l_class_ask vs) H := by
  obtain ⟨d, s, rfl, hD, k⟩ := h
  unfold t_l_class_ask
  fold_lay
  rename_i l1 j1
  refine c_among (hD.same (same_new j1)) upd_same (hD.ne j1) (by simp) (by simp) fun wv H1 hwv hD1 s1 => ?_
  obtain ⟨w, rfl, w1⟩ : ∃ w, wv = .int w ∧ (w = 16 ∨ w = 32 ∨ w = 64) := by
    simp only [List.mem_cons, List.not_mem_nil, or_false] at hwv
    rcases hwv with rfl | rfl | rfl <;> exact ⟨_, rfl, by omega⟩
  fold_lay
  refine c_take hD1 (by omega) fun kd H2 kd0 kd1 hD2 s2 => ?_
  fold_lay
  refine c_between hD2 (by omega) fun z0 H3 z00 z01 hD3 s3 => ?_
  fold_lay
  have st3 : Same (hid s H) (hid s H3) := by mem_news
  let R : St → Hp → Prop := fun σ' H' => ∃ z, 1 ≤ z ∧ z ≤ 1000000000 ∧ σ' = [some (.ref d), some (.int w), some (.int kd), some (.int z), none] ∧ Dr d s H' ∧ Same (hid s H) (hid s H')
  refine i_cut R ?_ (fun nx key => ?_)
  rotate_left
  · fold_lay
    refine i_ifd (fun h1 => ?_) (fun h1 => ?_)
    · fold_lay
      refine ⟨64, rfl, fun l H4 jl hl s4 => ?_⟩
      rw [szw64] at hl
      fold_lay
      refine c_among (hD3.same s4) hl (hD3.ne jl) (by decide) (by decide) fun xv H5 hxv hD5 s5 => ?_
      obtain ⟨x, hx, rfl⟩ := List.mem_map.mp hxv
      have xb := szs_le x hx
      fold_lay
      refine c_take hD5 (by omega) fun y H6 y0 y1 hD6 s6 => ?_
      fold_lay
      exact key _ _ ⟨_, by split <;> omega, by split <;> omega, rfl, hD6, by mem_news⟩
    · fold_lay
      exact key _ _ ⟨z0, z00, by omega, rfl, hD3, st3⟩
  rintro σ' H4 ⟨z1, z10, z11, rfl, hD4, st4⟩
  refine i_cut R ?_ (fun nx key => ?_)
  rotate_left
  · fold_lay
    refine i_ifd (fun h1 => ?_) (fun h1 => ?_)
    · fold_lay
      refine c_number hD4 (by decide) (by decide) fun z H5 z1 z2 hD5 s5 => ?_
      have e9 : (10 : Int) ^ (9 : Int).toNat = 1000000000 := by decide
      fold_lay
      exact key _ _ ⟨z, z1, by omega, rfl, hD5, by mem_news⟩
    · fold_lay
      exact key _ _ ⟨z1, z10, z11, rfl, hD4, st4⟩
  rintro σ' H5 ⟨z, z20, z21, rfl, hD5, st5⟩
  fold_lay
  rename_i l2 j2
  refine c_take (hD5.same (same_new j2)) (by omega) fun y H6 y0 y1 hD6 s6 => ?_
  have hl2 : H6 l2 = some (.lst [.int 1, .int 2, .int 4, .int 8, .int 0]) := hget s6 (hD5.ne j2) upd_same
  have hy : y = 0 ∨ y = 1 ∨ y = 2 ∨ y = 3 ∨ y = 4 := by omega
  have st6 : Same (hid s H) (hid s H6) := by mem_news
  have fin : ∀ (H7 : Hp) (a : Int) (p : Addr), (∃ k : Nat, a = 2 ^ k) → a ≤ 1073741824 → Dr d s H7 → Same (hid s H) (hid s H7) → H7 p = none → Q (.ref p) (upd H7 p (.tup [.int w, .int z, .int a])) := by
    rintro H7 a p a1 a2 hD7 st7 hp
    exact k p w z a _ upd_same (dead hD7 st7 hp) ⟨w1, z20, z21, a1, a2⟩ (hD7.same (same_new hp)) (by mem_news)
  rcases hy with rfl | rfl | rfl | rfl | rfl
  · fold_lay; fold_depth
    refine i_no (by omega) ?_
    fold_lay
    exact fin _ 1 _ ⟨0, by decide⟩ (by omega) hD6 st6 (by assumption)
  · fold_lay; fold_depth
    refine i_no (by omega) ?_
    fold_lay
    exact fin _ 2 _ ⟨1, by decide⟩ (by omega) hD6 st6 (by assumption)
  · fold_lay; fold_depth
    refine i_no (by omega) ?_
    fold_lay
    exact fin _ 4 _ ⟨2, by decide⟩ (by omega) hD6 st6 (by assumption)
  · fold_lay; fold_depth
    refine i_no (by omega) ?_
    fold_lay
    exact fin _ 8 _ ⟨3, by decide⟩ (by omega) hD6 st6 (by assumption)
  · fold_lay; fold_depth
    refine i_yes rfl ?_
    fold_lay
    refine c_alignment hD6 (by omega) (by omega) fun m H7 m1 hD7 s7 => ?_
    fold_lay
    exact fin _ _ _ ⟨m, rfl⟩ (Int.le_trans (pow2_le (k := 30) (by omega)) (by decide)) hD7 (by mem_news) (by assumption)
/-! ## K26c -/
/-! ### classes: refusals, the law -/
/-- what is asked, and the name that is told -/
def Bad26 (nm : Str) (v1 v2 v3 : V) (t : Str) : Prop := (nm = "sizes" ∧ vW v1 = false ∧ t = "width") ∨ (nm = "align" ∧ vC v2 = false ∧ t = "size") ∨ (nm = "order" ∧ bad26o v1 v2 = some t) ∨ (nm = "of" ∧ bad26c v1 v2 v3 = some t)
def sp_refusal26 (K : PySem.W.Frag) (c : Cl) : Sp := fun vs H Q _ => ∃ (r : Addr) (nm t : Str) (v1 v2 v3 : V) (n1 n2 n3 : String), vs = [.str nm, .ref r] ∧ H r = some (.lst [v1, v2, v3]) ∧ Ty0 H v1 n1 ∧ Ty0 H v2 n2 ∧ Ty0 H v3 n3 ∧ BvU K c ∧ KTup K c.x_SIZES szs ∧ Bad26 nm v1 v2 v3 t ∧ ∀ v H', At H' v (dueD t) → Same H H' → Q v H'
def N_l_refusal : List Str := ["_law_name", "_law_row", "e", "_law_kinds"]
def t_l_refusal (K : PySem.W.Frag) (c : Cl) : TS := (tTryT K (.ref c.k_BadValue) 2 (fun W => (tSeq (tIfS (tTest (tOp rEq (tVar 0) (tC (.str "sizes")))) (tRet (tTup (tCons (tC (.str "done")) (tCons (tCallS (sp_class_sizes K c) (WE W) (tCons (tOp (rIxL K) (tVar 1) (tC (.int 0))) tNil)) tNil)))) tNext)
  (tSeq (tIfS (tTest (tOp rEq (tVar 0) (tC (.str "align")))) (tRet (tTup (tCons (tC (.str "done")) (tCons (tCallS (sp_class_align K c) (WE W) (tCons (tOp (rIxL K) (tVar 1) (tC (.int 1))) tNil)) tNil)))) tNext)
  (tSeq (tIfS (tTest (tOp rEq (tVar 0) (tC (.str "order")))) (tRet (tTup (tCons (tC (.str "done")) (tCons (tCallS (sp_class_order K c) (WE W) (tCons (tOp (rIxL K) (tVar 1) (tC (.int 0))) (tCons (tOp (rIxL K) (tVar 1) (tC (.int 1))) tNil))) tNil)))) tNext)
  (tRet (tTup (tCons (tC (.str "done")) (tCons (tCallS (sp_class_of K c) (WE W) (tCons (tOp (rIxL K) (tVar 1) (tC (.int 0))) (tCons (tOp (rIxL K) (tVar 1) (tC (.int 1))) (tCons (tOp (rIxL K) (tVar 1) (tC (.int 2))) tNil)))) tNil)))))))) (tSeq (tAsg (tTup (tCons (tCB (rIsX K) (tCons (tVar 2) (tCons (tC (.ref c.k_StoreError)) tNil))) (tCons (tCB (rIsX K) (tCons (tVar 2) (tCons (tC (.ty "ValueError")) tNil))) (tCons (tCB (rIsX K) (tCons (tVar 2) (tCons (tC (.ref c.k_Unknown)) tNil))) tNil)))) (gName 3))
  (tRet (tTup (tCons (tC (.str "BadValue")) (tCons (tXt K "parameter" (tVar 2)) (tCons (tXt K "told" (tVar 2)) (tCons (tVar 3) tNil))))))) (fun _ _ _ _ => False))
theorem pure_refusal {K : PySem.W.Frag} {c : Cl} {vs : List V} {H : Hp} {Q : VK} {E : XK} (h : sp_refusal26 K c vs H Q E) : t_l_refusal K c { nx := fun _ H' => Q .non H', rt := Q } (start N_l_refusal vs) H := by
  obtain ⟨r, nm, t, v1, v2, v3, n1, n2, n3, rfl, hr, t1, t2, t3, R, hT, hb, k⟩ := h
  unfold t_l_refusal
  rcases hb with ⟨rfl, hb, rfl⟩ | ⟨rfl, hb, rfl⟩ | ⟨rfl, hb⟩ | ⟨rfl, hb⟩
  · fold_lay; fold_depth
    refine i_yes rfl ?_
    fold_lay
    refine ⟨v1, n1, rfl, t1, R.bv, hT, fun z => (by rw [hb] at z; cases z), fun _ d H' hB hS => ?_⟩
    exact ⟨true, R.ht, (fun q => nomatch q), fun _ e he => told25 R he hB fun v H2 hv h2 => k v H2 hv (hS.trans h2)⟩
  · fold_lay; fold_depth
    refine i_no (by decide) ?_
    fold_lay; fold_depth
    refine i_yes rfl ?_
    fold_lay
    refine ⟨v2, n2, rfl, t2, R.bv, hT, fun z => (by rw [hb] at z; cases z), fun _ d H' hB hS => ?_⟩
    exact ⟨true, R.ht, (fun q => nomatch q), fun _ e he => told25 R he hB fun v H2 hv h2 => k v H2 hv (hS.trans h2)⟩
  · fold_lay; fold_depth
    refine i_no (by decide) ?_
    fold_lay; fold_depth
    refine i_no (by decide) ?_
    fold_lay; fold_depth
    refine i_yes rfl ?_
    fold_lay
    refine ⟨v1, v2, n1, n2, rfl, t1, t2, R.bv, hT, fun t' ht' d H' hB hS => ?_, fun z => (by rw [hb] at z; cases z)⟩
    rw [hb] at ht'
    cases ht'
    exact ⟨true, R.ht, (fun q => nomatch q), fun _ e he => told25 R he hB fun v H2 hv h2 => k v H2 hv (hS.trans h2)⟩
  · fold_lay; fold_depth
    refine i_no (by decide) ?_
    fold_lay; fold_depth
    refine i_no (by decide) ?_
    fold_lay; fold_depth
    refine i_no (by decide) ?_
    fold_lay
    refine ⟨v1, v2, v3, n1, n2, n3, rfl, t1, t2, t3, R.bv, hT, fun t' ht' d H' hB hS => ?_, fun z => (by rw [hb] at z; cases z)⟩
    rw [hb] at ht'
    cases ht'
    exact ⟨true, R.ht, (fun q => nomatch q), fun _ e he => told25 R he hB fun v H2 hv h2 => k v H2 hv (hS.trans h2)⟩
theorem gd_c {H : Hp} {v : V} {dt : Dt} (h : At H v dt) (hn : ∀ j ∈ szs, dt.eqI j = false) : vC v = false := by
  cases h with
  | int i =>
    show decide (i ∈ szs) = false
    rw [decide_eq_false_iff_not]
    intro hi
    have := hn i hi
    simp [Dt.eqI] at this
  | _ => rfl
def sp_refuses26 (K : PySem.W.Frag) (c : Cl) : Sp := fun vs H Q _ => ∃ (d s p : Addr) (w z a : Int), vs = [.ref d, .ref p] ∧ Dr d s H ∧ H p = some (.tup [.int w, .int z, .int a]) ∧ p ≠ s ∧ Ask26 w z a ∧ BvU K c ∧ KTup K c.x_SIZES szs ∧ ∀ H', Q (.bl true) H'
def N_l_refuses : List Str := ["_law_draws_here", "_law_ask", "_law_row", "_law_kind", "_law_name", "_law_at", "_law_title", "_law_due"]
def t_l_refuses (K : PySem.W.Frag) (c : Cl) : TS := (tSeq (tAsg (tLst (tCons (tOp (rIxT K) (tVar 1) (tC (.int 0))) (tCons (tCall (sp_among K) [] E0 (tCons (tVar 0) (tCons (tCall sp_lclass_sizes [] E0 (tCons (tC (.int 64)) tNil)) tNil))) (tCons (tOp (rIxT K) (tVar 1) (tC (.int 2))) tNil)))) (gName 2))
  (tSeq (tAsg (tCall sp_take [] E0 (tCons (tVar 0) (tCons (tC (.int 7)) tNil))) (gName 3))
  (tSeq (tAsg (tOp (rIxL K) (tLst (tCons (tC (.str "sizes")) (tCons (tC (.str "align")) (tCons (tC (.str "order")) (tCons (tC (.str "order")) (tCons (tC (.str "of")) (tCons (tC (.str "of")) (tCons (tC (.str "of")) tNil)))))))) (tVar 3)) (gName 4))
  (tSeq (tAsg (tOp (rIxL K) (tLst (tCons (tC (.int 0)) (tCons (tC (.int 1)) (tCons (tC (.int 0)) (tCons (tC (.int 1)) (tCons (tC (.int 0)) (tCons (tC (.int 1)) (tCons (tC (.int 2)) tNil)))))))) (tVar 3)) (gName 5))
  (tSeq (tIfS (tTest (tOp rEq (tVar 4) (tC (.str "of")))) (tAsg (tOp (rIxT K) (tVar 1) (tC (.int 1))) (gSub (tVar 2) (tC (.int 1)) rSetL)) tNext)
  (tSeq (tIfS (tTest (tOp rEq (tVar 5) (tC (.int 0)))) (tAsg (tCall (sp_not_among K) [] E0 (tCons (tVar 0) (tCons (tLst (tCons (tC (.int 16)) (tCons (tC (.int 32)) (tCons (tC (.int 64)) tNil)))) tNil))) (gSub (tVar 2) (tC (.int 0)) rSetL)) tNext)
  (tSeq (tIfS (tAnd (tTest (tOp rEq (tVar 5) (tC (.int 1)))) (tTest (tOp rEq (tVar 4) (tC (.str "of"))))) (tAsg (tCall sp_not_within [] E0 (tCons (tVar 0) (tCons (tC (.int 1)) (tCons (tOp oPow (tC (.int 10)) (tC (.int 9))) tNil)))) (gSub (tVar 2) (tC (.int 1)) rSetL)) tNext)
  (tSeq (tIfS (tAnd (tTest (tOp rEq (tVar 5) (tC (.int 1)))) (tTest (tOp rNe (tVar 4) (tC (.str "of"))))) (tAsg (tCall (sp_not_among K) [] E0 (tCons (tVar 0) (tCons (tCall sp_lclass_sizes [] E0 (tCons (tC (.int 64)) tNil)) tNil))) (gSub (tVar 2) (tC (.int 1)) rSetL)) tNext)
  (tSeq (tIfS (tTest (tOp rEq (tVar 5) (tC (.int 2)))) (tAsg (tCall sp_not_alignment [] E0 (tCons (tVar 0) (tCons (tOp oPow (tC (.int 2)) (tC (.int 30))) tNil))) (gSub (tVar 2) (tC (.int 2)) rSetL)) tNext)
  (tSeq (tIfS (tAnd (tTest (tOp rEq (tVar 5) (tC (.int 0)))) (tTest (tOp rEq (tCall sp_take [] E0 (tCons (tVar 0) (tCons (tC (.int 3)) tNil))) (tC (.int 0))))) (tAsg (tC (.int 0)) (gSub (tVar 2) (tC (.int 1)) rSetL)) tNext)
  (tSeq (tIfS (tAnd (tTest (tOp oLt (tVar 5) (tC (.int 2)))) (tTest (tOp rEq (tCall sp_take [] E0 (tCons (tVar 0) (tCons (tC (.int 3)) tNil))) (tC (.int 0))))) (tAsg (tUn oNeg (tC (.int 1))) (gSub (tVar 2) (tC (.int 2)) rSetL)) tNext)
  (tSeq (tAsg (tOp (rIxL K) (tLst (tCons (tC (.str "width")) (tCons (tC (.str "size")) (tCons (tC (.str "align")) tNil)))) (tVar 5)) (gName 6))
  (tSeq (tAsg (tTup (tCons (tC (.str "BadValue")) (tCons (tVar 6) (tCons (tTup (tCons (tC (.str "BadValue")) (tCons (tTup (tCons (tVar 6) tNil)) tNil))) (tCons (tTup (tCons (tC (.bl true)) (tCons (tC (.bl true)) (tCons (tC (.bl false)) tNil)))) tNil))))) (gName 7))
  (tRet (tCall (sp_same 6) [] E0 (tCons (tCall (sp_refusal26 K c) [] E0 (tCons (tVar 4) (tCons (tVar 2) tNil))) (tCons (tVar 7) tNil)))))))))))))))))
/-- the place that is spoilt -/
def nm26 : Nat → Str
  | 0 => "width"
  | 1 => "size"
  | _ => "align"
def Spo26 (w z : Int) (f : Bool) (t : Nat) (xs : List V) : Prop := match t, xs with
  | 0, [x0, _, _] => vW x0 = false
  | 1, [x0, x1, _] => x0 = .int w ∧ (if f then vR 1 1000000000 x1 = false else vC x1 = false)
  | _, [x0, x1, x2] => x0 = .int w ∧ x1 = .int z ∧ f = true ∧ vA 1073741824 x2 = false
  | _, _ => False
theorem Spo26.bad {w z a : Int} {n : Str} {f : Bool} {t : Nat} {x0 x1 x2 : V} (A : Ask26 w z a) (t3 : t < 3) (hnf : (n = "of" ∧ f = true) ∨ (f = false ∧ ((n = "sizes" ∧ t = 0) ∨ (n = "align" ∧ t = 1) ∨ (n = "order" ∧ t < 2)))) (c : Spo26 w z f t [x0, x1, x2]) : Bad26 n x0 x1 x2 (nm26 t) := by
  have wW : vW (.int w) = true := by simpa [vW] using A.w1
  have ht : t = 0 ∨ t = 1 ∨ t = 2 := by omega
  rcases ht with rfl | rfl | rfl
  · have c7 : vW x0 = false := c
    rcases hnf with ⟨rfl, rfl⟩ | ⟨rfl, ⟨rfl, _⟩ | ⟨_, q⟩ | ⟨rfl, _⟩⟩
    · exact .inr (.inr (.inr ⟨rfl, by simp [bad26c, c7, nm26]⟩))
    · exact .inl ⟨rfl, c7, rfl⟩
    · omega
    · exact .inr (.inr (.inl ⟨rfl, by simp [bad26o, c7, nm26]⟩))
  · obtain ⟨rfl, c⟩ := (c : x0 = .int w ∧ (if f then vR 1 1000000000 x1 = false else vC x1 = false))
    rcases hnf with ⟨rfl, rfl⟩ | ⟨rfl, ⟨_, q⟩ | ⟨rfl, _⟩ | ⟨rfl, _⟩⟩
    · have c7 : vR 1 1000000000 x1 = false := c
      exact .inr (.inr (.inr ⟨rfl, by simp [bad26c, c7, nm26, wW]⟩))
    · omega
    · exact .inr (.inl ⟨rfl, c, rfl⟩)
    · have c7 : vC x1 = false := c
      exact .inr (.inr (.inl ⟨rfl, by simp [bad26o, c7, nm26, wW]⟩))
  · obtain ⟨rfl, rfl, rfl, c7⟩ := (c : x0 = .int w ∧ x1 = .int z ∧ f = true ∧ vA 1073741824 x2 = false)
    have e2 := vR_yes (lo := 1) (hi := 1000000000) A.s1 A.s2
    rcases hnf with ⟨rfl, _⟩ | ⟨q, _⟩
    · exact .inr (.inr (.inr ⟨rfl, by simp [bad26c, c7, nm26, wW, e2]⟩))
    · cases q
theorem pure_refuses {K : PySem.W.Frag} {c : Cl} {vs : List V} {H : Hp} {Q : VK} {E : XK} (h : sp_refuses26 K c vs H Q E) : t_l_refuses K c { nx := fun _ H' => Q .non H', rt := Q } (start N_l_refuses vs) H := by
  obtain ⟨d, s, p, w, z, a, rfl, hD, hp, nps, A, BU, hT, k⟩ := h
  have w1 := A.w1
  unfold t_l_refuses
  fold_lay
  refine ⟨64, rfl, fun l H1 jl hl s1 => ?_⟩
  rw [szw64] at hl
  fold_lay
  refine c_among (hD.same s1) hl (hD.ne jl) (by decide) (by decide) fun xv H2 hxv hD2 s2 => ?_
  obtain ⟨x, hx, rfl⟩ := List.mem_map.mp hxv
  fold_lay
  rename_i r hr
  have nr : r ≠ s := hD2.ne hr
  have hp2 : H2 p = some (.tup [.int w, .int z, .int a]) := by kct_strs
  have R0 : RowN d s r H2 (upd H2 r (.lst [.int w, .int x, .int a])) [.int w, .int x, .int a] := by
    refine ⟨hD2.same (same_new hr), upd_same, fun v hv => ?_, hid_mono (same_new hr)⟩
    simp only [List.mem_cons, List.not_mem_nil, or_false] at hv
    rcases hv with rfl | rfl | rfl <;> exact ⟨_, .int _⟩
  refine c_take R0.dr (by omega) fun y H3 y0 y1 hD3 s3 => ?_
  have R3 := R0.grow nr hD3 s3
  have pr : ∀ {H' : Hp} {xs : List V}, RowN d s r H2 H' xs → H' p = some (.tup [.int w, .int z, .int a]) := fun R => (hid_of (R.sm _ _ (hid_to hp2 nps))).1
  fold_lay
  rename_i q1 j1
  obtain ⟨n, f, t, t3, hnm, hat, hnf⟩ : ∃ (n : Str) (f : Bool) (t : Nat), t < 3 ∧ ([.str "sizes", .str "align", .str "order", .str "order", .str "of", .str "of", .str "of"] : List V)[y.toNat]? = some (.str n) ∧ ([.int 0, .int 1, .int 0, .int 1, .int 0, .int 1, .int 2] : List V)[y.toNat]? = some (.int t) ∧
      ((n = "of" ∧ f = true) ∨ (f = false ∧ ((n = "sizes" ∧ t = 0) ∨ (n = "align" ∧ t = 1) ∨ (n = "order" ∧ t < 2)))) := by
    have hy : y = 0 ∨ y = 1 ∨ y = 2 ∨ y = 3 ∨ y = 4 ∨ y = 5 ∨ y = 6 := by omega
    rcases hy with rfl | rfl | rfl | rfl | rfl | rfl | rfl
    · exact ⟨"sizes", false, 0, by omega, rfl, rfl, .inr ⟨rfl, .inl ⟨rfl, rfl⟩⟩⟩
    · exact ⟨"align", false, 1, by omega, rfl, rfl, .inr ⟨rfl, .inr (.inl ⟨rfl, rfl⟩)⟩⟩
    · exact ⟨"order", false, 0, by omega, rfl, rfl, .inr ⟨rfl, .inr (.inr ⟨rfl, by omega⟩)⟩⟩
    · exact ⟨"order", false, 1, by omega, rfl, rfl, .inr ⟨rfl, .inr (.inr ⟨rfl, by omega⟩)⟩⟩
    · exact ⟨"of", true, 0, by omega, rfl, rfl, .inl ⟨rfl, rfl⟩⟩
    · exact ⟨"of", true, 1, by omega, rfl, rfl, .inl ⟨rfl, rfl⟩⟩
    · exact ⟨"of", true, 2, by omega, rfl, rfl, .inl ⟨rfl, rfl⟩⟩
  have ff : (n = "of") ↔ f = true := by
    rcases hnf with ⟨rfl, rfl⟩ | ⟨rfl, ⟨rfl, _⟩ | ⟨rfl, _⟩ | ⟨rfl, _⟩⟩
    · exact ⟨fun _ => rfl, fun _ => rfl⟩
    all_goals exact ⟨fun z => absurd z (by decide), fun z => Bool.noConfusion z⟩
  have ft : f = false → t < 2 := by
    rcases hnf with ⟨rfl, rfl⟩ | ⟨rfl, ⟨rfl, _⟩ | ⟨rfl, _⟩ | ⟨rfl, _⟩⟩ <;> intro z <;> first | omega | cases z
  refine i_ixL (sqL upd_same) (at_of (j := y.toNat) (by omega) hnm) ?_
  have R4 := R3.grow nr (R3.dr.same (same_new (o := .lst [.str "sizes", .str "align", .str "order", .str "order", .str "of", .str "of", .str "of"]) j1)) (hid_mono (same_new j1))
  fold_lay
  rename_i q2 j2
  refine i_ixL (sqL upd_same) (at_of (j := y.toNat) (by omega) hat) ?_
  have R5 := R4.grow nr (R4.dr.same (same_new (o := .lst [.int 0, .int 1, .int 0, .int 1, .int 0, .int 1, .int 2]) j2)) (hid_mono (same_new j2))
  fold_lay
  let σ0 : St := [some (.ref d), some (.ref p), some (.ref r), some (.int y), some (.str n), some (.int t), none, none]
  let z0 : Int := if f then z else x
  refine i_cut (fun σ' H' => RowN d s r H2 H' [.int w, .int z0, .int a] ∧ σ' = σ0) ?_ (fun nx key => ?_)
  rotate_left
  · fold_lay
    refine i_ifd (fun g => ?_) (fun g => ?_)
    · have hp5 := pr R5
      have r5 := R5.ro
      fold_lay
      refine key _ _ ⟨?_, rfl⟩
      have e : z0 = z := by simp [z0, ff.mp g]
      rw [e]
      exact R5.put (a := 1) nr hD2 hr (.int z)
    · fold_lay
      have e : z0 = x := by
        have : f = false := by cases f <;> simp_all
        simp [z0, this]
      exact key _ _ ⟨by rw [e]; exact R5, rfl⟩
  rintro σ' H6 ⟨R6, rfl⟩
  have r6 := R6.ro
  -- the spoilt row
  let R : Nat → St → Hp → Prop := fun m σ' H' => ∃ x0 x1 x2, RowN d s r H2 H' [x0, x1, x2] ∧ ((t < m ∧ Spo26 w z f t [x0, x1, x2]) ∨ (¬ t < m ∧ x0 = .int w ∧ x1 = .int z0 ∧ x2 = .int a)) ∧ σ' = σ0
  refine i_cut (R 1) ?_ (fun nx key => ?_)
  rotate_left
  · fold_lay
    refine i_ifd (fun g => ?_) (fun g => ?_)
    · obtain rfl : t = 0 := by omega
      fold_lay
      rename_i l3 j3
      have R7 := R6.grow nr (R6.dr.same (same_new (o := .lst [.int 16, .int 32, .int 64]) j3)) (hid_mono (same_new j3))
      refine c_not_among (js := [16, 32, 64]) R7.dr upd_same (R6.dr.ne j3) fun v dt H8 hv hn _ hD8 s8 => ?_
      have R8 := R7.grow nr hD8 s8
      have r8 := R8.ro
      fold_lay
      exact key _ _ ⟨_, _, _, R8.put (a := 0) nr hD2 hr (hv.mono (nw_hid2 R7.dr R7.ro)).ty, .inl ⟨by omega, gd_w hv hn⟩, rfl⟩
    · fold_lay
      exact key _ _ ⟨_, _, _, R6, .inr ⟨by omega, rfl, rfl, rfl⟩, rfl⟩
  rintro σ' H7 ⟨x0, x1, x2, R7, c7, rfl⟩
  refine i_cut (fun σ' H' => ∃ x0 x1 x2, RowN d s r H2 H' [x0, x1, x2] ∧ ((¬ (t = 1 ∧ f = false) ∧ t < 2 ∧ Spo26 w z f t [x0, x1, x2]) ∨ (¬ (t = 1 ∧ f = true) ∧ ¬ t < 1 ∧ x0 = .int w ∧ x1 = .int z0 ∧ x2 = .int a)) ∧ σ' = σ0) ?_ (fun nx key => ?_)
  rotate_left
  · fold_lay
    refine i_ifd (fun g => ?_) (fun g => ?_)
    · obtain rfl : t = 1 := by omega
      obtain ⟨rfl, rfl, rfl⟩ : x0 = .int w ∧ x1 = .int z0 ∧ x2 = .int a := by
        rcases c7 with c7 | c7
        · omega
        · exact c7.2
      fold_lay
      refine i_ifd (fun g2 => ?_) (fun g2 => ?_)
      · obtain rfl := ff.mp g2
        fold_lay
        refine c_not_within R7.dr (by omega) (by decide) (by decide) fun v dt H8 hv hn _ hD8 s8 => ?_
        have R8 := R7.grow nr hD8 s8
        have r8 := R8.ro
        fold_lay
        exact key _ _ ⟨_, _, _, R8.put (a := 1) nr hD2 hr (hv.mono (nw_hid2 R7.dr R7.ro)).ty, .inl ⟨by simp, by omega, rfl, gd_in hv hn⟩, rfl⟩
      · fold_lay
        exact key _ _ ⟨_, _, _, R7, .inr ⟨fun q => g2 (ff.mpr q.2), by omega, rfl, rfl, rfl⟩, rfl⟩
    · fold_lay
      refine key _ _ ⟨_, _, _, R7, ?_, rfl⟩
      rcases c7 with c7 | c7
      · exact .inl ⟨by omega, by omega, c7.2⟩
      · exact .inr ⟨by omega, by omega, c7.2⟩
  clear c7 R7
  rintro σ' H7 ⟨x0, x1, x2, R7, c7, rfl⟩
  refine i_cut (R 2) ?_ (fun nx key => ?_)
  rotate_left
  · fold_lay
    refine i_ifd (fun g => ?_) (fun g => ?_)
    · obtain rfl : t = 1 := by omega
      fold_lay
      refine i_ifn (fun g2 => ?_) (fun g2 => ?_)
      · have f0 : f = false := by
          cases f
          · rfl
          · exact absurd (ff.mpr rfl) g2
        obtain ⟨rfl, rfl, rfl⟩ : x0 = .int w ∧ x1 = .int z0 ∧ x2 = .int a := by
          rcases c7 with c7 | c7
          · exact absurd ⟨rfl, f0⟩ c7.1
          · exact c7.2.2
        fold_lay
        refine ⟨64, rfl, fun l2 H8 jl2 hl2 s8 => ?_⟩
        rw [szw64] at hl2
        fold_lay
        have R8 := R7.grow nr (R7.dr.same s8) (hid_mono s8)
        refine c_not_among (js := szs) R8.dr hl2 (R7.dr.ne jl2) fun v dt H9 hv hn _ hD9 s9 => ?_
        have R9 := R8.grow nr hD9 s9
        have r9 := R9.ro
        fold_lay
        exact key _ _ ⟨_, _, _, R9.put (a := 1) nr hD2 hr (hv.mono (nw_hid2 R8.dr R8.ro)).ty, .inl ⟨by omega, rfl, by rw [f0]; exact gd_c hv hn⟩, rfl⟩
      · have f1 := ff.mp g2
        fold_lay
        refine key _ _ ⟨_, _, _, R7, ?_, rfl⟩
        rcases c7 with c7 | c7
        · exact .inl ⟨by omega, c7.2.2⟩
        · exact absurd ⟨rfl, f1⟩ c7.1
    · fold_lay
      refine key _ _ ⟨_, _, _, R7, ?_, rfl⟩
      rcases c7 with c7 | c7
      · exact .inl ⟨by omega, c7.2.2⟩
      · exact .inr ⟨by omega, c7.2.2⟩
  clear c7 R7
  rintro σ' H7 ⟨x0, x1, x2, R7, c7, rfl⟩
  let R' : St → Hp → Prop := fun σ' H' => ∃ x0 x1 x2, RowN d s r H2 H' [x0, x1, x2] ∧ Spo26 w z f t [x0, x1, x2] ∧ σ' = σ0
  refine i_cut R' ?_ (fun nx key => ?_)
  rotate_left
  · fold_lay
    refine i_ifd (fun g => ?_) (fun g => ?_)
    · obtain rfl : t = 2 := by omega
      obtain ⟨rfl, rfl, rfl⟩ : x0 = .int w ∧ x1 = .int z0 ∧ x2 = .int a := by
        rcases c7 with c7 | c7
        · omega
        · exact c7.2
      have f1 : f = true := by
        cases f
        · have := ft rfl; omega
        · rfl
      have e : z0 = z := by simp [z0, f1]
      fold_lay
      refine c_not_alignment R7.dr (by decide) (by decide) fun v dt H8 hv hn _ hD8 s8 => ?_
      have R8 := R7.grow nr hD8 s8
      have r8 := R8.ro
      fold_lay
      exact key _ _ ⟨_, _, _, R8.put (a := 2) nr hD2 hr (hv.mono (nw_hid2 R7.dr R7.ro)).ty, ⟨rfl, by rw [e], f1, gd_al hv hn⟩, rfl⟩
    · fold_lay
      refine key _ _ ⟨_, _, _, R7, ?_, rfl⟩
      rcases c7 with c7 | c7
      · exact c7.2
      · omega
  clear c7 R7
  rintro σ' H7 ⟨x0, x1, x2, R7, c7, rfl⟩
  refine i_cut R' ?_ (fun nx key => ?_)
  rotate_left
  · fold_lay
    refine i_ifd (fun g => ?_) (fun g => ?_)
    · obtain rfl : t = 0 := by omega
      fold_lay
      refine c_take R7.dr (by omega) fun y2 H8 _ _ hD8 s8 => ?_
      have R8 := R7.grow nr hD8 s8
      have r8 := R8.ro
      fold_lay
      refine i_ifd (fun g => ?_) (fun g => ?_)
      · fold_lay
        exact key _ _ ⟨_, _, _, R8.put (a := 1) nr hD2 hr (.int 0), c7, rfl⟩
      · fold_lay
        exact key _ _ ⟨_, _, _, R8, c7, rfl⟩
    · fold_lay
      exact key _ _ ⟨_, _, _, R7, c7, rfl⟩
  clear c7 R7
  rintro σ' H7 ⟨x0, x1, x2, R7, c7, rfl⟩
  refine i_cut R' ?_ (fun nx key => ?_)
  rotate_left
  · fold_lay
    refine i_ifd (fun g => ?_) (fun g => ?_)
    · fold_lay
      refine c_take R7.dr (by omega) fun y2 H8 _ _ hD8 s8 => ?_
      have R8 := R7.grow nr hD8 s8
      have r8 := R8.ro
      fold_lay
      refine i_ifd (fun g2 => ?_) (fun g2 => ?_)
      · fold_lay
        refine key _ _ ⟨_, _, _, R8.put (a := 2) nr hD2 hr (.int (-1)), ?_, rfl⟩
        have ht : t = 0 ∨ t = 1 := by omega
        rcases ht with rfl | rfl <;> exact c7
      · fold_lay
        exact key _ _ ⟨_, _, _, R8, c7, rfl⟩
    · fold_lay
      exact key _ _ ⟨_, _, _, R7, c7, rfl⟩
  clear c7 R7
  rintro σ' H7 ⟨x0, x1, x2, R7, c7, rfl⟩
  obtain ⟨dr7, r7, ty7, sm7⟩ := R7
  have hty : ∀ v ∈ [x0, x1, x2], ∃ n, Ty0 H7 v n := fun v hv => by
    obtain ⟨n, hn⟩ := ty7 v hv
    exact ⟨n, hn.mono (hid_same.trans hid_same)⟩
  obtain ⟨n0, y0⟩ := hty x0 (by simp)
  obtain ⟨n1, y1⟩ := hty x1 (by simp)
  obtain ⟨n2, y2⟩ := hty x2 (by simp)
  have wW : vW (.int w) = true := by simpa [vW] using A.w1
  have hb : Bad26 n x0 x1 x2 (nm26 t) := Spo26.bad A t3 hnf c7
  have hx : ([.str "width", .str "size", .str "align"] : List V)[t]? = some (.str (nm26 t)) := by
    match t, t3 with
    | 0, _ => rfl
    | 1, _ => rfl
    | 2, _ => rfl
  fold_lay
  rename_i l1 j1
  refine i_ixL (sqL upd_same) (at_of (j := t) (by omega) hx) ?_
  fold_lay
  rename_i l2 j2 l3 j3 l4 j4 l5 j5
  have hdue : At (upd (upd (upd (upd (upd H7 l1 (.lst [.str "width", .str "size", .str "align"])) l2 (.tup [.str (nm26 t)])) l3 (.tup [.str "BadValue", .ref l2])) l4 (.tup [.bl true, .bl true, .bl false])) l5 (.tup [.str "BadValue", .str (nm26 t), .ref l3, .ref l4])) (.ref l5) (dueD (nm26 t)) :=
    .tup upd_same (.cons (.str _) (.cons (.str _) (.cons (.tup (by kct_strs) (.cons (.str _) (.cons (.tup (by kct_strs) (.cons (.str _) .nil)) .nil))) (.cons (.tup (by kct_strs) (.cons (.bl _) (.cons (.bl _) (.cons (.bl _) .nil)))) .nil))))
  refine ⟨r, n, nm26 t, x0, x1, x2, n0, n1, n2, rfl, by kct_strs, y0.mono (by mem_news), y1.mono (by mem_news), y2.mono (by mem_news), BU, hT, hb, fun v H8 hv s8 => ?_⟩
  fold_lay
  exact c_same (E := E0) hv (hdue.mono s8) (due_dep _) (due_ok _) fun H9 s9 => k H9
theorem c_class_of_ok {K : PySem.W.Frag} {c : Cl} {w z a : Int} {H : Hp} {Q : VK} {E : XK} (A : Ask26 w z a) (hC : BvC K c.k_BadValue) (hT : KTup K c.x_SIZES szs) (k : ∀ v H', ClOf w z a v → Same H H' → Q v H') : sp_class_of K c [.int w, .int z, .int a] H Q E := by
  have e : bad26c (.int w) (.int z) (.int a) = none := by
    have e1 : vW (.int w) = true := by simpa [vW] using A.w1
    simp [bad26c, e1, vR_yes A.s1 A.s2, vA_yes A.a1 A.a2]
  exact ⟨_, _, _, _, _, _, rfl, .int w, .int z, .int a, hC, hT, fun t ht => (by rw [e] at ht; cases ht), fun _ => k⟩
theorem c_class_order_ok {K : PySem.W.Frag} {c : Cl} {w s : Int} {H : Hp} {Q : VK} {E : XK} (w1 : w = 16 ∨ w = 32 ∨ w = 64) (hs : s ∈ szs) (hC : BvC K c.k_BadValue) (hT : KTup K c.x_SIZES szs) (k : ∀ (o : Nat) H', o ≤ 3 → 2 ≤ nsl w o s → (∀ p : Nat, p < o → nsl w p s < 2) → Same H H' → Q (.int o) H') : sp_class_order K c [.int w, .int s] H Q E := by
  have e1 : vW (.int w) = true := by simpa [vW] using w1
  have e2 : vC (.int s) = true := decide_eq_true hs
  have e : bad26o (.int w) (.int s) = none := by simp [bad26o, e1, e2]
  exact ⟨_, _, _, _, rfl, .int w, .int s, hC, hT, fun t ht => (by rw [e] at ht; cases ht), fun _ => k⟩
theorem depL_ints : ∀ l : List Int, Dt.depL (l.map Dt.int) = 0
  | [] => rfl
  | x :: r => by
    rw [List.map_cons, Dt.depL, depL_ints r]
    rfl
theorem okL_ints : ∀ l : List Int, Dt.okL (l.map Dt.int) = true
  | [] => rfl
  | x :: r => by
    rw [List.map_cons, Dt.okL, okL_ints r]
    rfl
theorem intsD_ok {l : List Int} (h : l.length ≤ 10000) : (intsD l).dep ≤ 5 ∧ (intsD l).okd = true := by
  unfold intsD
  constructor
  · rw [Dt.dep, depL_ints]
    decide
  · rw [Dt.okd, okL_ints, List.length_map, decide_eq_true h]
    rfl
def sp_law26 (K : PySem.W.Frag) (c : Cl) : Sp := fun vs H Q _ => ∃ (a : Addr) (ns : List Int), vs = [.ref a] ∧ SqL K H a (ns.map V.int) ∧ ns.length ≤ 63 ∧ BvU K c ∧ KTup K c.x_SIZES szs ∧ ∀ H', Q (.bl true) H'
def N_l_law : List Str := ["_law_script", "_law_draws_here", "_law_asks", "_law_page_width", "_law_size", "_law_alignment_here", "_law_told", "_law_found", "_law_one"]
def t_l_law (K : PySem.W.Frag) (c : Cl) : TS := (tSeq (tAsg (tCall (sp_draws K) [] E0 (tCons (tVar 0) tNil)) (gName 1))
  (tSeq (tAsg (tLst (tCons (tCall (sp_class_ask K) [] E0 (tCons (tVar 1) tNil)) (tCons (tCall (sp_class_ask K) [] E0 (tCons (tVar 1) tNil)) tNil))) (gName 2))
  (tSeq (tFor (iList K (tOp rCat (tVar 2) (tVar 2))) (gTup K 3 (gCons (gName 3) (gCons (gName 4) (gCons (gName 5) gNil)))) (tSeq (tAsg (tCall (sp_class_sizes K c) [] E0 (tCons (tVar 3) tNil)) (gName 6))
  (tSeq (tIfS (tNot (tB (tCall (sp_same 6) [] E0 (tCons (tVar 6) (tCons (tCall sp_lclass_sizes [] E0 (tCons (tVar 3) tNil)) tNil))))) (tRet (tC (.bl false))) tNext)
  (tSeq (tAsg (tCall (sp_class_of K c) [] E0 (tCons (tVar 3) (tCons (tVar 4) (tCons (tVar 5) tNil)))) (gName 7))
  (tSeq (tIfS (tNot (tB (tCall (sp_is_class K c) [] E0 (tCons (tVar 6) (tCons (tVar 4) (tCons (tVar 5) (tCons (tVar 7) tNil))))))) (tRet (tC (.bl false))) tNext)
  (tSeq (tDrop (tBM K "list" rAppend (tVar 6) (tCons (tC (.int 1)) tNil)))
  (tSeq (tAsg (tC (.int 2)) (gSub (tVar 6) (tC (.int 0)) rSetL))
  (tFor (iList K (tCall sp_lclass_sizes [] E0 (tCons (tC (.int 64)) tNil))) (gName 8) (tIfS (tNot (tB (tCall (sp_is_order K c) [] E0 (tCons (tVar 3) (tCons (tVar 8) (tCons (tCall (sp_class_order K c) [] E0 (tCons (tVar 3) (tCons (tVar 8) tNil))) tNil)))))) (tRet (tC (.bl false))) tNext)))))))))
  (tRet (tCall (sp_refuses26 K c) [] E0 (tCons (tVar 1) (tCons (tOp (rIxL K) (tVar 2) (tC (.int 0))) tNil)))))))
theorem szw_pos {w : Int} (w1 : w = 16 ∨ w = 32 ∨ w = 64) : 0 < (szw w).length := by
  rcases w1 with rfl | rfl | rfl <;> decide +kernel
theorem pure_law26 {K : PySem.W.Frag} {c : Cl} {vs : List V} {H : Hp} {Q : VK} {E : XK} (h : sp_law26 K c vs H Q E) : t_l_law K c { nx := fun _ H' => Q .non H', rt := Q } (start N_l_law vs) H := by
  obtain ⟨x, ns, rfl, hx, hl, BU, hT, k⟩ := h
  unfold t_l_law
  fold_lay
  refine ⟨x, ns, rfl, hx, by omega, fun d s H1 hD1 k1 _ _ => ?_⟩
  fold_lay
  refine c_class_ask hD1 fun p1 w1 z1 a1 H2 e2 f2 A1 hD2 s2 => ?_
  fold_lay
  refine c_class_ask hD2 fun p2 w2 z2 a2 H3 e3 f3 A2 hD3 s3 => ?_
  have q1 : p1 ≠ s := hD1.ne f2
  have q2 : p2 ≠ s := hD2.ne f3
  fold_lay; fold_depth
  rename_i ad j4
  have had : upd H3 ad (.lst [.ref p1, .ref p2]) ad = some (.lst [.ref p1, .ref p2]) := upd_same
  have u1 : upd H3 ad (.lst [.ref p1, .ref p2]) p1 = some (.tup [.int w1, .int z1, .int a1]) := by kct_strs
  have u2 : upd H3 ad (.lst [.ref p1, .ref p2]) p2 = some (.tup [.int w2, .int z2, .int a2]) := by kct_strs
  have hD4 := hD3.same (same_new (o := .lst [.ref p1, .ref p2]) j4)
  generalize upd H3 ad (.lst [.ref p1, .ref p2]) = H4 at *
  refine i_cat had had (by simp) fun bd jb => ?_
  have s5 := same_new (o := .lst ([.ref p1, .ref p2] ++ [.ref p1, .ref p2])) jb
  have asks : ∀ (x : V), x ∈ ([.ref p1, .ref p2] ++ [.ref p1, .ref p2] : List V) → ∃ (p : Addr) (w z a : Int), x = .ref p ∧ H4 p = some (.tup [.int w, .int z, .int a]) ∧ Ask26 w z a := fun x hx => by
    simp only [List.cons_append, List.nil_append, List.mem_cons, List.not_mem_nil, or_false] at hx
    rcases hx with rfl | rfl | rfl | rfl
    · exact ⟨p1, w1, z1, a1, rfl, u1, A1⟩
    · exact ⟨p2, w2, z2, a2, rfl, u2, A2⟩
    · exact ⟨p1, w1, z1, a1, rfl, u1, A1⟩
    · exact ⟨p2, w2, z2, a2, rfl, u2, A2⟩
  refine f_lst (sqL upd_same) (l_lst (xs := [.ref p1, .ref p2] ++ [.ref p1, .ref p2]) (fun i σ' H' => Same (upd H4 bd (.lst ([.ref p1, .ref p2] ++ [.ref p1, .ref p2]))) H' ∧ ∃ y1 y2 y3 y4 y5 y6, σ' = [some (.ref x), some (.ref d), some (.ref ad), y1, y2, y3, y4, y5, y6])
    ⟨Same.refl _, _, _, _, _, _, _, rfl⟩ (fun i σ' H' _ h => sqL (h.1 _ _ upd_same)) ?_ ?_)
  · rintro i v σ' H5 hv ⟨s6, y1, y2, y3, y4, y5, y6, rfl⟩
    obtain ⟨p, w, z, a, rfl, hp, A⟩ := asks v (List.mem_of_getElem? hv)
    fold_lay
    refine c_class_sizes A.w1 BU.bv hT fun l H6 jl hl6 s7 => ?_
    fold_lay; fold_depth
    refine ⟨w, rfl, fun l2 H7 jl2 hl7 s8 => ?_⟩
    fold_lay
    have L := szw_len w
    have D := intsD_ok (l := szw w) (by omega)
    refine c_same (E := E0) (d := intsD (szw w)) (.lst (s8 _ _ hl6) (Ats_ints _)) (.lst hl7 (Ats_ints _)) D.1 D.2 fun H8 s9 => ?_
    fold_lay
    refine c_class_of_ok A BU.bv hT fun v H9 hv9 s10 => ?_
    fold_lay; fold_depth
    refine ⟨l, w, z, a, v, rfl, by kct_strs, hv9, BU.bv, hT, fun H10 s11 => ?_⟩
    fold_lay
    have l10 : H10 l = some (.lst ((szw w).map V.int)) := by kct_strs
    have s510 : Same H5 H10 := by mem_news
    refine i_put l10 (by rw [List.length_map]; omega) ?_
    fold_lay
    refine i_setL upd_same (n := 0) (by
      have := szw_pos A.w1
      have e : ((szw w).map V.int ++ [V.int 1]).length = (szw w).length + 1 := by rw [List.length_append, List.length_map]; rfl
      rw [e]
      show (if _ then _ else _) = _
      first | rfl | (rw [if_pos (by omega)]; rfl) | simp) ?_
    fold_lay
    refine ⟨64, rfl, fun l3 H11 jl3 hl11 s12 => ?_⟩
    rw [szw64] at hl11
    have keep : Same H5 H11 := fun b u e => s12 _ _ (upd_off (ne_of_none e jl) (upd_off (ne_of_none e jl) (s510 _ _ e)))
    refine f_lst (sqL hl11) (l_lst (xs := szs.map V.int) (fun i σ' H' => Same H11 H' ∧ ∃ y, σ' = [some (.ref x), some (.ref d), some (.ref ad), some (.int w), some (.int z), some (.int a), some (.ref l), some v, y]) ⟨Same.refl _, _, rfl⟩ (fun i σ' H' _ h => sqL (h.1 _ _ hl11)) ?_ ?_)
    · rintro i' o σ' H12 ho ⟨s13, y, rfl⟩
      obtain ⟨sz, hsz, rfl⟩ := getI ho
      have hsm := List.mem_of_getElem? hsz
      fold_lay
      refine c_class_order_ok A.w1 hsm BU.bv hT fun o H13 o3 n2 lo s14 => ?_
      fold_lay
      refine ⟨w, sz, o, rfl, A.w1, hsm, o3, n2, lo, BU.bv, hT, fun H14 s15 => ?_⟩
      fold_lay
      exact ⟨by mem_news, _, rfl⟩
    · rintro σ' H12 ⟨s13, y, rfl⟩
      exact ⟨by mem_news, _, _, _, _, _, _, rfl⟩
  · rintro σ' H5 ⟨s6, y1, y2, y3, y4, y5, y6, rfl⟩
    fold_lay
    exact ⟨d, s, p1, w1, z1, a1, rfl, hD4.same (s5.trans s6), by kct_strs, q1, A1, BU, hT, k⟩
end Gv
namespace K26
open PySem L2 Gv PySem.Spec PyProof.Rows
def top (i : Nat) : Stmt := PySem.Challenge.pw_allgivenback_k26_classes.main.body.getD i (.Pass ⟨0, 0, 0, 0⟩)
abbrev s_c_BadValue_init : Stmt := inClass (top 2) 0
theorem sc_c_BadValue_init : FnScope N_c_BadValue_init ["self", "parameter"] (defScope s_c_BadValue_init) := ⟨rfl, rfl, rfl, by decide +kernel, rfl, by decide +kernel, by decide +kernel⟩
abbrev s_p_is_whole : Stmt := top 4
theorem sc_p_is_whole : FnScope N_p_is_whole ["value"] (defScope s_p_is_whole) := ⟨rfl, rfl, rfl, by decide +kernel, rfl, by decide +kernel, by decide +kernel⟩
abbrev s_p_whole_between : Stmt := top 5
theorem sc_p_whole_between : FnScope N_p_whole_between ["value", "low", "high"] (defScope s_p_whole_between) := ⟨rfl, rfl, rfl, by decide +kernel, rfl, by decide +kernel, by decide +kernel⟩
abbrev s_p_is_power : Stmt := top 9
theorem sc_p_is_power : FnScope N_p_is_power ["value"] (defScope s_p_is_power) := ⟨rfl, rfl, rfl, by decide +kernel, rfl, by decide +kernel, by decide +kernel⟩
abbrev s_p_is_align : Stmt := top 10
theorem sc_p_is_align : FnScope N_p_is_align ["value", "most"] (defScope s_p_is_align) := ⟨rfl, rfl, rfl, by decide +kernel, rfl, by decide +kernel, by decide +kernel⟩
abbrev s_p_align_up : Stmt := top 11
theorem sc_p_align_up : FnScope N_p_align_up ["number", "align"] (defScope s_p_align_up) := ⟨rfl, rfl, rfl, by decide +kernel, rfl, by decide +kernel, by decide +kernel⟩
abbrev s_p_power_in : Stmt := top 12
theorem sc_p_power_in : FnScope N_p_power_in ["number"] (defScope s_p_power_in) := ⟨rfl, rfl, rfl, by decide +kernel, rfl, by decide +kernel, by decide +kernel⟩
abbrev s_p_check_whole : Stmt := top 14
theorem sc_p_check_whole : FnScope N_p_check_whole ["value", "low", "high", "parameter"] (defScope s_p_check_whole) := ⟨rfl, rfl, rfl, by decide +kernel, rfl, by decide +kernel, by decide +kernel⟩
abbrev s_p_check_align : Stmt := top 19
theorem sc_p_check_align : FnScope N_p_check_align3 ["value", "most", "parameter"] (defScope s_p_check_align) := ⟨rfl, rfl, rfl, by decide +kernel, rfl, by decide +kernel, by decide +kernel⟩
abbrev s_p_check_width : Stmt := top 20
theorem sc_p_check_width : FnScope N_p_check_width ["value"] (defScope s_p_check_width) := ⟨rfl, rfl, rfl, by decide +kernel, rfl, by decide +kernel, by decide +kernel⟩
abbrev s_p_check_class_size : Stmt := top 21
theorem sc_p_check_class_size : FnScope N_p_check_class_size ["value"] (defScope s_p_check_class_size) := ⟨rfl, rfl, rfl, by decide +kernel, rfl, by decide +kernel, by decide +kernel⟩
abbrev s_p_slab_shape : Stmt := top 22
theorem sc_p_slab_shape : FnScope N_p_slab_shape ["width", "order", "size", "align"] (defScope s_p_slab_shape) := ⟨rfl, rfl, rfl, by decide +kernel, rfl, by decide +kernel, by decide +kernel⟩
abbrev s_p_class_sizes : Stmt := top 23
theorem sc_p_class_sizes : FnScope N_p_class_sizes ["width"] (defScope s_p_class_sizes) := ⟨rfl, rfl, rfl, by decide +kernel, rfl, by decide +kernel, by decide +kernel⟩
abbrev s_p_class_align : Stmt := top 24
theorem sc_p_class_align : FnScope N_p_class_align ["size"] (defScope s_p_class_align) := ⟨rfl, rfl, rfl, by decide +kernel, rfl, by decide +kernel, by decide +kernel⟩
abbrev s_p_class_order : Stmt := top 25
theorem sc_p_class_order : FnScope N_p_class_order ["width", "size"] (defScope s_p_class_order) := ⟨rfl, rfl, rfl, by decide +kernel, rfl, by decide +kernel, by decide +kernel⟩
abbrev s_p_class_of : Stmt := top 26
theorem sc_p_class_of : FnScope N_p_class_of ["width", "size", "align"] (defScope s_p_class_of) := ⟨rfl, rfl, rfl, by decide +kernel, rfl, by decide +kernel, by decide +kernel⟩
abbrev s_l_draws : Stmt := top 28
theorem sc_l_draws : FnScope N_l_draws ["_law_script"] (defScope s_l_draws) := ⟨rfl, rfl, rfl, by decide +kernel, rfl, by decide +kernel, by decide +kernel⟩
abbrev s_l_next_cell : Stmt := top 29
theorem sc_l_next_cell : FnScope N_l_next_cell ["_law_draws_here"] (defScope s_l_next_cell) := ⟨rfl, rfl, rfl, by decide +kernel, rfl, by decide +kernel, by decide +kernel⟩
abbrev s_l_mixed : Stmt := top 30
theorem sc_l_mixed : FnScope N_l_mixed ["_law_seed", "_law_turn", "_law_many"] (defScope s_l_mixed) := ⟨rfl, rfl, rfl, by decide +kernel, rfl, by decide +kernel, by decide +kernel⟩
abbrev s_l_take : Stmt := top 31
theorem sc_l_take : FnScope N_l_take ["_law_draws_here", "_law_many"] (defScope s_l_take) := ⟨rfl, rfl, rfl, by decide +kernel, rfl, by decide +kernel, by decide +kernel⟩
abbrev s_l_among : Stmt := top 32
theorem sc_l_among : FnScope N_l_among ["_law_draws_here", "_law_row"] (defScope s_l_among) := ⟨rfl, rfl, rfl, by decide +kernel, rfl, by decide +kernel, by decide +kernel⟩
abbrev s_l_between : Stmt := top 33
theorem sc_l_between : FnScope N_l_between ["_law_draws_here", "_law_low", "_law_high"] (defScope s_l_between) := ⟨rfl, rfl, rfl, by decide +kernel, rfl, by decide +kernel, by decide +kernel⟩
abbrev s_l_number : Stmt := top 34
theorem sc_l_number : FnScope N_l_number ["_law_draws_here", "_law_low", "_law_high"] (defScope s_l_number) := ⟨rfl, rfl, rfl, by decide +kernel, rfl, by decide +kernel, by decide +kernel⟩
abbrev s_l_alignment : Stmt := top 35
theorem sc_l_alignment : FnScope N_l_alignment ["_law_draws_here", "_law_most"] (defScope s_l_alignment) := ⟨rfl, rfl, rfl, by decide +kernel, rfl, by decide +kernel, by decide +kernel⟩
abbrev s_l_power : Stmt := top 36
theorem sc_l_power : FnScope N_l_power ["_law_number_here"] (defScope s_l_power) := ⟨rfl, rfl, rfl, by decide +kernel, rfl, by decide +kernel, by decide +kernel⟩
abbrev s_l_up : Stmt := top 37
theorem sc_l_up : FnScope N_l_up ["_law_number_here", "_law_alignment_here"] (defScope s_l_up) := ⟨rfl, rfl, rfl, by decide +kernel, rfl, by decide +kernel, by decide +kernel⟩
abbrev s_l_long : Stmt := top 38
theorem sc_l_long : FnScope N_l_long [] (defScope s_l_long) := ⟨rfl, rfl, rfl, by decide +kernel, rfl, by decide +kernel, by decide +kernel⟩
abbrev s_l_not_integer : Stmt := top 39
theorem sc_l_not_integer : FnScope N_l_not_integer ["_law_draws_here"] (defScope s_l_not_integer) := ⟨rfl, rfl, rfl, by decide +kernel, rfl, by decide +kernel, by decide +kernel⟩
abbrev s_l_not_within : Stmt := top 40
theorem sc_l_not_within : FnScope N_l_not_within ["_law_draws_here", "_law_low", "_law_high"] (defScope s_l_not_within) := ⟨rfl, rfl, rfl, by decide +kernel, rfl, by decide +kernel, by decide +kernel⟩
abbrev s_l_not_among : Stmt := top 41
theorem sc_l_not_among : FnScope N_l_not_among ["_law_draws_here", "_law_row"] (defScope s_l_not_among) := ⟨rfl, rfl, rfl, by decide +kernel, rfl, by decide +kernel, by decide +kernel⟩
abbrev s_l_not_alignment : Stmt := top 42
theorem sc_l_not_alignment : FnScope N_l_not_alignment ["_law_draws_here", "_law_most"] (defScope s_l_not_alignment) := ⟨rfl, rfl, rfl, by decide +kernel, rfl, by decide +kernel, by decide +kernel⟩
abbrev s_l_is_int : Stmt := top 43
theorem sc_l_is_int : FnScope N_l_is_int ["_law_value"] (defScope s_l_is_int) := ⟨rfl, rfl, rfl, by decide +kernel, rfl, by decide +kernel, by decide +kernel⟩
abbrev s_l_is_within : Stmt := top 44
theorem sc_l_is_within : FnScope N_l_is_within ["_law_value", "_law_low", "_law_high"] (defScope s_l_is_within) := ⟨rfl, rfl, rfl, by decide +kernel, rfl, by decide +kernel, by decide +kernel⟩
abbrev s_l_is_ints : Stmt := top 45
theorem sc_l_is_ints : FnScope N_l_is_ints ["_law_value", "_law_listed", "_law_many"] (defScope s_l_is_ints) := ⟨rfl, rfl, rfl, by decide +kernel, rfl, by decide +kernel, by decide +kernel⟩
abbrev s_l_same : Stmt := top 46
theorem sc_l_same : FnScope N_l_same ["_law_actual", "_law_expected"] (defScope s_l_same) := ⟨rfl, rfl, rfl, by decide +kernel, rfl, by decide +kernel, by decide +kernel⟩
abbrev s_l_class_sizes : Stmt := top 47
theorem sc_l_class_sizes : FnScope N_l_class_sizes ["_law_page_width"] (defScope s_l_class_sizes) := ⟨rfl, rfl, rfl, by decide +kernel, rfl, by decide +kernel, by decide +kernel⟩
abbrev s_l_class_ask : Stmt := top 48
theorem sc_l_class_ask : FnScope N_l_class_ask ["_law_draws_here"] (defScope s_l_class_ask) := ⟨rfl, rfl, rfl, by decide +kernel, rfl, by decide +kernel, by decide +kernel⟩
abbrev s_l_is_grain : Stmt := top 49
theorem sc_l_is_grain : FnScope N_l_is_grain ["_law_size", "_law_told"] (defScope s_l_is_grain) := ⟨rfl, rfl, rfl, by decide +kernel, rfl, by decide +kernel, by decide +kernel⟩
abbrev s_l_two_fit : Stmt := top 50
theorem sc_l_two_fit : FnScope N_l_two_fit ["_law_page_width", "_law_power_here", "_law_size", "_law_grain"] (defScope s_l_two_fit) := ⟨rfl, rfl, rfl, by decide +kernel, rfl, by decide +kernel, by decide +kernel⟩
abbrev s_l_is_order : Stmt := top 51
theorem sc_l_is_order : FnScope N_l_is_order ["_law_page_width", "_law_size", "_law_told"] (defScope s_l_is_order) := ⟨rfl, rfl, rfl, by decide +kernel, rfl, by decide +kernel, by decide +kernel⟩
abbrev s_l_is_class : Stmt := top 52
theorem sc_l_is_class : FnScope N_l_is_class ["_law_sizes", "_law_size", "_law_alignment_here", "_law_told"] (defScope s_l_is_class) := ⟨rfl, rfl, rfl, by decide +kernel, rfl, by decide +kernel, by decide +kernel⟩
abbrev s_l_refusal : Stmt := top 53
theorem sc_l_refusal : FnScope N_l_refusal ["_law_name", "_law_row"] (defScope s_l_refusal) := ⟨rfl, rfl, rfl, by decide +kernel, rfl, by decide +kernel, by decide +kernel⟩
abbrev s_l_refuses : Stmt := top 54
theorem sc_l_refuses : FnScope N_l_refuses ["_law_draws_here", "_law_ask"] (defScope s_l_refuses) := ⟨rfl, rfl, rfl, by decide +kernel, rfl, by decide +kernel, by decide +kernel⟩
abbrev s_l_law : Stmt := top 55
theorem sc_l_law : FnScope N_l_law ["_law_script"] (defScope s_l_law) := ⟨rfl, rfl, rfl, by decide +kernel, rfl, by decide +kernel, by decide +kernel⟩
/-- where the defs and constants stand -/
structure Ad where
  c : Cl
  c_BadValue_init : Addr
  c_BadValue_init_d : FuncData
  p_is_whole : Addr
  p_is_whole_d : FuncData
  p_whole_between : Addr
  p_whole_between_d : FuncData
  p_is_power : Addr
  p_is_power_d : FuncData
  p_is_align : Addr
  p_is_align_d : FuncData
  p_align_up : Addr
  p_align_up_d : FuncData
  p_power_in : Addr
  p_power_in_d : FuncData
  p_check_whole : Addr
  p_check_whole_d : FuncData
  p_check_align : Addr
  p_check_align_d : FuncData
  p_check_width : Addr
  p_check_width_d : FuncData
  p_check_class_size : Addr
  p_check_class_size_d : FuncData
  p_slab_shape : Addr
  p_slab_shape_d : FuncData
  p_class_sizes : Addr
  p_class_sizes_d : FuncData
  p_class_align : Addr
  p_class_align_d : FuncData
  p_class_order : Addr
  p_class_order_d : FuncData
  p_class_of : Addr
  p_class_of_d : FuncData
  l_draws : Addr
  l_draws_d : FuncData
  l_next_cell : Addr
  l_next_cell_d : FuncData
  l_mixed : Addr
  l_mixed_d : FuncData
  l_take : Addr
  l_take_d : FuncData
  l_among : Addr
  l_among_d : FuncData
  l_between : Addr
  l_between_d : FuncData
  l_number : Addr
  l_number_d : FuncData
  l_alignment : Addr
  l_alignment_d : FuncData
  l_power : Addr
  l_power_d : FuncData
  l_up : Addr
  l_up_d : FuncData
  l_long : Addr
  l_long_d : FuncData
  l_not_integer : Addr
  l_not_integer_d : FuncData
  l_not_within : Addr
  l_not_within_d : FuncData
  l_not_among : Addr
  l_not_among_d : FuncData
  l_not_alignment : Addr
  l_not_alignment_d : FuncData
  l_is_int : Addr
  l_is_int_d : FuncData
  l_is_within : Addr
  l_is_within_d : FuncData
  l_is_ints : Addr
  l_is_ints_d : FuncData
  l_same : Addr
  l_same_d : FuncData
  l_class_sizes : Addr
  l_class_sizes_d : FuncData
  l_class_ask : Addr
  l_class_ask_d : FuncData
  l_is_grain : Addr
  l_is_grain_d : FuncData
  l_two_fit : Addr
  l_two_fit_d : FuncData
  l_is_order : Addr
  l_is_order_d : FuncData
  l_is_class : Addr
  l_is_class_d : FuncData
  l_refusal : Addr
  l_refusal_d : FuncData
  l_refuses : Addr
  l_refuses_d : FuncData
  l_law : Addr
  l_law_d : FuncData
  v_MOST_ALIGN_slots : Value
  v_MOST_ALIGN_spans : Value
  v_MOST_END : Value
  v_MOST_SIZE : Value
/-- what the top has written -/
structure Txt (K : PySem.W.Frag) (mg : Str → Option Value) (a : Ad) : Prop where
  b_ValueError : mg "ValueError" = none
  b_bool : mg "bool" = none
  b_dict : mg "dict" = none
  b_enumerate : mg "enumerate" = none
  b_int : mg "int" = none
  b_isinstance : mg "isinstance" = none
  b_len : mg "len" = none
  b_list : mg "list" = none
  b_max : mg "max" = none
  b_min : mg "min" = none
  b_range : mg "range" = none
  b_str : mg "str" = none
  b_tuple : mg "tuple" = none
  g_MOST_ALIGN_slots : mg "MOST_ALIGN_slots" = some a.v_MOST_ALIGN_slots
  r_MOST_ALIGN_slots : RelV (.int 1073741824) a.v_MOST_ALIGN_slots
  g_MOST_ALIGN_spans : mg "MOST_ALIGN_spans" = some a.v_MOST_ALIGN_spans
  r_MOST_ALIGN_spans : RelV (.int 1073741824) a.v_MOST_ALIGN_spans
  g_MOST_END : mg "MOST_END" = some a.v_MOST_END
  r_MOST_END : RelV (.int 1000000000) a.v_MOST_END
  g_MOST_SIZE : mg "MOST_SIZE" = some a.v_MOST_SIZE
  r_MOST_SIZE : RelV (.int 1000000000) a.v_MOST_SIZE
  g_SIZES : mg "SIZES" = some (.ref a.c.x_SIZES)
  u_SIZES : KTup K a.c.x_SIZES [1, 2, 3, 4, 6, 8, 12, 16, 24, 32]
  k_StoreError : mg "StoreError" = some (.ref a.c.k_StoreError)
  k_BadValue : mg "BadValue" = some (.ref a.c.k_BadValue)
  k_Unknown : mg "Unknown" = some (.ref a.c.k_Unknown)
  c_BadValue_init : DfM K "__init__" "BadValue.__init__" s_c_BadValue_init ["self", "parameter"] a.c_BadValue_init a.c_BadValue_init_d
  p_is_whole : DfG K mg "is_whole" s_p_is_whole ["value"] a.p_is_whole a.p_is_whole_d
  p_whole_between : DfG K mg "whole_between" s_p_whole_between ["value", "low", "high"] a.p_whole_between a.p_whole_between_d
  p_is_power : DfG K mg "is_power" s_p_is_power ["value"] a.p_is_power a.p_is_power_d
  p_is_align : DfG K mg "is_align" s_p_is_align ["value", "most"] a.p_is_align a.p_is_align_d
  p_align_up : DfG K mg "align_up" s_p_align_up ["number", "align"] a.p_align_up a.p_align_up_d
  p_power_in : DfG K mg "power_in" s_p_power_in ["number"] a.p_power_in a.p_power_in_d
  p_check_whole : DfG K mg "check_whole" s_p_check_whole ["value", "low", "high", "parameter"] a.p_check_whole a.p_check_whole_d
  p_check_align : DfG K mg "check_align" s_p_check_align ["value", "most", "parameter"] a.p_check_align a.p_check_align_d
  p_check_width : DfG K mg "check_width" s_p_check_width ["value"] a.p_check_width a.p_check_width_d
  p_check_class_size : DfG K mg "check_class_size" s_p_check_class_size ["value"] a.p_check_class_size a.p_check_class_size_d
  p_slab_shape : DfG K mg "slab_shape" s_p_slab_shape ["width", "order", "size", "align"] a.p_slab_shape a.p_slab_shape_d
  p_class_sizes : DfG K mg "class_sizes" s_p_class_sizes ["width"] a.p_class_sizes a.p_class_sizes_d
  p_class_align : DfG K mg "class_align" s_p_class_align ["size"] a.p_class_align a.p_class_align_d
  p_class_order : DfG K mg "class_order" s_p_class_order ["width", "size"] a.p_class_order a.p_class_order_d
  p_class_of : DfG K mg "class_of" s_p_class_of ["width", "size", "align"] a.p_class_of a.p_class_of_d
  l_draws : DfG K mg "_law_draws" s_l_draws ["_law_script"] a.l_draws a.l_draws_d
  l_next_cell : DfG K mg "_law_next_cell" s_l_next_cell ["_law_draws_here"] a.l_next_cell a.l_next_cell_d
  l_mixed : DfG K mg "_law_mixed" s_l_mixed ["_law_seed", "_law_turn", "_law_many"] a.l_mixed a.l_mixed_d
  l_take : DfG K mg "_law_take" s_l_take ["_law_draws_here", "_law_many"] a.l_take a.l_take_d
  l_among : DfG K mg "_law_among" s_l_among ["_law_draws_here", "_law_row"] a.l_among a.l_among_d
  l_between : DfG K mg "_law_between" s_l_between ["_law_draws_here", "_law_low", "_law_high"] a.l_between a.l_between_d
  l_number : DfG K mg "_law_number" s_l_number ["_law_draws_here", "_law_low", "_law_high"] a.l_number a.l_number_d
  l_alignment : DfG K mg "_law_alignment" s_l_alignment ["_law_draws_here", "_law_most"] a.l_alignment a.l_alignment_d
  l_power : DfG K mg "_law_power" s_l_power ["_law_number_here"] a.l_power a.l_power_d
  l_up : DfG K mg "_law_up" s_l_up ["_law_number_here", "_law_alignment_here"] a.l_up a.l_up_d
  l_long : DfG K mg "_law_long" s_l_long [] a.l_long a.l_long_d
  l_not_integer : DfG K mg "_law_not_integer" s_l_not_integer ["_law_draws_here"] a.l_not_integer a.l_not_integer_d
  l_not_within : DfG K mg "_law_not_within" s_l_not_within ["_law_draws_here", "_law_low", "_law_high"] a.l_not_within a.l_not_within_d
  l_not_among : DfG K mg "_law_not_among" s_l_not_among ["_law_draws_here", "_law_row"] a.l_not_among a.l_not_among_d
  l_not_alignment : DfG K mg "_law_not_alignment" s_l_not_alignment ["_law_draws_here", "_law_most"] a.l_not_alignment a.l_not_alignment_d
  l_is_int : DfG K mg "_law_is_int" s_l_is_int ["_law_value"] a.l_is_int a.l_is_int_d
  l_is_within : DfG K mg "_law_is_within" s_l_is_within ["_law_value", "_law_low", "_law_high"] a.l_is_within a.l_is_within_d
  l_is_ints : DfG K mg "_law_is_ints" s_l_is_ints ["_law_value", "_law_listed", "_law_many"] a.l_is_ints a.l_is_ints_d
  l_same : DfG K mg "_law_same" s_l_same ["_law_actual", "_law_expected"] a.l_same a.l_same_d
  l_class_sizes : DfG K mg "_law_class_sizes" s_l_class_sizes ["_law_page_width"] a.l_class_sizes a.l_class_sizes_d
  l_class_ask : DfG K mg "_law_class_ask" s_l_class_ask ["_law_draws_here"] a.l_class_ask a.l_class_ask_d
  l_is_grain : DfG K mg "_law_is_grain" s_l_is_grain ["_law_size", "_law_told"] a.l_is_grain a.l_is_grain_d
  l_two_fit : DfG K mg "_law_two_fit" s_l_two_fit ["_law_page_width", "_law_power_here", "_law_size", "_law_grain"] a.l_two_fit a.l_two_fit_d
  l_is_order : DfG K mg "_law_is_order" s_l_is_order ["_law_page_width", "_law_size", "_law_told"] a.l_is_order a.l_is_order_d
  l_is_class : DfG K mg "_law_is_class" s_l_is_class ["_law_sizes", "_law_size", "_law_alignment_here", "_law_told"] a.l_is_class a.l_is_class_d
  l_refusal : DfG K mg "_law_refusal" s_l_refusal ["_law_name", "_law_row"] a.l_refusal a.l_refusal_d
  l_refuses : DfG K mg "_law_refuses" s_l_refuses ["_law_draws_here", "_law_ask"] a.l_refuses a.l_refuses_d
  l_law : DfG K mg "law" s_l_law ["_law_script"] a.l_law a.l_law_d
  bv : BvC K a.c.k_BadValue
  iC : PySem.W.findIn K (.ref a.c.k_BadValue) "__init__" = some (some (.ref a.c_BadValue_init))
  tI : PySem.W.typeIn K (.ref a.c_BadValue_init) = some (.type "function")
  bu : BvU K a.c
section
variable {P : Program} {w : World} {K : PySem.W.Frag} {mg : Str → Option Value} {base : Heap} {a : Ad}
theorem ok_c_BadValue_init (T : Txt K mg a) : FnOk P w K mg base CX0 1 a.c_BadValue_init a.c_BadValue_init_d ["self", "parameter"] (sp_init_BadValue K a.c.k_BadValue) := by
  refine T.c_BadValue_init.fn.ok sc_c_BadValue_init (fun vs H Q E h => ?_) (fun cdv A outer s H vs Q E hr h => ⟨t_c_BadValue_init K, ?_, pure_init_BadValue  h⟩)
  · repeat' (first | (obtain ⟨e, _⟩ := h; (first | (subst e; rfl) | (rw [e]; rfl))) | (obtain ⟨_, h⟩ := h))
  · exact (pss_cons (ps_ost (pv 0) (pv 1))
  (pss_one (ps_ost (pv 0) (pe_tup (pa_cons pe_str (pa_cons (pe_tup (pa_cons (pv 1) pa_nil)) pa_nil))))))
theorem ok_p_is_whole (T : Txt K mg a) : FnOk P w K mg base CX0 1 a.p_is_whole a.p_is_whole_d ["value"] (sp_is_whole K) := by
  refine T.p_is_whole.fn.ok sc_p_is_whole (fun vs H Q E h => ?_) (fun cdv A outer s H vs Q E hr h => ⟨t_p_is_whole K, ?_, pure_is_whole  h⟩)
  · repeat' (first | (obtain ⟨e, _⟩ := h; (first | (subst e; rfl) | (rw [e]; rfl))) | (obtain ⟨_, h⟩ := h))
  · exact (pss_one (ps_ret (pe_and (pe_callB call_isi (by rfl) T.b_isinstance (by decide +kernel) (pa_cons (pv 0) (pa_cons (pe_bltn (by rfl) T.b_int (by decide +kernel) rfl) pa_nil))) (pe_one (pe_not (pe_callB call_isi (by rfl) T.b_isinstance (by decide +kernel) (pa_cons (pv 0) (pa_cons (pe_bltn (by rfl) T.b_bool (by decide +kernel) rfl) pa_nil))))))))
theorem ok_l_draws (T : Txt K mg a) : FnOk P w K mg base CX0 1 a.l_draws a.l_draws_d ["_law_script"] (sp_draws K) := by
  refine T.l_draws.fn.ok sc_l_draws (fun vs H Q E h => ?_) (fun cdv A outer s H vs Q E hr h => ⟨t_l_draws K, ?_, pure_draws  h⟩)
  · repeat' (first | (obtain ⟨e, _⟩ := h; (first | (subst e; rfl) | (rw [e]; rfl))) | (obtain ⟨_, h⟩ := h))
  · exact (pss_one (ps_ret (pe_lst (pa_cons (pe_lc (own := [("_law_cell", 1)]) (g := (gName 1)) (tt := tYes) (by rfl) sc_l_draws.nd (pi_list (pv 0)) (blkOk_by (own := [("_law_cell", 1)]) (N := N_l_draws) (sc := defScope s_l_draws) (by decide +kernel)) (fun _ _ _ _ _ => pg_name (i := 1) sc_l_draws.nd rfl (Or.inl rfl)) (fun _ _ _ _ _ => pts_nil) (fun _ _ _ _ _ => (pe_callTy call_int1 (by rfl) T.b_int (by decide +kernel) (pa_cons (pv 1) pa_nil)))) (pa_cons (pe_lst (pa_cons pe_int (pa_cons pe_int (pa_cons pe_int (pa_cons pe_int (pa_cons pe_int pa_nil)))))) pa_nil)))))
theorem ok_l_next_cell (T : Txt K mg a) : FnOk P w K mg base CX0 1 a.l_next_cell a.l_next_cell_d ["_law_draws_here"] sp_next_cell := by
  refine T.l_next_cell.fn.ok sc_l_next_cell (fun vs H Q E h => ?_) (fun cdv A outer s H vs Q E hr h => ⟨t_l_next_cell K, ?_, pure_next_cell  h⟩)
  · repeat' (first | (obtain ⟨e, _⟩ := h; (first | (subst e; rfl) | (rw [e]; rfl))) | (obtain ⟨_, h⟩ := h))
  · exact (pss_cons (ps_set (i := 1) sc_l_next_cell.nd rfl (Or.inl rfl) (pe_ix ix_list (pv 0) pe_int (fun _ _ => rfl)))
  (pss_cons (ps_set (i := 2) sc_l_next_cell.nd rfl (Or.inl rfl) (pe_ix ix_list (pv 0) pe_int (fun _ _ => rfl)))
  (pss_one (ps_if (pt_cmpR op_lt (pe_ix ix_list (pv 2) pe_int (fun _ _ => rfl)) (pe_callB call_len (by rfl) T.b_len (by decide +kernel) (pa_cons (pv 1) pa_nil)) (nomark _)) (pss_cons (ps_set (i := 3) sc_l_next_cell.nd rfl (Or.inl rfl) (pe_callTy call_int1 (by rfl) T.b_int (by decide +kernel) (pa_cons (pe_ix ix_list (pv 1) (pe_ix ix_list (pv 2) pe_int (fun _ _ => rfl)) (fun _ _ => rfl)) pa_nil)))
  (pss_cons (ps_asg (pe_op op_add (pe_ix ix_list (pv 2) pe_int (fun _ _ => rfl)) pe_int) (pg_sub (pv 2) pe_int set_list))
  (pss_cons (ps_asg (pe_op op_mod (pe_callTy call_int1 (by rfl) T.b_int (by decide +kernel) (pa_cons (pe_op op_add (pe_op op_add (pe_op op_mul (pe_ix ix_list (pv 2) pe_int (fun _ _ => rfl)) pe_int) (pe_op op_mod (pv 3) pe_int)) pe_int) pa_nil)) pe_int) (pg_sub (pv 2) pe_int set_list))
  (pss_one (ps_if (pt_cmpR op_ge (pv 3) (pe_op op_pow pe_int pe_int) (nomark _)) (pss_one (ps_asg (pv 3) (pg_sub (pv 2) pe_int set_list))) (pss_one (ps_asg pe_int (pg_sub (pv 2) pe_int set_list)))))))) pss_nil))))
theorem ok_l_mixed (T : Txt K mg a) : FnOk P w K mg base CX0 1 a.l_mixed a.l_mixed_d ["_law_seed", "_law_turn", "_law_many"] sp_mixed := by
  refine T.l_mixed.fn.ok sc_l_mixed (fun vs H Q E h => ?_) (fun cdv A outer s H vs Q E hr h => ⟨t_l_mixed K, ?_, pure_mixed  h⟩)
  · repeat' (first | (obtain ⟨e, _⟩ := h; (first | (subst e; rfl) | (rw [e]; rfl))) | (obtain ⟨_, h⟩ := h))
  · exact (pss_cons (ps_set (i := 3) sc_l_mixed.nd rfl (Or.inl rfl) pe_int)
  (pss_cons (ps_for PassesOwn.never rfl (pi_range1 (by rfl) T.b_range (pa_cons pe_int pa_nil)) (pg_name (i := 4) sc_l_mixed.nd rfl (Or.inl rfl)) (pss_cons (ps_set (i := 5) sc_l_mixed.nd rfl (Or.inl rfl) (pe_op op_mod (pe_callTy call_int1 (by rfl) T.b_int (by decide +kernel) (pa_cons (pe_op op_mul (pe_op op_add (pe_op op_add (pv 0) pe_int) (pe_op op_mul (pe_op op_add (pe_op op_mul pe_int (pv 1)) (pv 4)) pe_int)) pe_int) pa_nil)) pe_int))
  (pss_cons (ps_set (i := 6) sc_l_mixed.nd rfl (Or.inl rfl) (pe_op op_mod (pe_callTy call_int1 (by rfl) T.b_int (by decide +kernel) (pa_cons (pe_op op_add (pe_op op_add (pe_op op_mul (pv 5) (pv 5)) (pe_op op_mul (pe_op op_fdivW (pv 5) pe_int) pe_int)) (pv 1)) pa_nil)) pe_int))
  (pss_one (ps_set (i := 3) sc_l_mixed.nd rfl (Or.inl rfl) (pe_op op_add (pe_op op_mul (pv 3) pe_int) (pe_op op_fdivW (pv 6) pe_int)))))))
  (pss_one (ps_ret (pe_op op_mod (pe_callTy call_int1 (by rfl) T.b_int (by decide +kernel) (pa_cons (pv 3) pa_nil)) (pv 2))))))
theorem ok_l_power (T : Txt K mg a) : FnOk P w K mg base CX0 1 a.l_power a.l_power_d ["_law_number_here"] sp_power := by
  refine T.l_power.fn.ok sc_l_power (fun vs H Q E h => ?_) (fun cdv A outer s H vs Q E hr h => ⟨t_l_power K, ?_, pure_power  h⟩)
  · repeat' (first | (obtain ⟨e, _⟩ := h; (first | (subst e; rfl) | (rw [e]; rfl))) | (obtain ⟨_, h⟩ := h))
  · exact (pss_cons (ps_set (i := 1) sc_l_power.nd rfl (Or.inl rfl) pe_int)
  (pss_cons (ps_for PassesOwn.never rfl (pi_range1 (by rfl) T.b_range (pa_cons (pv 0) pa_nil)) (pg_name (i := 2) sc_l_power.nd rfl (Or.inl rfl)) (pss_one (ps_set (i := 1) sc_l_power.nd rfl (Or.inl rfl) (pe_op op_mul (pv 1) pe_int))))
  (pss_one (ps_ret (pv 1)))))
theorem ok_l_up (T : Txt K mg a) : FnOk P w K mg base CX0 1 a.l_up a.l_up_d ["_law_number_here", "_law_alignment_here"] sp_up := by
  refine T.l_up.fn.ok sc_l_up (fun vs H Q E h => ?_) (fun cdv A outer s H vs Q E hr h => ⟨t_l_up K, ?_, pure_up  h⟩)
  · repeat' (first | (obtain ⟨e, _⟩ := h; (first | (subst e; rfl) | (rw [e]; rfl))) | (obtain ⟨_, h⟩ := h))
  · exact (pss_one (ps_ret (pe_op op_mul (pe_op op_fdivW (pe_op op_sub (pe_op op_add (pv 0) (pv 1)) pe_int) (pv 1)) (pv 1))))
theorem ok_l_long (T : Txt K mg a) : FnOk P w K mg base CX0 1 a.l_long a.l_long_d [] sp_long := by
  refine T.l_long.fn.ok sc_l_long (fun vs H Q E h => ?_) (fun cdv A outer s H vs Q E hr h => ⟨t_l_long K, ?_, pure_long  h⟩)
  · repeat' (first | (obtain ⟨e, _⟩ := h; (first | (subst e; rfl) | (rw [e]; rfl))) | (obtain ⟨_, h⟩ := h))
  · exact (pss_cons (ps_set (i := 0) sc_l_long.nd rfl (Or.inl rfl) (pe_op op_pow pe_int pe_int))
  (pss_cons (ps_for PassesOwn.never rfl (pi_range1 (by rfl) T.b_range (pa_cons pe_int pa_nil)) (pg_name (i := 1) sc_l_long.nd rfl (Or.inl rfl)) (pss_one (ps_set (i := 0) sc_l_long.nd rfl (Or.inl rfl) (pe_op op_mulW (pv 0) (pe_op op_pow pe_int pe_int)))))
  (pss_one (ps_ret (pv 0)))))
theorem ok_l_is_int (T : Txt K mg a) : FnOk P w K mg base CX0 1 a.l_is_int a.l_is_int_d ["_law_value"] (sp_is_int K) := by
  refine T.l_is_int.fn.ok sc_l_is_int (fun vs H Q E h => ?_) (fun cdv A outer s H vs Q E hr h => ⟨t_l_is_int K, ?_, pure_is_int  h⟩)
  · repeat' (first | (obtain ⟨e, _⟩ := h; (first | (subst e; rfl) | (rw [e]; rfl))) | (obtain ⟨_, h⟩ := h))
  · exact (pss_one (ps_ret (pe_and (pe_callB call_isi (by rfl) T.b_isinstance (by decide +kernel) (pa_cons (pv 0) (pa_cons (pe_bltn (by rfl) T.b_int (by decide +kernel) rfl) pa_nil))) (pe_one (pe_not (pe_callB call_isi (by rfl) T.b_isinstance (by decide +kernel) (pa_cons (pv 0) (pa_cons (pe_bltn (by rfl) T.b_bool (by decide +kernel) rfl) pa_nil))))))))
theorem ok_l_class_sizes (T : Txt K mg a) : FnOk P w K mg base CX0 1 a.l_class_sizes a.l_class_sizes_d ["_law_page_width"] sp_lclass_sizes := by
  refine T.l_class_sizes.fn.ok sc_l_class_sizes (fun vs H Q E h => ?_) (fun cdv A outer s H vs Q E hr h => ⟨t_l_class_sizes K, ?_, pure_class_sizes_l  h⟩)
  · repeat' (first | (obtain ⟨e, _⟩ := h; (first | (subst e; rfl) | (rw [e]; rfl))) | (obtain ⟨_, h⟩ := h))
  · exact (pss_one (ps_ret (pe_lc (own := [("_law_size", 1)]) (g := (gName 1)) (tt := (tTest (tOp oLe (tVar 1) (tOp oDiv (tVar 0) (tC (.int 2)))))) (by rfl) sc_l_class_sizes.nd (pi_list (pe_lst (pa_cons pe_int (pa_cons pe_int (pa_cons pe_int (pa_cons pe_int (pa_cons pe_int (pa_cons pe_int (pa_cons pe_int (pa_cons pe_int (pa_cons pe_int (pa_cons pe_int pa_nil)))))))))))) (blkOk_by (own := [("_law_size", 1)]) (N := N_l_class_sizes) (sc := defScope s_l_class_sizes) (by decide +kernel)) (fun _ _ _ _ _ => pg_name (i := 1) sc_l_class_sizes.nd rfl (Or.inl rfl)) (fun _ _ _ _ _ => (pts_one (pt_cmpR op_le (pv 1) (pe_op op_fdivW (pv 0) pe_int) (nomark _)))) (fun _ _ _ _ _ => (pv 1)))))
theorem ok_p_whole_between (T : Txt K mg a) : FnOk P w K mg base CX0 2 a.p_whole_between a.p_whole_between_d ["value", "low", "high"] (sp_whole_between K) := by
  refine T.p_whole_between.fn.ok sc_p_whole_between (fun vs H Q E h => ?_) (fun cdv A outer s H vs Q E hr h => ⟨t_p_whole_between K, ?_, pure_whole_between  h⟩)
  · repeat' (first | (obtain ⟨e, _⟩ := h; (first | (subst e; rfl) | (rw [e]; rfl))) | (obtain ⟨_, h⟩ := h))
  · exact (pss_one (ps_ret (pe_and (pe_call (ok_p_is_whole T) (hr.mono (by decide)) (by rfl) T.p_is_whole.gl T.p_is_whole.fn.kp T.p_is_whole.bd .nil pass0 (pa_cons (pv 0) pa_nil)) (pe_one (pe_chain op_le op_le (pv 1) (pv 0) (pv 2))))))
theorem ok_p_is_power (T : Txt K mg a) : FnOk P w K mg base CX0 2 a.p_is_power a.p_is_power_d ["value"] (sp_is_power K) := by
  refine T.p_is_power.fn.ok sc_p_is_power (fun vs H Q E h => ?_) (fun cdv A outer s H vs Q E hr h => ⟨t_p_is_power K, ?_, pure_is_power  h⟩)
  · repeat' (first | (obtain ⟨e, _⟩ := h; (first | (subst e; rfl) | (rw [e]; rfl))) | (obtain ⟨_, h⟩ := h))
  · exact (pss_one (ps_ret (pe_and (pe_call (ok_p_is_whole T) (hr.mono (by decide)) (by rfl) T.p_is_whole.gl T.p_is_whole.fn.kp T.p_is_whole.bd .nil pass0 (pa_cons (pv 0) pa_nil)) (pe_and (pe_cmpR op_ge (pv 0) pe_int (nomark _)) (pe_one (pe_cmpR op_eq (pe_op op_and (pv 0) (pe_op op_sub (pv 0) pe_int)) pe_int (nomark _)))))))
theorem ok_l_take (T : Txt K mg a) : FnOk P w K mg base CX0 2 a.l_take a.l_take_d ["_law_draws_here", "_law_many"] sp_take := by
  refine T.l_take.fn.ok sc_l_take (fun vs H Q E h => ?_) (fun cdv A outer s H vs Q E hr h => ⟨t_l_take K, ?_, pure_take  h⟩)
  · repeat' (first | (obtain ⟨e, _⟩ := h; (first | (subst e; rfl) | (rw [e]; rfl))) | (obtain ⟨_, h⟩ := h))
  · exact (pss_cons (ps_if (pt_cmpR op_lt (pv 1) pe_int (nomark _)) (pss_one (ps_ret pe_int)) pss_nil)
  (pss_cons (ps_set (i := 2) sc_l_take.nd rfl (Or.inl rfl) (pe_ix ix_list (pv 0) pe_int (fun _ _ => rfl)))
  (pss_cons (ps_asg (pe_op op_add (pe_ix ix_list (pv 2) pe_int (fun _ _ => rfl)) pe_int) (pg_sub (pv 2) pe_int set_list))
  (pss_cons (ps_if (PW.pt (pw_and (pt_cmpR op_lt (pe_ix ix_list (pv 2) pe_int (fun _ _ => rfl)) pe_int (nomark _)) (pw_and1 (pt_cmpR op_lt (pe_ix ix_list (pv 2) pe_int (fun _ _ => rfl)) pe_int (nomark _))))) (pss_one (ps_expr (pe_call (ok_l_next_cell T) (hr.mono (by decide)) (by rfl) T.l_next_cell.gl T.l_next_cell.fn.kp T.l_next_cell.bd .nil pass0 (pa_cons (pv 0) pa_nil)))) pss_nil)
  (pss_cons (ps_if (pt_cmpR op_gt (pe_ix ix_list (pv 2) pe_int (fun _ _ => rfl)) pe_int (nomark _)) (pss_cons (ps_set (i := 3) sc_l_take.nd rfl (Or.inl rfl) (pe_op op_mod (pe_callTy call_int1 (by rfl) T.b_int (by decide +kernel) (pa_cons (pe_ix ix_list (pv 2) pe_int (fun _ _ => rfl)) pa_nil)) (pv 1)))
  (pss_cons (ps_asg (pe_op op_fdivW (pe_ix ix_list (pv 2) pe_int (fun _ _ => rfl)) (pv 1)) (pg_sub (pv 2) pe_int set_list))
  (pss_one (ps_ret (pv 3))))) pss_nil)
  (pss_cons (ps_if (pt_cmpR op_gt (pe_ix ix_list (pv 2) pe_int (fun _ _ => rfl)) pe_int (nomark _)) (pss_one (ps_asg (pe_op op_sub (pe_ix ix_list (pv 2) pe_int (fun _ _ => rfl)) pe_int) (pg_sub (pv 2) pe_int set_list))) pss_nil)
  (pss_one (ps_ret (pe_call (ok_l_mixed T) (hr.mono (by decide)) (by rfl) T.l_mixed.gl T.l_mixed.fn.kp T.l_mixed.bd .nil pass0 (pa_cons (pe_ix ix_list (pv 2) pe_int (fun _ _ => rfl)) (pa_cons (pe_ix ix_list (pv 2) pe_int (fun _ _ => rfl)) (pa_cons (pv 1) pa_nil))))))))))))
theorem ok_l_is_within (T : Txt K mg a) : FnOk P w K mg base CX0 2 a.l_is_within a.l_is_within_d ["_law_value", "_law_low", "_law_high"] (sp_is_within K) := by
  refine T.l_is_within.fn.ok sc_l_is_within (fun vs H Q E h => ?_) (fun cdv A outer s H vs Q E hr h => ⟨t_l_is_within K, ?_, pure_is_within  h⟩)
  · repeat' (first | (obtain ⟨e, _⟩ := h; (first | (subst e; rfl) | (rw [e]; rfl))) | (obtain ⟨_, h⟩ := h))
  · exact (pss_one (ps_ret (pe_and (pe_call (ok_l_is_int T) (hr.mono (by decide)) (by rfl) T.l_is_int.gl T.l_is_int.fn.kp T.l_is_int.bd .nil pass0 (pa_cons (pv 0) pa_nil)) (pe_one (pe_chain op_le op_le (pv 1) (pv 0) (pv 2))))))
theorem ok_l_is_ints (T : Txt K mg a) : FnOk P w K mg base CX0 2 a.l_is_ints a.l_is_ints_d ["_law_value", "_law_listed", "_law_many"] (sp_is_ints K) := by
  refine T.l_is_ints.fn.ok sc_l_is_ints (fun vs H Q E h => ?_) (fun cdv A outer s H vs Q E hr h => ⟨t_l_is_ints K, ?_, pure_is_ints  h⟩)
  · repeat' (first | (obtain ⟨e, _⟩ := h; (first | (subst e; rfl) | (rw [e]; rfl))) | (obtain ⟨_, h⟩ := h))
  · exact (pss_cons (ps_if (PW.pt (pw_or (PW.pt (pw_and (pt_val (pv 1)) (pw_and1 (pt_not (pt_val (pe_callB call_isi (by rfl) T.b_isinstance (by decide +kernel) (pa_cons (pv 0) (pa_cons (pe_bltn (by rfl) T.b_list (by decide +kernel) rfl) pa_nil)))))))) (pw_or1 (PW.pt (pw_and (pt_not (pt_val (pv 1))) (pw_and1 (pt_not (pt_val (pe_callB call_isi (by rfl) T.b_isinstance (by decide +kernel) (pa_cons (pv 0) (pa_cons (pe_bltn (by rfl) T.b_tuple (by decide +kernel) rfl) pa_nil))))))))))) (pss_one (ps_ret pe_bl)) pss_nil)
  (pss_cons (ps_if (PW.pt (pw_and (pt_cmpR op_ge (pv 2) pe_int (nomark _)) (pw_and1 (pt_cmpR op_ne (pe_callB call_len (by rfl) T.b_len (by decide +kernel) (pa_cons (pv 0) pa_nil)) (pv 2) (nomark _))))) (pss_one (ps_ret pe_bl)) pss_nil)
  (pss_cons (ps_for PassesOwn.never rfl (pi_seq (pv 0)) (pg_name (i := 3) sc_l_is_ints.nd rfl (Or.inl rfl)) (pss_one (ps_if (pt_not (pt_val (pe_call (ok_l_is_int T) (hr.mono (by decide)) (by rfl) T.l_is_int.gl T.l_is_int.fn.kp T.l_is_int.bd .nil pass0 (pa_cons (pv 3) pa_nil)))) (pss_one (ps_ret pe_bl)) pss_nil)))
  (pss_one (ps_ret pe_bl)))))
theorem ok_l_is_grain (T : Txt K mg a) : FnOk P w K mg base CX0 2 a.l_is_grain a.l_is_grain_d ["_law_size", "_law_told"] (sp_is_grain K) := by
  refine T.l_is_grain.fn.ok sc_l_is_grain (fun vs H Q E h => ?_) (fun cdv A outer s H vs Q E hr h => ⟨t_l_is_grain K, ?_, pure_is_grain  h⟩)
  · repeat' (first | (obtain ⟨e, _⟩ := h; (first | (subst e; rfl) | (rw [e]; rfl))) | (obtain ⟨_, h⟩ := h))
  · exact (pss_cons (ps_if (PW.pt (pw_or (pt_not (pt_val (pe_call (ok_l_is_int T) (hr.mono (by decide)) (by rfl) T.l_is_int.gl T.l_is_int.fn.kp T.l_is_int.bd .nil pass0 (pa_cons (pv 1) pa_nil)))) (pw_or (pt_cmpR op_notIn_seq (pv 1) (pe_lst (pa_cons pe_int (pa_cons pe_int (pa_cons pe_int pa_nil)))) (by rfl)) (pw_or1 (pt_cmpR op_ne (pe_op op_mod (pe_callTy call_int1 (by rfl) T.b_int (by decide +kernel) (pa_cons (pv 0) pa_nil)) (pv 1)) pe_int (nomark _)))))) (pss_one (ps_ret pe_bl)) pss_nil)
  (pss_one (ps_ret (pe_or (pe_cmpR op_eq (pv 1) pe_int (nomark _)) (pe_one (pe_cmpR op_ne (pe_op op_mod (pe_callTy call_int1 (by rfl) T.b_int (by decide +kernel) (pa_cons (pv 0) pa_nil)) (pe_op op_mul pe_int (pv 1))) pe_int (nomark _)))))))
theorem ok_l_two_fit (T : Txt K mg a) : FnOk P w K mg base CX0 2 a.l_two_fit a.l_two_fit_d ["_law_page_width", "_law_power_here", "_law_size", "_law_grain"] sp_two_fit := by
  refine T.l_two_fit.fn.ok sc_l_two_fit (fun vs H Q E h => ?_) (fun cdv A outer s H vs Q E hr h => ⟨t_l_two_fit K, ?_, pure_two_fit  h⟩)
  · repeat' (first | (obtain ⟨e, _⟩ := h; (first | (subst e; rfl) | (rw [e]; rfl))) | (obtain ⟨_, h⟩ := h))
  · exact (pss_cons (ps_if (pt_cmpR op_lt (pv 1) pe_int (nomark _)) (pss_one (ps_ret pe_bl)) pss_nil)
  (pss_one (ps_ret (pe_cmpR op_le (pe_op op_add (pv 3) (pe_op op_mul pe_int (pe_call (ok_l_up T) (hr.mono (by decide)) (by rfl) T.l_up.gl T.l_up.fn.kp T.l_up.bd .nil pass0 (pa_cons (pe_op op_add (pv 2) pe_int) (pa_cons (pv 3) pa_nil))))) (pe_op op_mul (pv 0) (pe_call (ok_l_power T) (hr.mono (by decide)) (by rfl) T.l_power.gl T.l_power.fn.kp T.l_power.bd .nil pass0 (pa_cons (pv 1) pa_nil))) (nomark _)))))
theorem ok_p_is_align (T : Txt K mg a) : FnOk P w K mg base CX0 3 a.p_is_align a.p_is_align_d ["value", "most"] (sp_is_align K) := by
  refine T.p_is_align.fn.ok sc_p_is_align (fun vs H Q E h => ?_) (fun cdv A outer s H vs Q E hr h => ⟨t_p_is_align K, ?_, pure_is_align  h⟩)
  · repeat' (first | (obtain ⟨e, _⟩ := h; (first | (subst e; rfl) | (rw [e]; rfl))) | (obtain ⟨_, h⟩ := h))
  · exact (pss_one (ps_ret (pe_and (pe_call (ok_p_is_power T) (hr.mono (by decide)) (by rfl) T.p_is_power.gl T.p_is_power.fn.kp T.p_is_power.bd .nil pass0 (pa_cons (pv 0) pa_nil)) (pe_one (pe_cmpR op_le (pv 0) (pv 1) (nomark _))))))
theorem ok_p_power_in (T : Txt K mg a) : FnOk P w K mg base CX0 3 a.p_power_in a.p_power_in_d ["number"] sp_power_in := by
  refine T.p_power_in.fn.ok sc_p_power_in (fun vs H Q E h => ?_) (fun cdv A outer s H vs Q E hr h => ⟨t_p_power_in K, ?_, pure_power_in  h⟩)
  · repeat' (first | (obtain ⟨e, _⟩ := h; (first | (subst e; rfl) | (rw [e]; rfl))) | (obtain ⟨_, h⟩ := h))
  · exact (pss_cons (ps_if (pt_not (pt_val (pe_call (ok_p_whole_between T) (hr.mono (by decide)) (by rfl) T.p_whole_between.gl T.p_whole_between.fn.kp T.p_whole_between.bd .nil pass0 (pa_cons (pv 0) (pa_cons pe_int (pa_cons (pe_glob (by rfl) T.g_MOST_END T.r_MOST_END) pa_nil)))))) (pss_one ps_never) pss_nil)
  (pss_one (ps_ret (pe_op op_and (pv 0) (pe_un un_neg (pv 0))))))
theorem ok_p_check_whole (T : Txt K mg a) : FnOk P w K mg base (L2.CX P w) 3 a.p_check_whole a.p_check_whole_d ["value", "low", "high", "parameter"] (sp_check_number K a.c) := by
  refine T.p_check_whole.fn.okX sc_p_check_whole (fun vs H Q E h => ?_) (fun cdv A outer s H vs Q E hr h => ⟨t_p_check_whole K a.c E, ?_, pure_check_whole  h⟩)
  · repeat' (first | (obtain ⟨e, _⟩ := h; (first | (subst e; rfl) | (rw [e]; rfl))) | (obtain ⟨_, h⟩ := h))
  · exact (pss_one (ps_if (PW.pt (pw_or (pt_not (pt_val (pe_call (ok_p_is_whole T) (hr.mono (by decide)) (by rfl) T.p_is_whole.gl T.p_is_whole.fn.kp T.p_is_whole.bd .nil pass0 (pa_cons (pv 0) pa_nil)))) (pw_or (pt_cmpR op_lt (pv 0) (pv 1) (nomark _)) (pw_or1 (pt_cmpR op_gt (pv 0) (pv 2) (nomark _)))))) (pss_one (ps_raise rfl (takes_of rfl rfl rfl rfl) (pmk_oex T.bv.ox T.iC T.tI (ok_c_BadValue_init T) (hr.mono (by decide)) T.c_BadValue_init.bd .nil pass0 (by rfl) T.k_BadValue (pa_cons (pv 3) pa_nil)))) pss_nil))
theorem ok_p_check_align (T : Txt K mg a) : FnOk P w K mg base (L2.CX P w) 3 a.p_check_align a.p_check_align_d ["value", "most", "parameter"] (sp_check_align3 K a.c) := by
  refine T.p_check_align.fn.okX sc_p_check_align (fun vs H Q E h => ?_) (fun cdv A outer s H vs Q E hr h => ⟨t_p_check_align3 K a.c E, ?_, pure_check_align3  h⟩)
  · repeat' (first | (obtain ⟨e, _⟩ := h; (first | (subst e; rfl) | (rw [e]; rfl))) | (obtain ⟨_, h⟩ := h))
  · exact (pss_one (ps_if (PW.pt (pw_or (pt_not (pt_val (pe_call (ok_p_is_power T) (hr.mono (by decide)) (by rfl) T.p_is_power.gl T.p_is_power.fn.kp T.p_is_power.bd .nil pass0 (pa_cons (pv 0) pa_nil)))) (pw_or1 (pt_cmpR op_gt (pv 0) (pv 1) (nomark _))))) (pss_one (ps_raise rfl (takes_of rfl rfl rfl rfl) (pmk_oex T.bv.ox T.iC T.tI (ok_c_BadValue_init T) (hr.mono (by decide)) T.c_BadValue_init.bd .nil pass0 (by rfl) T.k_BadValue (pa_cons (pv 2) pa_nil)))) pss_nil))
theorem ok_p_check_width (T : Txt K mg a) : FnOk P w K mg base (L2.CX P w) 3 a.p_check_width a.p_check_width_d ["value"] (sp_check_width K a.c) := by
  refine T.p_check_width.fn.okX sc_p_check_width (fun vs H Q E h => ?_) (fun cdv A outer s H vs Q E hr h => ⟨t_p_check_width K a.c E, ?_, pure_check_width  h⟩)
  · repeat' (first | (obtain ⟨e, _⟩ := h; (first | (subst e; rfl) | (rw [e]; rfl))) | (obtain ⟨_, h⟩ := h))
  · exact (pss_one (ps_if (PW.pt (pw_or (pt_not (pt_val (pe_call (ok_p_is_whole T) (hr.mono (by decide)) (by rfl) T.p_is_whole.gl T.p_is_whole.fn.kp T.p_is_whole.bd .nil pass0 (pa_cons (pv 0) pa_nil)))) (pw_or1 (pt_cmpR op_notIn_seq (pv 0) (pe_tup (pa_cons pe_int (pa_cons pe_int (pa_cons pe_int pa_nil)))) (by rfl))))) (pss_one (ps_raise rfl (takes_of rfl rfl rfl rfl) (pmk_oex T.bv.ox T.iC T.tI (ok_c_BadValue_init T) (hr.mono (by decide)) T.c_BadValue_init.bd .nil pass0 (by rfl) T.k_BadValue (pa_cons pe_str pa_nil)))) pss_nil))
theorem ok_l_among (T : Txt K mg a) : FnOk P w K mg base CX0 3 a.l_among a.l_among_d ["_law_draws_here", "_law_row"] (sp_among K) := by
  refine T.l_among.fn.ok sc_l_among (fun vs H Q E h => ?_) (fun cdv A outer s H vs Q E hr h => ⟨t_l_among K, ?_, pure_among  h⟩)
  · repeat' (first | (obtain ⟨e, _⟩ := h; (first | (subst e; rfl) | (rw [e]; rfl))) | (obtain ⟨_, h⟩ := h))
  · exact (pss_one (ps_ret (pe_ix ix_list (pv 1) (pe_call (ok_l_take T) (hr.mono (by decide)) (by rfl) T.l_take.gl T.l_take.fn.kp T.l_take.bd .nil pass0 (pa_cons (pv 0) (pa_cons (pe_callB call_len (by rfl) T.b_len (by decide +kernel) (pa_cons (pv 1) pa_nil)) pa_nil))) (fun _ _ => rfl))))
theorem ok_l_between (T : Txt K mg a) : FnOk P w K mg base CX0 3 a.l_between a.l_between_d ["_law_draws_here", "_law_low", "_law_high"] sp_between := by
  refine T.l_between.fn.ok sc_l_between (fun vs H Q E h => ?_) (fun cdv A outer s H vs Q E hr h => ⟨t_l_between K, ?_, pure_between  h⟩)
  · repeat' (first | (obtain ⟨e, _⟩ := h; (first | (subst e; rfl) | (rw [e]; rfl))) | (obtain ⟨_, h⟩ := h))
  · exact (pss_cons (ps_if (pt_cmpR op_le (pv 2) (pv 1) (nomark _)) (pss_one (ps_ret (pv 1))) pss_nil)
  (pss_cons (ps_set (i := 3) sc_l_between.nd rfl (Or.inl rfl) (pe_call (ok_l_take T) (hr.mono (by decide)) (by rfl) T.l_take.gl T.l_take.fn.kp T.l_take.bd .nil pass0 (pa_cons (pv 0) (pa_cons pe_int pa_nil))))
  (pss_cons (ps_if (pt_cmpR op_eq (pv 3) pe_int (nomark _)) (pss_one (ps_ret (pv 1))) pss_nil)
  (pss_cons (ps_if (pt_cmpR op_eq (pv 3) pe_int (nomark _)) (pss_one (ps_ret (pv 2))) pss_nil)
  (pss_one (ps_ret (pe_op op_add (pv 1) (pe_call (ok_l_take T) (hr.mono (by decide)) (by rfl) T.l_take.gl T.l_take.fn.kp T.l_take.bd .nil pass0 (pa_cons (pv 0) (pa_cons (pe_op op_add (pe_op op_sub (pv 2) (pv 1)) pe_int) pa_nil))))))))))
theorem ok_l_not_integer (T : Txt K mg a) : FnOk P w K mg base CX0 3 a.l_not_integer a.l_not_integer_d ["_law_draws_here"] sp_not_integer := by
  refine T.l_not_integer.fn.ok sc_l_not_integer (fun vs H Q E h => ?_) (fun cdv A outer s H vs Q E hr h => ⟨t_l_not_integer K, ?_, pure_not_integer  h⟩)
  · repeat' (first | (obtain ⟨e, _⟩ := h; (first | (subst e; rfl) | (rw [e]; rfl))) | (obtain ⟨_, h⟩ := h))
  · exact (pss_one (ps_ret (pe_ix ix_list (pe_lst (pa_cons pe_bl (pa_cons pe_bl (pa_cons pe_non (pa_cons pe_str (pa_cons pe_str (pa_cons pe_str (pa_cons (pe_lst pa_nil) (pa_cons (pe_tup pa_nil) (pa_cons (pe_lst (pa_cons pe_int pa_nil)) (pa_cons (pe_tup (pa_cons pe_int pa_nil)) (pa_cons (pe_disp (pps_cons pe_str pe_int pps_nil) (by rfl) (by rfl) (fun z => by cases z) (by decide)) pa_nil)))))))))))) (pe_call (ok_l_take T) (hr.mono (by decide)) (by rfl) T.l_take.gl T.l_take.fn.kp T.l_take.bd .nil pass0 (pa_cons (pv 0) (pa_cons pe_int pa_nil))) (fun _ _ => rfl))))
theorem ok_p_align_up (T : Txt K mg a) : FnOk P w K mg base CX0 4 a.p_align_up a.p_align_up_d ["number", "align"] sp_align_up := by
  refine T.p_align_up.fn.ok sc_p_align_up (fun vs H Q E h => ?_) (fun cdv A outer s H vs Q E hr h => ⟨t_p_align_up K, ?_, pure_align_up  h⟩)
  · repeat' (first | (obtain ⟨e, _⟩ := h; (first | (subst e; rfl) | (rw [e]; rfl))) | (obtain ⟨_, h⟩ := h))
  · exact (pss_cons (ps_if (pt_not (pt_val (pe_call (ok_p_whole_between T) (hr.mono (by decide)) (by rfl) T.p_whole_between.gl T.p_whole_between.fn.kp T.p_whole_between.bd .nil pass0 (pa_cons (pv 0) (pa_cons pe_int (pa_cons (pe_glob (by rfl) T.g_MOST_END T.r_MOST_END) pa_nil)))))) (pss_one ps_never) pss_nil)
  (pss_cons (ps_if (pt_not (pt_val (pe_call (ok_p_is_align T) (hr.mono (by decide)) (by rfl) T.p_is_align.gl T.p_is_align.fn.kp T.p_is_align.bd .nil pass0 (pa_cons (pv 1) (pa_cons (pe_glob (by rfl) T.g_MOST_ALIGN_spans T.r_MOST_ALIGN_spans) pa_nil))))) (pss_one ps_never) pss_nil)
  (pss_one (ps_ret (pe_op op_mul (pe_op op_fdivW (pe_op op_sub (pe_op op_add (pv 0) (pv 1)) pe_int) (pv 1)) (pv 1))))))
theorem ok_p_class_sizes (T : Txt K mg a) : FnOk P w K mg base (L2.CX P w) 4 a.p_class_sizes a.p_class_sizes_d ["width"] (sp_class_sizes K a.c) := by
  refine T.p_class_sizes.fn.okX sc_p_class_sizes (fun vs H Q E h => ?_) (fun cdv A outer s H vs Q E hr h => ⟨t_p_class_sizes K a.c E, ?_, pure_class_sizes  h⟩)
  · repeat' (first | (obtain ⟨e, _⟩ := h; (first | (subst e; rfl) | (rw [e]; rfl))) | (obtain ⟨_, h⟩ := h))
  · exact (pss_cons (ps_expr (pe_call (ok_p_check_width T) (hr.mono (by decide)) (by rfl) T.p_check_width.gl T.p_check_width.fn.kp T.p_check_width.bd .nil (passes_call (takes_of rfl rfl rfl rfl) (fun _ _ _ _ h => h)) (pa_cons (pv 0) pa_nil)))
  (pss_one (ps_ret (pe_lc (own := [("size", 1)]) (g := (gName 1)) (tt := (tTest (tOp oLe (tVar 1) (tOp oDiv (tVar 0) (tC (.int 2)))))) (by rfl) sc_p_class_sizes.nd (pi_tup (pe_glob (by rfl) T.g_SIZES rfl)) (blkOk_by (own := [("size", 1)]) (N := N_p_class_sizes) (sc := defScope s_p_class_sizes) (by decide +kernel)) (fun _ _ _ _ _ => pg_name (i := 1) sc_p_class_sizes.nd rfl (Or.inl rfl)) (fun _ _ _ _ _ => (pts_one (pt_cmpR op_le (pv 1) (pe_op op_fdivW (pv 0) pe_int) (nomark _)))) (fun _ _ _ _ _ => (pv 1))))))
theorem ok_l_alignment (T : Txt K mg a) : FnOk P w K mg base CX0 4 a.l_alignment a.l_alignment_d ["_law_draws_here", "_law_most"] sp_alignment := by
  refine T.l_alignment.fn.ok sc_l_alignment (fun vs H Q E h => ?_) (fun cdv A outer s H vs Q E hr h => ⟨t_l_alignment K, ?_, pure_alignment  h⟩)
  · repeat' (first | (obtain ⟨e, _⟩ := h; (first | (subst e; rfl) | (rw [e]; rfl))) | (obtain ⟨_, h⟩ := h))
  · exact (pss_cons (ps_set (i := 2) sc_l_alignment.nd rfl (Or.inl rfl) pe_int)
  (pss_cons (ps_for PassesOwn.never rfl (pi_range1 (by rfl) T.b_range (pa_cons (pe_call (ok_l_between T) (hr.mono (by decide)) (by rfl) T.l_between.gl T.l_between.fn.kp T.l_between.bd .nil pass0 (pa_cons (pv 0) (pa_cons pe_int (pa_cons (pv 1) pa_nil)))) pa_nil)) (pg_name (i := 3) sc_l_alignment.nd rfl (Or.inl rfl)) (pss_one (ps_set (i := 2) sc_l_alignment.nd rfl (Or.inl rfl) (pe_op op_mul (pv 2) pe_int))))
  (pss_one (ps_ret (pv 2)))))
theorem ok_l_not_within (T : Txt K mg a) : FnOk P w K mg base CX0 4 a.l_not_within a.l_not_within_d ["_law_draws_here", "_law_low", "_law_high"] sp_not_within := by
  refine T.l_not_within.fn.ok sc_l_not_within (fun vs H Q E h => ?_) (fun cdv A outer s H vs Q E hr h => ⟨t_l_not_within K, ?_, pure_not_within  h⟩)
  · repeat' (first | (obtain ⟨e, _⟩ := h; (first | (subst e; rfl) | (rw [e]; rfl))) | (obtain ⟨_, h⟩ := h))
  · exact (pss_cons (ps_set (i := 3) sc_l_not_within.nd rfl (Or.inl rfl) (pe_call (ok_l_take T) (hr.mono (by decide)) (by rfl) T.l_take.gl T.l_take.fn.kp T.l_take.bd .nil pass0 (pa_cons (pv 0) (pa_cons pe_int pa_nil))))
  (pss_cons (ps_if (pt_cmpR op_lt (pv 3) pe_int (nomark _)) (pss_one (ps_ret (pe_ix ix_list (pe_lst (pa_cons (pe_op op_sub (pv 1) pe_int) (pa_cons (pe_op op_add (pv 2) pe_int) pa_nil))) (pv 3) (fun _ _ => rfl)))) pss_nil)
  (pss_cons (ps_if (pt_cmpR op_eq (pv 3) pe_int (nomark _)) (pss_one (ps_ret (pe_op op_add (pe_op op_add (pv 2) pe_int) (pe_call (ok_l_take T) (hr.mono (by decide)) (by rfl) T.l_take.gl T.l_take.fn.kp T.l_take.bd .nil pass0 (pa_cons (pv 0) (pa_cons (pe_op op_pow pe_int pe_int) pa_nil)))))) pss_nil)
  (pss_cons (ps_if (pt_cmpR op_eq (pv 3) pe_int (nomark _)) (pss_one (ps_ret (pe_op op_sub (pe_op op_sub (pv 1) pe_int) (pe_call (ok_l_take T) (hr.mono (by decide)) (by rfl) T.l_take.gl T.l_take.fn.kp T.l_take.bd .nil pass0 (pa_cons (pv 0) (pa_cons (pe_op op_pow pe_int pe_int) pa_nil)))))) pss_nil)
  (pss_cons (ps_if (pt_cmpR op_eq (pv 3) pe_int (nomark _)) (pss_one (ps_ret (pe_ix ix_list (pe_lst (pa_cons (pe_call0 (ok_l_long T) (hr.mono (by decide)) (by rfl) T.l_long.gl T.l_long.fn.kp T.l_long.bd .nil pass0) (pa_cons (pe_un un_neg (pe_call0 (ok_l_long T) (hr.mono (by decide)) (by rfl) T.l_long.gl T.l_long.fn.kp T.l_long.bd .nil pass0)) pa_nil))) (pe_call (ok_l_take T) (hr.mono (by decide)) (by rfl) T.l_take.gl T.l_take.fn.kp T.l_take.bd .nil pass0 (pa_cons (pv 0) (pa_cons pe_int pa_nil))) (fun _ _ => rfl)))) pss_nil)
  (pss_one (ps_ret (pe_call (ok_l_not_integer T) (hr.mono (by decide)) (by rfl) T.l_not_integer.gl T.l_not_integer.fn.kp T.l_not_integer.bd .nil pass0 (pa_cons (pv 0) pa_nil)))))))))
theorem ok_l_not_alignment (T : Txt K mg a) : FnOk P w K mg base CX0 4 a.l_not_alignment a.l_not_alignment_d ["_law_draws_here", "_law_most"] sp_not_alignment := by
  refine T.l_not_alignment.fn.ok sc_l_not_alignment (fun vs H Q E h => ?_) (fun cdv A outer s H vs Q E hr h => ⟨t_l_not_alignment K, ?_, pure_not_alignment  h⟩)
  · repeat' (first | (obtain ⟨e, _⟩ := h; (first | (subst e; rfl) | (rw [e]; rfl))) | (obtain ⟨_, h⟩ := h))
  · exact (pss_cons (ps_set (i := 2) sc_l_not_alignment.nd rfl (Or.inl rfl) (pe_call (ok_l_take T) (hr.mono (by decide)) (by rfl) T.l_take.gl T.l_take.fn.kp T.l_take.bd .nil pass0 (pa_cons (pv 0) (pa_cons pe_int pa_nil))))
  (pss_cons (ps_if (pt_cmpR op_lt (pv 2) pe_int (nomark _)) (pss_one (ps_ret (pe_ix ix_list (pe_lst (pa_cons pe_int (pa_cons (pe_un un_neg pe_int) (pa_cons (pe_un un_neg pe_int) (pa_cons pe_int (pa_cons (pe_op op_add (pv 1) (pv 1)) (pa_cons (pe_op op_add (pe_op op_add (pv 1) (pv 1)) pe_int) pa_nil))))))) (pv 2) (fun _ _ => rfl)))) pss_nil)
  (pss_cons (ps_if (pt_cmpR op_eq (pv 2) pe_int (nomark _)) (pss_one (ps_ret (pe_call (ok_l_among T) (hr.mono (by decide)) (by rfl) T.l_among.gl T.l_among.fn.kp T.l_among.bd .nil pass0 (pa_cons (pv 0) (pa_cons (pe_lst (pa_cons pe_int (pa_cons pe_int (pa_cons (pe_op op_pow pe_int pe_int) (pa_cons (pe_call0 (ok_l_long T) (hr.mono (by decide)) (by rfl) T.l_long.gl T.l_long.fn.kp T.l_long.bd .nil pass0) (pa_cons (pe_un un_neg (pv 1)) (pa_cons (pe_op op_mul (pv 1) pe_int) pa_nil))))))) pa_nil))))) pss_nil)
  (pss_one (ps_ret (pe_call (ok_l_not_integer T) (hr.mono (by decide)) (by rfl) T.l_not_integer.gl T.l_not_integer.fn.kp T.l_not_integer.bd .nil pass0 (pa_cons (pv 0) pa_nil)))))))
theorem ok_p_check_class_size (T : Txt K mg a) : FnOk P w K mg base (L2.CX P w) 5 a.p_check_class_size a.p_check_class_size_d ["value"] (sp_check_class_size K a.c) := by
  refine T.p_check_class_size.fn.okX sc_p_check_class_size (fun vs H Q E h => ?_) (fun cdv A outer s H vs Q E hr h => ⟨t_p_check_class_size K a.c E, ?_, pure_check_class_size  h⟩)
  · repeat' (first | (obtain ⟨e, _⟩ := h; (first | (subst e; rfl) | (rw [e]; rfl))) | (obtain ⟨_, h⟩ := h))
  · exact (pss_one (ps_if (PW.pt (pw_or (pt_not (pt_val (pe_call (ok_p_is_whole T) (hr.mono (by decide)) (by rfl) T.p_is_whole.gl T.p_is_whole.fn.kp T.p_is_whole.bd .nil pass0 (pa_cons (pv 0) pa_nil)))) (pw_or1 (pt_cmpR op_notIn_seq (pv 0) (pe_call (ok_p_class_sizes T) (hr.mono (by decide)) (by rfl) T.p_class_sizes.gl T.p_class_sizes.fn.kp T.p_class_sizes.bd .nil (passes_call (takes_of rfl rfl rfl rfl) (fun _ _ _ _ h => h)) (pa_cons pe_int pa_nil)) (by rfl))))) (pss_one (ps_raise rfl (takes_of rfl rfl rfl rfl) (pmk_oex T.bv.ox T.iC T.tI (ok_c_BadValue_init T) (hr.mono (by decide)) T.c_BadValue_init.bd .nil pass0 (by rfl) T.k_BadValue (pa_cons pe_str pa_nil)))) pss_nil))
theorem ok_p_slab_shape (T : Txt K mg a) : FnOk P w K mg base (L2.CX P w) 5 a.p_slab_shape a.p_slab_shape_d ["width", "order", "size", "align"] (sp_slab_shape K a.c) := by
  refine T.p_slab_shape.fn.okX sc_p_slab_shape (fun vs H Q E h => ?_) (fun cdv A outer s H vs Q E hr h => ⟨t_p_slab_shape K a.c E, ?_, pure_slab_shape  h⟩)
  · repeat' (first | (obtain ⟨e, _⟩ := h; (first | (subst e; rfl) | (rw [e]; rfl))) | (obtain ⟨_, h⟩ := h))
  · exact (pss_cons (ps_expr (pe_call (ok_p_check_width T) (hr.mono (by decide)) (by rfl) T.p_check_width.gl T.p_check_width.fn.kp T.p_check_width.bd .nil (passes_call (takes_of rfl rfl rfl rfl) (fun _ _ _ _ h => h)) (pa_cons (pv 0) pa_nil)))
  (pss_cons (ps_expr (pe_call (ok_p_check_whole T) (hr.mono (by decide)) (by rfl) T.p_check_whole.gl T.p_check_whole.fn.kp T.p_check_whole.bd .nil (passes_call (takes_of rfl rfl rfl rfl) (fun _ _ _ _ h => h)) (pa_cons (pv 1) (pa_cons pe_int (pa_cons pe_int (pa_cons pe_str pa_nil))))))
  (pss_cons (ps_expr (pe_call (ok_p_check_whole T) (hr.mono (by decide)) (by rfl) T.p_check_whole.gl T.p_check_whole.fn.kp T.p_check_whole.bd .nil (passes_call (takes_of rfl rfl rfl rfl) (fun _ _ _ _ h => h)) (pa_cons (pv 2) (pa_cons pe_int (pa_cons pe_int (pa_cons pe_str pa_nil))))))
  (pss_cons (ps_expr (pe_call (ok_p_check_align T) (hr.mono (by decide)) (by rfl) T.p_check_align.gl T.p_check_align.fn.kp T.p_check_align.bd .nil (passes_call (takes_of rfl rfl rfl rfl) (fun _ _ _ _ h => h)) (pa_cons (pv 3) (pa_cons (pv 0) (pa_cons pe_str pa_nil)))))
  (pss_cons (ps_set (i := 4) sc_p_slab_shape.nd rfl (Or.inl rfl) (pe_op op_shl (pv 0) (pv 1)))
  (pss_cons (ps_set (i := 5) sc_p_slab_shape.nd rfl (Or.inl rfl) (pe_call (ok_p_align_up T) (hr.mono (by decide)) (by rfl) T.p_align_up.gl T.p_align_up.fn.kp T.p_align_up.bd .nil pass0 (pa_cons (pe_op op_add (pv 2) pe_int) (pa_cons (pv 3) pa_nil))))
  (pss_cons (ps_set (i := 6) sc_p_slab_shape.nd rfl (Or.inl rfl) (pe_op op_fdivW (pe_op op_sub (pv 4) (pv 3)) (pv 5)))
  (pss_cons (ps_if (pt_cmpR op_eq (pv 6) pe_int (nomark _)) (pss_one (ps_ret pe_non)) pss_nil)
  (pss_cons (ps_set (i := 7) sc_p_slab_shape.nd rfl (Or.inl rfl) (pe_op op_add (pe_op op_fdivW (pe_op op_sub (pe_op op_sub (pv 4) (pv 3)) (pe_op op_mul (pv 6) (pv 5))) (pv 3)) pe_int))
  (pss_one (ps_ret (pe_tup (pa_cons (pv 5) (pa_cons (pv 6) (pa_cons (pv 7) pa_nil)))))))))))))))
theorem ok_l_number (T : Txt K mg a) : FnOk P w K mg base CX0 5 a.l_number a.l_number_d ["_law_draws_here", "_law_low", "_law_high"] sp_number := by
  refine T.l_number.fn.ok sc_l_number (fun vs H Q E h => ?_) (fun cdv A outer s H vs Q E hr h => ⟨t_l_number K, ?_, pure_number  h⟩)
  · repeat' (first | (obtain ⟨e, _⟩ := h; (first | (subst e; rfl) | (rw [e]; rfl))) | (obtain ⟨_, h⟩ := h))
  · exact (pss_cons (ps_if (pt_cmpR op_lt (pe_op op_sub (pv 2) (pv 1)) pe_int (nomark _)) (pss_one (ps_ret (pe_call (ok_l_between T) (hr.mono (by decide)) (by rfl) T.l_between.gl T.l_between.fn.kp T.l_between.bd .nil pass0 (pa_cons (pv 0) (pa_cons (pv 1) (pa_cons (pv 2) pa_nil)))))) pss_nil)
  (pss_cons (ps_set (i := 3) sc_l_number.nd rfl (Or.inl rfl) (pe_call (ok_l_take T) (hr.mono (by decide)) (by rfl) T.l_take.gl T.l_take.fn.kp T.l_take.bd .nil pass0 (pa_cons (pv 0) (pa_cons pe_int pa_nil))))
  (pss_cons (ps_if (pt_cmpR op_lt (pv 3) pe_int (nomark _)) (pss_one (ps_ret (pe_ix ix_list (pe_lst (pa_cons (pv 1) (pa_cons (pv 2) (pa_cons (pe_op op_add (pv 1) pe_int) (pa_cons (pe_op op_sub (pv 2) pe_int) pa_nil))))) (pv 3) (fun _ _ => rfl)))) pss_nil)
  (pss_cons (ps_if (pt_cmpR op_lt (pv 3) pe_int (nomark _)) (pss_one (ps_ret (pe_op op_add (pv 1) (pe_call (ok_l_take T) (hr.mono (by decide)) (by rfl) T.l_take.gl T.l_take.fn.kp T.l_take.bd .nil pass0 (pa_cons (pv 0) (pa_cons (pe_op op_add (pe_callB (call_min2 rfl) (by rfl) T.b_min (by decide +kernel) (pa_cons (pe_op op_sub (pv 2) (pv 1)) (pa_cons pe_int pa_nil))) pe_int) pa_nil)))))) pss_nil)
  (pss_cons (ps_if (pt_cmpR op_eq (pv 3) pe_int (nomark _)) (pss_one (ps_ret (pe_callB (call_max2 rfl) (by rfl) T.b_max (by decide +kernel) (pa_cons (pv 1) (pa_cons (pe_callB (call_min2 rfl) (by rfl) T.b_min (by decide +kernel) (pa_cons (pv 2) (pa_cons (pe_op op_sub (pe_op op_add (pe_call (ok_l_alignment T) (hr.mono (by decide)) (by rfl) T.l_alignment.gl T.l_alignment.fn.kp T.l_alignment.bd .nil pass0 (pa_cons (pv 0) (pa_cons pe_int pa_nil))) (pe_call (ok_l_take T) (hr.mono (by decide)) (by rfl) T.l_take.gl T.l_take.fn.kp T.l_take.bd .nil pass0 (pa_cons (pv 0) (pa_cons pe_int pa_nil)))) pe_int) pa_nil))) pa_nil))))) pss_nil)
  (pss_one (ps_ret (pe_op op_add (pv 1) (pe_call (ok_l_take T) (hr.mono (by decide)) (by rfl) T.l_take.gl T.l_take.fn.kp T.l_take.bd .nil pass0 (pa_cons (pv 0) (pa_cons (pe_op op_add (pe_op op_sub (pv 2) (pv 1)) pe_int) pa_nil)))))))))))
theorem ok_p_class_align (T : Txt K mg a) : FnOk P w K mg base (L2.CX P w) 6 a.p_class_align a.p_class_align_d ["size"] (sp_class_align K a.c) := by
  refine T.p_class_align.fn.okX sc_p_class_align (fun vs H Q E h => ?_) (fun cdv A outer s H vs Q E hr h => ⟨t_p_class_align K a.c E, ?_, pure_class_align  h⟩)
  · repeat' (first | (obtain ⟨e, _⟩ := h; (first | (subst e; rfl) | (rw [e]; rfl))) | (obtain ⟨_, h⟩ := h))
  · exact (pss_cons (ps_expr (pe_call (ok_p_check_class_size T) (hr.mono (by decide)) (by rfl) T.p_check_class_size.gl T.p_check_class_size.fn.kp T.p_check_class_size.bd .nil (passes_call (takes_of rfl rfl rfl rfl) (fun _ _ _ _ h => h)) (pa_cons (pv 0) pa_nil)))
  (pss_one (ps_ret (pe_callB (call_min2 rfl) (by rfl) T.b_min (by decide +kernel) (pa_cons (pe_call (ok_p_power_in T) (hr.mono (by decide)) (by rfl) T.p_power_in.gl T.p_power_in.fn.kp T.p_power_in.bd .nil pass0 (pa_cons (pv 0) pa_nil)) (pa_cons pe_int pa_nil))))))
theorem ok_l_class_ask (T : Txt K mg a) : FnOk P w K mg base CX0 6 a.l_class_ask a.l_class_ask_d ["_law_draws_here"] (sp_class_ask K) := by
  refine T.l_class_ask.fn.ok sc_l_class_ask (fun vs H Q E h => ?_) (fun cdv A outer s H vs Q E hr h => ⟨t_l_class_ask K, ?_, pure_class_ask  h⟩)
  · repeat' (first | (obtain ⟨e, _⟩ := h; (first | (subst e; rfl) | (rw [e]; rfl))) | (obtain ⟨_, h⟩ := h))
  · exact (pss_cons (ps_set (i := 1) sc_l_class_ask.nd rfl (Or.inl rfl) (pe_call (ok_l_among T) (hr.mono (by decide)) (by rfl) T.l_among.gl T.l_among.fn.kp T.l_among.bd .nil pass0 (pa_cons (pv 0) (pa_cons (pe_lst (pa_cons pe_int (pa_cons pe_int (pa_cons pe_int pa_nil)))) pa_nil))))
  (pss_cons (ps_set (i := 2) sc_l_class_ask.nd rfl (Or.inl rfl) (pe_call (ok_l_take T) (hr.mono (by decide)) (by rfl) T.l_take.gl T.l_take.fn.kp T.l_take.bd .nil pass0 (pa_cons (pv 0) (pa_cons pe_int pa_nil))))
  (pss_cons (ps_set (i := 3) sc_l_class_ask.nd rfl (Or.inl rfl) (pe_call (ok_l_between T) (hr.mono (by decide)) (by rfl) T.l_between.gl T.l_between.fn.kp T.l_between.bd .nil pass0 (pa_cons (pv 0) (pa_cons pe_int (pa_cons (pe_op op_add (pe_op op_fdivW (pv 1) pe_int) pe_int) pa_nil)))))
  (pss_cons (ps_if (pt_cmpR op_eq (pv 2) pe_int (nomark _)) (pss_one (ps_set (i := 3) sc_l_class_ask.nd rfl (Or.inl rfl) (pe_callB (call_max2 rfl) (by rfl) T.b_max (by decide +kernel) (pa_cons pe_int (pa_cons (pe_op op_sub (pe_op op_add (pe_call (ok_l_among T) (hr.mono (by decide)) (by rfl) T.l_among.gl T.l_among.fn.kp T.l_among.bd .nil pass0 (pa_cons (pv 0) (pa_cons (pe_call (ok_l_class_sizes T) (hr.mono (by decide)) (by rfl) T.l_class_sizes.gl T.l_class_sizes.fn.kp T.l_class_sizes.bd .nil pass0 (pa_cons pe_int pa_nil)) pa_nil))) (pe_call (ok_l_take T) (hr.mono (by decide)) (by rfl) T.l_take.gl T.l_take.fn.kp T.l_take.bd .nil pass0 (pa_cons (pv 0) (pa_cons pe_int pa_nil)))) pe_int) pa_nil))))) pss_nil)
  (pss_cons (ps_if (pt_cmpR op_eq (pv 2) pe_int (nomark _)) (pss_one (ps_set (i := 3) sc_l_class_ask.nd rfl (Or.inl rfl) (pe_call (ok_l_number T) (hr.mono (by decide)) (by rfl) T.l_number.gl T.l_number.fn.kp T.l_number.bd .nil pass0 (pa_cons (pv 0) (pa_cons pe_int (pa_cons (pe_op op_pow pe_int pe_int) pa_nil)))))) pss_nil)
  (pss_cons (ps_set (i := 4) sc_l_class_ask.nd rfl (Or.inl rfl) (pe_ix ix_list (pe_lst (pa_cons pe_int (pa_cons pe_int (pa_cons pe_int (pa_cons pe_int (pa_cons pe_int pa_nil)))))) (pe_call (ok_l_take T) (hr.mono (by decide)) (by rfl) T.l_take.gl T.l_take.fn.kp T.l_take.bd .nil pass0 (pa_cons (pv 0) (pa_cons pe_int pa_nil))) (fun _ _ => rfl)))
  (pss_cons (ps_if (pt_cmpR op_eq (pv 4) pe_int (nomark _)) (pss_one (ps_set (i := 4) sc_l_class_ask.nd rfl (Or.inl rfl) (pe_call (ok_l_alignment T) (hr.mono (by decide)) (by rfl) T.l_alignment.gl T.l_alignment.fn.kp T.l_alignment.bd .nil pass0 (pa_cons (pv 0) (pa_cons pe_int pa_nil))))) pss_nil)
  (pss_one (ps_ret (pe_tup (pa_cons (pv 1) (pa_cons (pv 3) (pa_cons (pv 4) pa_nil)))))))))))))
theorem ok_p_class_order (T : Txt K mg a) : FnOk P w K mg base (L2.CX P w) 7 a.p_class_order a.p_class_order_d ["width", "size"] (sp_class_order K a.c) := by
  refine T.p_class_order.fn.okX sc_p_class_order (fun vs H Q E h => ?_) (fun cdv A outer s H vs Q E hr h => ⟨t_p_class_order K a.c E, ?_, pure_class_order  h⟩)
  · repeat' (first | (obtain ⟨e, _⟩ := h; (first | (subst e; rfl) | (rw [e]; rfl))) | (obtain ⟨_, h⟩ := h))
  · exact (pss_cons (ps_expr (pe_call (ok_p_check_width T) (hr.mono (by decide)) (by rfl) T.p_check_width.gl T.p_check_width.fn.kp T.p_check_width.bd .nil (passes_call (takes_of rfl rfl rfl rfl) (fun _ _ _ _ h => h)) (pa_cons (pv 0) pa_nil)))
  (pss_cons (ps_expr (pe_call (ok_p_check_class_size T) (hr.mono (by decide)) (by rfl) T.p_check_class_size.gl T.p_check_class_size.fn.kp T.p_check_class_size.bd .nil (passes_call (takes_of rfl rfl rfl rfl) (fun _ _ _ _ h => h)) (pa_cons (pv 1) pa_nil)))
  (pss_cons (ps_set (i := 2) sc_p_class_order.nd rfl (Or.inl rfl) (pe_call (ok_p_class_align T) (hr.mono (by decide)) (by rfl) T.p_class_align.gl T.p_class_align.fn.kp T.p_class_align.bd .nil (passes_call (takes_of rfl rfl rfl rfl) (fun _ _ _ _ h => h)) (pa_cons (pv 1) pa_nil)))
  (pss_cons (ps_set (i := 3) sc_p_class_order.nd rfl (Or.inl rfl) pe_int)
  (pss_cons (ps_set (i := 4) sc_p_class_order.nd rfl (Or.inl rfl) (pe_call (ok_p_slab_shape T) (hr.mono (by decide)) (by rfl) T.p_slab_shape.gl T.p_slab_shape.fn.kp T.p_slab_shape.bd .nil (passes_call (takes_of rfl rfl rfl rfl) (fun _ _ _ _ h => h)) (pa_cons (pv 0) (pa_cons (pv 3) (pa_cons (pv 1) (pa_cons (pv 2) pa_nil))))))
  (pss_cons (ps_while (passes_of rfl) (PW.pt (pw_or (pt_cmpR op_isN (pv 4) pe_non (nomark _)) (pw_or1 (pt_cmpR op_lt (pe_ix ix_tup (pv 4) pe_int (fun _ _ => rfl)) pe_int (nomark _))))) (pss_cons (ps_aug (i := 3) sc_p_class_order.nd rfl (Or.inl rfl) pe_int ip_add)
  (pss_one (ps_set (i := 4) sc_p_class_order.nd rfl (Or.inl rfl) (pe_call (ok_p_slab_shape T) (hr.mono (by decide)) (by rfl) T.p_slab_shape.gl T.p_slab_shape.fn.kp T.p_slab_shape.bd .nil (passes_call (takes_of rfl rfl rfl rfl) (fun _ _ _ _ h => h)) (pa_cons (pv 0) (pa_cons (pv 3) (pa_cons (pv 1) (pa_cons (pv 2) pa_nil)))))))))
  (pss_one (ps_ret (pv 3)))))))))
theorem ok_p_class_of (T : Txt K mg a) : FnOk P w K mg base (L2.CX P w) 7 a.p_class_of a.p_class_of_d ["width", "size", "align"] (sp_class_of K a.c) := by
  refine T.p_class_of.fn.okX sc_p_class_of (fun vs H Q E h => ?_) (fun cdv A outer s H vs Q E hr h => ⟨t_p_class_of K a.c E, ?_, pure_class_of  h⟩)
  · repeat' (first | (obtain ⟨e, _⟩ := h; (first | (subst e; rfl) | (rw [e]; rfl))) | (obtain ⟨_, h⟩ := h))
  · exact (pss_cons (ps_expr (pe_call (ok_p_check_width T) (hr.mono (by decide)) (by rfl) T.p_check_width.gl T.p_check_width.fn.kp T.p_check_width.bd .nil (passes_call (takes_of rfl rfl rfl rfl) (fun _ _ _ _ h => h)) (pa_cons (pv 0) pa_nil)))
  (pss_cons (ps_expr (pe_call (ok_p_check_whole T) (hr.mono (by decide)) (by rfl) T.p_check_whole.gl T.p_check_whole.fn.kp T.p_check_whole.bd .nil (passes_call (takes_of rfl rfl rfl rfl) (fun _ _ _ _ h => h)) (pa_cons (pv 1) (pa_cons pe_int (pa_cons (pe_glob (by rfl) T.g_MOST_SIZE T.r_MOST_SIZE) (pa_cons pe_str pa_nil))))))
  (pss_cons (ps_expr (pe_call (ok_p_check_align T) (hr.mono (by decide)) (by rfl) T.p_check_align.gl T.p_check_align.fn.kp T.p_check_align.bd .nil (passes_call (takes_of rfl rfl rfl rfl) (fun _ _ _ _ h => h)) (pa_cons (pv 2) (pa_cons (pe_glob (by rfl) T.g_MOST_ALIGN_slots T.r_MOST_ALIGN_slots) (pa_cons pe_str pa_nil)))))
  (pss_cons (ps_for (passes_of rfl) rfl (pi_enum (by rfl) T.b_enumerate (pa_cons (pe_call (ok_p_class_sizes T) (hr.mono (by decide)) (by rfl) T.p_class_sizes.gl T.p_class_sizes.fn.kp T.p_class_sizes.bd .nil (passes_call (takes_of rfl rfl rfl rfl) (fun _ _ _ _ h => h)) (pa_cons (pv 0) pa_nil)) pa_nil)) (pg_tup rfl (pgs_cons (pg_name (i := 3) sc_p_class_of.nd rfl (Or.inl rfl)) (pgs_cons (pg_name (i := 4) sc_p_class_of.nd rfl (Or.inl rfl)) pgs_nil))) (pss_one (ps_if (PW.pt (pw_and (pt_cmpR op_ge (pv 4) (pv 1) (nomark _)) (pw_and1 (pt_cmpR op_ge (pe_call (ok_p_class_align T) (hr.mono (by decide)) (by rfl) T.p_class_align.gl T.p_class_align.fn.kp T.p_class_align.bd .nil (passes_call (takes_of rfl rfl rfl rfl) (fun _ _ _ _ h => h)) (pa_cons (pv 4) pa_nil)) (pv 2) (nomark _))))) (pss_one (ps_ret (pv 3))) pss_nil)))
  (pss_one (ps_ret pe_non))))))
theorem ok_l_same (T : Txt K mg a) : ∀ n : Nat, FnOk P w K mg base CX0 (n + 1) a.l_same a.l_same_d ["_law_actual", "_law_expected"] (sp_same n)
  | 0 => fn_false
  | n + 1 => by
    have ih := ok_l_same T n
    refine T.l_same.fn.ok sc_l_same (fun vs H Q E h => ?_) (fun cdv A outer s H vs Q E hr h => ⟨t_l_same K n, ?_, pure_same h⟩)
    · repeat' (first | (obtain ⟨e, _⟩ := h; (first | (subst e; rfl) | (rw [e]; rfl))) | (obtain ⟨_, h⟩ := h))
    · exact (pss_cons (ps_if (PW.pt (pw_or (pt_cmpR op_isN (pv 0) pe_non (nomark _)) (pw_or1 (pt_cmpR op_isN (pv 1) pe_non (nomark _))))) (pss_one (ps_ret (pe_and (pe_cmpR op_isN (pv 0) pe_non (nomark _)) (pe_one (pe_cmpR op_isN (pv 1) pe_non (nomark _)))))) pss_nil)
  (pss_cons (ps_if (PW.pt (pw_or (pt_val (pe_callB call_isi (by rfl) T.b_isinstance (by decide +kernel) (pa_cons (pv 0) (pa_cons (pe_bltn (by rfl) T.b_bool (by decide +kernel) rfl) pa_nil)))) (pw_or1 (pt_val (pe_callB call_isi (by rfl) T.b_isinstance (by decide +kernel) (pa_cons (pv 1) (pa_cons (pe_bltn (by rfl) T.b_bool (by decide +kernel) rfl) pa_nil))))))) (pss_one (ps_ret (pe_and (pe_callB call_isi (by rfl) T.b_isinstance (by decide +kernel) (pa_cons (pv 0) (pa_cons (pe_bltn (by rfl) T.b_bool (by decide +kernel) rfl) pa_nil))) (pe_and (pe_callB call_isi (by rfl) T.b_isinstance (by decide +kernel) (pa_cons (pv 1) (pa_cons (pe_bltn (by rfl) T.b_bool (by decide +kernel) rfl) pa_nil))) (pe_one (pe_cmpR op_eq (pv 0) (pv 1) (nomark _))))))) pss_nil)
  (pss_cons (ps_if (pt_val (pe_callB call_isi (by rfl) T.b_isinstance (by decide +kernel) (pa_cons (pv 1) (pa_cons (pe_bltn (by rfl) T.b_int (by decide +kernel) rfl) pa_nil)))) (pss_one (ps_ret (pe_and (pe_callB call_isi (by rfl) T.b_isinstance (by decide +kernel) (pa_cons (pv 0) (pa_cons (pe_bltn (by rfl) T.b_int (by decide +kernel) rfl) pa_nil))) (pe_one (pe_cmpR op_eq (pv 0) (pv 1) (nomark _)))))) pss_nil)
  (pss_cons (ps_if (pt_val (pe_callB call_isi (by rfl) T.b_isinstance (by decide +kernel) (pa_cons (pv 1) (pa_cons (pe_bltn (by rfl) T.b_str (by decide +kernel) rfl) pa_nil)))) (pss_one (ps_ret (pe_and (pe_callB call_isi (by rfl) T.b_isinstance (by decide +kernel) (pa_cons (pv 0) (pa_cons (pe_bltn (by rfl) T.b_str (by decide +kernel) rfl) pa_nil))) (pe_one (pe_cmpR op_eq (pv 0) (pv 1) (nomark _)))))) pss_nil)
  (pss_cons (ps_if (pt_val (pe_callB call_isi (by rfl) T.b_isinstance (by decide +kernel) (pa_cons (pv 1) (pa_cons (pe_bltn (by rfl) T.b_dict (by decide +kernel) rfl) pa_nil)))) (pss_cons (ps_if (PW.pt (pw_or (pt_not (pt_val (pe_callB call_isi (by rfl) T.b_isinstance (by decide +kernel) (pa_cons (pv 0) (pa_cons (pe_bltn (by rfl) T.b_dict (by decide +kernel) rfl) pa_nil))))) (pw_or1 (pt_cmpR op_ne (pe_callB call_lenD (by rfl) T.b_len (by decide +kernel) (pa_cons (pv 0) pa_nil)) (pe_callB call_lenD (by rfl) T.b_len (by decide +kernel) (pa_cons (pv 1) pa_nil)) (nomark _))))) (pss_one (ps_ret pe_bl)) pss_nil)
  (pss_cons (ps_for PassesOwn.never rfl (pi_list (pe_callTy (call_listD rfl) (by rfl) T.b_list (by decide +kernel) (pa_cons (pv 1) pa_nil))) (pg_name (i := 2) sc_l_same.nd rfl (Or.inl rfl)) (pss_one (ps_if (PW.pt (pw_or (pt_cmp (pc_dnotin (hu_of hr) (pv 2) (pv 0))) (pw_or1 (pt_not (pt_val (pe_call ih (hr.mono (by omega)) (by rfl) T.l_same.gl T.l_same.fn.kp T.l_same.bd .nil pass0 (pa_cons (pe_dget (hu_of hr) (pv 0) (pv 2) (fun _ _ => rfl)) (pa_cons (pe_dget (hu_of hr) (pv 1) (pv 2) (fun _ _ => rfl)) pa_nil)))))))) (pss_one (ps_ret pe_bl)) pss_nil)))
  (pss_one (ps_ret pe_bl)))) pss_nil)
  (pss_cons (ps_if (pt_cmpR op_ne (pe_callB call_isi (by rfl) T.b_isinstance (by decide +kernel) (pa_cons (pv 1) (pa_cons (pe_bltn (by rfl) T.b_list (by decide +kernel) rfl) pa_nil))) (pe_callB call_isi (by rfl) T.b_isinstance (by decide +kernel) (pa_cons (pv 0) (pa_cons (pe_bltn (by rfl) T.b_list (by decide +kernel) rfl) pa_nil))) (nomark _)) (pss_one (ps_ret pe_bl)) pss_nil)
  (pss_cons (ps_if (pt_cmpR op_ne (pe_callB call_isi (by rfl) T.b_isinstance (by decide +kernel) (pa_cons (pv 1) (pa_cons (pe_bltn (by rfl) T.b_tuple (by decide +kernel) rfl) pa_nil))) (pe_callB call_isi (by rfl) T.b_isinstance (by decide +kernel) (pa_cons (pv 0) (pa_cons (pe_bltn (by rfl) T.b_tuple (by decide +kernel) rfl) pa_nil))) (nomark _)) (pss_one (ps_ret pe_bl)) pss_nil)
  (pss_cons (ps_if (PW.pt (pw_or (PW.pt (pw_and (pt_not (pt_val (pe_callB call_isi (by rfl) T.b_isinstance (by decide +kernel) (pa_cons (pv 1) (pa_cons (pe_bltn (by rfl) T.b_list (by decide +kernel) rfl) pa_nil))))) (pw_and1 (pt_not (pt_val (pe_callB call_isi (by rfl) T.b_isinstance (by decide +kernel) (pa_cons (pv 1) (pa_cons (pe_bltn (by rfl) T.b_tuple (by decide +kernel) rfl) pa_nil)))))))) (pw_or1 (pt_cmpR op_ne (pe_callB call_len (by rfl) T.b_len (by decide +kernel) (pa_cons (pv 0) pa_nil)) (pe_callB call_len (by rfl) T.b_len (by decide +kernel) (pa_cons (pv 1) pa_nil)) (nomark _))))) (pss_one (ps_ret pe_bl)) pss_nil)
  (pss_cons (ps_for PassesOwn.never rfl (pi_range1 (by rfl) T.b_range (pa_cons (pe_callB call_len (by rfl) T.b_len (by decide +kernel) (pa_cons (pv 1) pa_nil)) pa_nil)) (pg_name (i := 3) sc_l_same.nd rfl (Or.inl rfl)) (pss_one (ps_if (pt_not (pt_val (pe_call ih (hr.mono (by omega)) (by rfl) T.l_same.gl T.l_same.fn.kp T.l_same.bd .nil pass0 (pa_cons (pe_ix ix_seq (pv 0) (pv 3) (fun _ _ => rfl)) (pa_cons (pe_ix ix_seq (pv 1) (pv 3) (fun _ _ => rfl)) pa_nil))))) (pss_one (ps_ret pe_bl)) pss_nil)))
  (pss_one (ps_ret pe_bl)))))))))))
theorem ok_l_is_order (T : Txt K mg a) : FnOk P w K mg base CX0 7 a.l_is_order a.l_is_order_d ["_law_page_width", "_law_size", "_law_told"] (sp_is_order K a.c) := by
  refine T.l_is_order.fn.ok sc_l_is_order (fun vs H Q E h => ?_) (fun cdv A outer s H vs Q E hr h => ⟨t_l_is_order K a.c, ?_, pure_is_order  h⟩)
  · repeat' (first | (obtain ⟨e, _⟩ := h; (first | (subst e; rfl) | (rw [e]; rfl))) | (obtain ⟨_, h⟩ := h))
  · exact (pss_cons (ps_set (i := 3) sc_l_is_order.nd rfl (Or.inl rfl) (pe_call (ok_p_class_align T) (hr.mono (by decide)) (by rfl) T.p_class_align.gl T.p_class_align.fn.kp T.p_class_align.bd .nil passL (pa_cons (pv 1) pa_nil)))
  (pss_cons (ps_if (PW.pt (pw_or (pt_not (pt_val (pe_call (ok_l_is_grain T) (hr.mono (by decide)) (by rfl) T.l_is_grain.gl T.l_is_grain.fn.kp T.l_is_grain.bd .nil pass0 (pa_cons (pv 1) (pa_cons (pv 3) pa_nil))))) (pw_or1 (pt_not (pt_val (pe_call (ok_l_is_within T) (hr.mono (by decide)) (by rfl) T.l_is_within.gl T.l_is_within.fn.kp T.l_is_within.bd .nil pass0 (pa_cons (pv 2) (pa_cons pe_int (pa_cons pe_int pa_nil))))))))) (pss_one (ps_ret pe_bl)) pss_nil)
  (pss_cons (ps_if (PW.pt (pw_or (pt_not (pt_val (pe_call (ok_l_two_fit T) (hr.mono (by decide)) (by rfl) T.l_two_fit.gl T.l_two_fit.fn.kp T.l_two_fit.bd .nil pass0 (pa_cons (pv 0) (pa_cons (pv 2) (pa_cons (pv 1) (pa_cons (pv 3) pa_nil))))))) (pw_or1 (pt_val (pe_call (ok_l_two_fit T) (hr.mono (by decide)) (by rfl) T.l_two_fit.gl T.l_two_fit.fn.kp T.l_two_fit.bd .nil pass0 (pa_cons (pv 0) (pa_cons (pe_op op_sub (pv 2) pe_int) (pa_cons (pv 1) (pa_cons (pv 3) pa_nil))))))))) (pss_one (ps_ret pe_bl)) pss_nil)
  (pss_cons (ps_set (i := 4) sc_l_is_order.nd rfl (Or.inl rfl) (pe_call (ok_p_slab_shape T) (hr.mono (by decide)) (by rfl) T.p_slab_shape.gl T.p_slab_shape.fn.kp T.p_slab_shape.bd .nil passL (pa_cons (pv 0) (pa_cons (pv 2) (pa_cons (pv 1) (pa_cons (pv 3) pa_nil))))))
  (pss_cons (ps_if (PW.pt (pw_or (pt_not (pt_val (pe_call (ok_l_is_ints T) (hr.mono (by decide)) (by rfl) T.l_is_ints.gl T.l_is_ints.fn.kp T.l_is_ints.bd .nil pass0 (pa_cons (pv 4) (pa_cons pe_bl (pa_cons pe_int pa_nil)))))) (pw_or1 (pt_cmpR op_lt (pe_ix ix_tup (pv 4) pe_int (fun _ _ => rfl)) pe_int (nomark _))))) (pss_one (ps_ret pe_bl)) pss_nil)
  (pss_cons (ps_if (pt_cmpR op_eq (pv 2) pe_int (nomark _)) (pss_one (ps_ret pe_bl)) pss_nil)
  (pss_cons (ps_set (i := 4) sc_l_is_order.nd rfl (Or.inl rfl) (pe_call (ok_p_slab_shape T) (hr.mono (by decide)) (by rfl) T.p_slab_shape.gl T.p_slab_shape.fn.kp T.p_slab_shape.bd .nil passL (pa_cons (pv 0) (pa_cons (pe_op op_sub (pv 2) pe_int) (pa_cons (pv 1) (pa_cons (pv 3) pa_nil))))))
  (pss_one (ps_ret (pe_or (pe_cmpR op_isN (pv 4) pe_non (nomark _)) (pe_one (pe_and (pe_call (ok_l_is_ints T) (hr.mono (by decide)) (by rfl) T.l_is_ints.gl T.l_is_ints.fn.kp T.l_is_ints.bd .nil pass0 (pa_cons (pv 4) (pa_cons pe_bl (pa_cons pe_int pa_nil)))) (pe_one (pe_cmpR op_eq (pe_ix ix_tup (pv 4) pe_int (fun _ _ => rfl)) pe_int (nomark _)))))))))))))))
theorem ok_l_is_class (T : Txt K mg a) : FnOk P w K mg base CX0 7 a.l_is_class a.l_is_class_d ["_law_sizes", "_law_size", "_law_alignment_here", "_law_told"] (sp_is_class K a.c) := by
  refine T.l_is_class.fn.ok sc_l_is_class (fun vs H Q E h => ?_) (fun cdv A outer s H vs Q E hr h => ⟨t_l_is_class K a.c, ?_, pure_is_class  h⟩)
  · repeat' (first | (obtain ⟨e, _⟩ := h; (first | (subst e; rfl) | (rw [e]; rfl))) | (obtain ⟨_, h⟩ := h))
  · exact (pss_cons (ps_if (PW.pt (pw_and (pt_cmpR op_notN (pv 3) pe_non (nomark _)) (pw_and1 (pt_not (pt_val (pe_call (ok_l_is_within T) (hr.mono (by decide)) (by rfl) T.l_is_within.gl T.l_is_within.fn.kp T.l_is_within.bd .nil pass0 (pa_cons (pv 3) (pa_cons pe_int (pa_cons (pe_op op_sub (pe_callB call_len (by rfl) T.b_len (by decide +kernel) (pa_cons (pv 0) pa_nil)) pe_int) pa_nil))))))))) (pss_one (ps_ret pe_bl)) pss_nil)
  (pss_cons (ps_for PassesOwn.never rfl (pi_range1 (by rfl) T.b_range (pa_cons (pe_callB call_len (by rfl) T.b_len (by decide +kernel) (pa_cons (pv 0) pa_nil)) pa_nil)) (pg_name (i := 4) sc_l_is_class.nd rfl (Or.inl rfl)) (pss_cons (ps_set (i := 5) sc_l_is_class.nd rfl (Or.inl rfl) (pe_and (pe_cmpR op_ge (pe_ix ix_list (pv 0) (pv 4) (fun _ _ => rfl)) (pv 1) (nomark _)) (pe_one (pe_cmpR op_ge (pe_call (ok_p_class_align T) (hr.mono (by decide)) (by rfl) T.p_class_align.gl T.p_class_align.fn.kp T.p_class_align.bd .nil passL (pa_cons (pe_ix ix_list (pv 0) (pv 4) (fun _ _ => rfl)) pa_nil)) (pv 2) (nomark _)))))
  (pss_one (ps_if (PW.pt (pw_or (pt_cmpR op_isN (pv 3) pe_non (nomark _)) (pw_or1 (pt_cmpR op_lt (pv 4) (pv 3) (nomark _))))) (pss_one (ps_if (pt_val (pv 5)) (pss_one (ps_ret pe_bl)) pss_nil)) (pss_one (ps_if (PW.pt (pw_and (pt_cmpR op_eq (pv 4) (pv 3) (nomark _)) (pw_and1 (pt_not (pt_val (pv 5)))))) (pss_one (ps_ret pe_bl)) pss_nil))))))
  (pss_one (ps_ret pe_bl))))
theorem ok_l_not_among (T : Txt K mg a) : FnOk P w K mg base CX0 8 a.l_not_among a.l_not_among_d ["_law_draws_here", "_law_row"] (sp_not_among K) := by
  refine T.l_not_among.fn.ok sc_l_not_among (fun vs H Q E h => ?_) (fun cdv A outer s H vs Q E hr h => ⟨t_l_not_among K, ?_, pure_not_among  h⟩)
  · repeat' (first | (obtain ⟨e, _⟩ := h; (first | (subst e; rfl) | (rw [e]; rfl))) | (obtain ⟨_, h⟩ := h))
  · exact (pss_cons (ps_set (i := 2) sc_l_not_among.nd rfl (Or.inl rfl) (pe_lst pa_nil))
  (pss_cons (ps_for PassesOwn.never rfl (pi_list (pe_lst (pa_cons (pe_un un_neg pe_int) (pa_cons pe_int (pa_cons pe_int (pa_cons pe_int (pa_cons pe_int (pa_cons pe_int (pa_cons pe_int (pa_cons pe_int (pa_cons pe_int (pa_cons pe_int (pa_cons pe_bl (pa_cons pe_bl (pa_cons pe_non (pa_cons pe_str (pa_cons pe_str (pa_cons pe_str (pa_cons (pe_lst pa_nil) (pa_cons (pe_tup pa_nil) (pa_cons (pe_lst (pa_cons pe_int pa_nil)) (pa_cons (pe_tup (pa_cons pe_str pa_nil)) pa_nil)))))))))))))))))))))) (pg_name (i := 3) sc_l_not_among.nd rfl (Or.inl rfl)) (pss_cons (ps_set (i := 4) sc_l_not_among.nd rfl (Or.inl rfl) pe_bl)
  (pss_cons (ps_for PassesOwn.never rfl (pi_list (pv 1)) (pg_name (i := 5) sc_l_not_among.nd rfl (Or.inl rfl)) (pss_one (ps_if (pt_val (pe_call (ok_l_same T 6) (hr.mono (by decide)) (by rfl) T.l_same.gl T.l_same.fn.kp T.l_same.bd .nil pass0 (pa_cons (pv 3) (pa_cons (pv 5) pa_nil)))) (pss_one (ps_set (i := 4) sc_l_not_among.nd rfl (Or.inl rfl) pe_bl)) pss_nil)))
  (pss_one (ps_if (pt_not (pt_val (pv 4))) (pss_one (ps_expr (pe_bm PySem.F.plainAttrs_list PySem.F.slot_list_append PySem.F.type_list_append mt_append (pv 2) (pa_cons (pv 3) pa_nil)))) pss_nil)))))
  (pss_one (ps_ret (pe_call (ok_l_among T) (hr.mono (by decide)) (by rfl) T.l_among.gl T.l_among.fn.kp T.l_among.bd .nil pass0 (pa_cons (pv 0) (pa_cons (pv 2) pa_nil)))))))
theorem ok_l_refusal (T : Txt K mg a) : FnOk P w K mg base CX0 8 a.l_refusal a.l_refusal_d ["_law_name", "_law_row"] (sp_refusal26 K a.c) := by
  refine T.l_refusal.fn.ok sc_l_refusal (fun vs H Q E h => ?_) (fun cdv A outer s H vs Q E hr h => ⟨t_l_refusal K a.c, ?_, pure_refusal  h⟩)
  · repeat' (first | (obtain ⟨e, _⟩ := h; (first | (subst e; rfl) | (rw [e]; rfl))) | (obtain ⟨_, h⟩ := h))
  · exact (pss_one (ps_try_asT (i := 2) (tb := fun W => (tSeq (tIfS (tTest (tOp rEq (tVar 0) (tC (.str "sizes")))) (tRet (tTup (tCons (tC (.str "done")) (tCons (tCallS (sp_class_sizes K a.c) (WE W) (tCons (tOp (rIxL K) (tVar 1) (tC (.int 0))) tNil)) tNil)))) tNext)
  (tSeq (tIfS (tTest (tOp rEq (tVar 0) (tC (.str "align")))) (tRet (tTup (tCons (tC (.str "done")) (tCons (tCallS (sp_class_align K a.c) (WE W) (tCons (tOp (rIxL K) (tVar 1) (tC (.int 1))) tNil)) tNil)))) tNext)
  (tSeq (tIfS (tTest (tOp rEq (tVar 0) (tC (.str "order")))) (tRet (tTup (tCons (tC (.str "done")) (tCons (tCallS (sp_class_order K a.c) (WE W) (tCons (tOp (rIxL K) (tVar 1) (tC (.int 0))) (tCons (tOp (rIxL K) (tVar 1) (tC (.int 1))) tNil))) tNil)))) tNext)
  (tRet (tTup (tCons (tC (.str "done")) (tCons (tCallS (sp_class_of K a.c) (WE W) (tCons (tOp (rIxL K) (tVar 1) (tC (.int 0))) (tCons (tOp (rIxL K) (tVar 1) (tC (.int 1))) (tCons (tOp (rIxL K) (tVar 1) (tC (.int 2))) tNil)))) tNil)))))))) (ts := (tSeq (tAsg (tTup (tCons (tCB (rIsX K) (tCons (tVar 2) (tCons (tC (.ref a.c.k_StoreError)) tNil))) (tCons (tCB (rIsX K) (tCons (tVar 2) (tCons (tC (.ty "ValueError")) tNil))) (tCons (tCB (rIsX K) (tCons (tVar 2) (tCons (tC (.ref a.c.k_Unknown)) tNil))) tNil)))) (gName 3))
  (tRet (tTup (tCons (tC (.str "BadValue")) (tCons (tXt K "parameter" (tVar 2)) (tCons (tXt K "told" (tVar 2)) (tCons (tVar 3) tNil)))))))) (Wout := (fun _ _ _ _ => False)) rfl rfl rfl sc_l_refusal.nd rfl rfl ⟨rfl, by decide, Or.inl T.k_BadValue⟩ takes0
  (fun W pn xe tk _ => (pss_cons (ps_if (pt_cmpR op_eq (pv 0) pe_str (nomark _)) (pss_one (ps_ret (pe_tup (pa_cons pe_str (pa_cons (pe_callS (ok_p_class_sizes T) (hr.mono (by decide)) (by rfl) T.p_class_sizes.gl T.p_class_sizes.fn.kp T.p_class_sizes.bd (fun σ => passAt tk σ) (pa_cons (pe_ix ix_list (pv 1) pe_int (fun _ _ => rfl)) pa_nil)) pa_nil))))) pss_nil)
  (pss_cons (ps_if (pt_cmpR op_eq (pv 0) pe_str (nomark _)) (pss_one (ps_ret (pe_tup (pa_cons pe_str (pa_cons (pe_callS (ok_p_class_align T) (hr.mono (by decide)) (by rfl) T.p_class_align.gl T.p_class_align.fn.kp T.p_class_align.bd (fun σ => passAt tk σ) (pa_cons (pe_ix ix_list (pv 1) pe_int (fun _ _ => rfl)) pa_nil)) pa_nil))))) pss_nil)
  (pss_cons (ps_if (pt_cmpR op_eq (pv 0) pe_str (nomark _)) (pss_one (ps_ret (pe_tup (pa_cons pe_str (pa_cons (pe_callS (ok_p_class_order T) (hr.mono (by decide)) (by rfl) T.p_class_order.gl T.p_class_order.fn.kp T.p_class_order.bd (fun σ => passAt tk σ) (pa_cons (pe_ix ix_list (pv 1) pe_int (fun _ _ => rfl)) (pa_cons (pe_ix ix_list (pv 1) pe_int (fun _ _ => rfl)) pa_nil))) pa_nil))))) pss_nil)
  (pss_one (ps_ret (pe_tup (pa_cons pe_str (pa_cons (pe_callS (ok_p_class_of T) (hr.mono (by decide)) (by rfl) T.p_class_of.gl T.p_class_of.fn.kp T.p_class_of.bd (fun σ => passAt tk σ) (pa_cons (pe_ix ix_list (pv 1) pe_int (fun _ _ => rfl)) (pa_cons (pe_ix ix_list (pv 1) pe_int (fun _ _ => rfl)) (pa_cons (pe_ix ix_list (pv 1) pe_int (fun _ _ => rfl)) pa_nil)))) pa_nil)))))))))
  (fun _ _ => (pss_cons (ps_set (i := 3) sc_l_refusal.nd rfl (Or.inl rfl) (pe_tup (pa_cons (pe_callB call_isX (by rfl) T.b_isinstance (by decide +kernel) (pa_cons (pv 2) (pa_cons (pe_glob (by rfl) T.k_StoreError rfl) pa_nil))) (pa_cons (pe_callB call_isX (by rfl) T.b_isinstance (by decide +kernel) (pa_cons (pv 2) (pa_cons (pe_bltn (by rfl) T.b_ValueError (by decide +kernel) rfl) pa_nil))) (pa_cons (pe_callB call_isX (by rfl) T.b_isinstance (by decide +kernel) (pa_cons (pv 2) (pa_cons (pe_glob (by rfl) T.k_Unknown rfl) pa_nil))) pa_nil)))))
  (pss_one (ps_ret (pe_tup (pa_cons pe_str (pa_cons (pe_xt (pv 2)) (pa_cons (pe_xt (pv 2)) (pa_cons (pv 3) pa_nil)))))))))))
theorem ok_l_refuses (T : Txt K mg a) : FnOk P w K mg base CX0 9 a.l_refuses a.l_refuses_d ["_law_draws_here", "_law_ask"] (sp_refuses26 K a.c) := by
  refine T.l_refuses.fn.ok sc_l_refuses (fun vs H Q E h => ?_) (fun cdv A outer s H vs Q E hr h => ⟨t_l_refuses K a.c, ?_, pure_refuses  h⟩)
  · repeat' (first | (obtain ⟨e, _⟩ := h; (first | (subst e; rfl) | (rw [e]; rfl))) | (obtain ⟨_, h⟩ := h))
  · exact (pss_cons (ps_set (i := 2) sc_l_refuses.nd rfl (Or.inl rfl) (pe_lst (pa_cons (pe_ix ix_tup (pv 1) pe_int (fun _ _ => rfl)) (pa_cons (pe_call (ok_l_among T) (hr.mono (by decide)) (by rfl) T.l_among.gl T.l_among.fn.kp T.l_among.bd .nil pass0 (pa_cons (pv 0) (pa_cons (pe_call (ok_l_class_sizes T) (hr.mono (by decide)) (by rfl) T.l_class_sizes.gl T.l_class_sizes.fn.kp T.l_class_sizes.bd .nil pass0 (pa_cons pe_int pa_nil)) pa_nil))) (pa_cons (pe_ix ix_tup (pv 1) pe_int (fun _ _ => rfl)) pa_nil)))))
  (pss_cons (ps_set (i := 3) sc_l_refuses.nd rfl (Or.inl rfl) (pe_call (ok_l_take T) (hr.mono (by decide)) (by rfl) T.l_take.gl T.l_take.fn.kp T.l_take.bd .nil pass0 (pa_cons (pv 0) (pa_cons pe_int pa_nil))))
  (pss_cons (ps_set (i := 4) sc_l_refuses.nd rfl (Or.inl rfl) (pe_ix ix_list (pe_lst (pa_cons pe_str (pa_cons pe_str (pa_cons pe_str (pa_cons pe_str (pa_cons pe_str (pa_cons pe_str (pa_cons pe_str pa_nil)))))))) (pv 3) (fun _ _ => rfl)))
  (pss_cons (ps_set (i := 5) sc_l_refuses.nd rfl (Or.inl rfl) (pe_ix ix_list (pe_lst (pa_cons pe_int (pa_cons pe_int (pa_cons pe_int (pa_cons pe_int (pa_cons pe_int (pa_cons pe_int (pa_cons pe_int pa_nil)))))))) (pv 3) (fun _ _ => rfl)))
  (pss_cons (ps_if (pt_cmpR op_eq (pv 4) pe_str (nomark _)) (pss_one (ps_asg (pe_ix ix_tup (pv 1) pe_int (fun _ _ => rfl)) (pg_sub (pv 2) pe_int set_list))) pss_nil)
  (pss_cons (ps_if (pt_cmpR op_eq (pv 5) pe_int (nomark _)) (pss_one (ps_asg (pe_call (ok_l_not_among T) (hr.mono (by decide)) (by rfl) T.l_not_among.gl T.l_not_among.fn.kp T.l_not_among.bd .nil pass0 (pa_cons (pv 0) (pa_cons (pe_lst (pa_cons pe_int (pa_cons pe_int (pa_cons pe_int pa_nil)))) pa_nil))) (pg_sub (pv 2) pe_int set_list))) pss_nil)
  (pss_cons (ps_if (PW.pt (pw_and (pt_cmpR op_eq (pv 5) pe_int (nomark _)) (pw_and1 (pt_cmpR op_eq (pv 4) pe_str (nomark _))))) (pss_one (ps_asg (pe_call (ok_l_not_within T) (hr.mono (by decide)) (by rfl) T.l_not_within.gl T.l_not_within.fn.kp T.l_not_within.bd .nil pass0 (pa_cons (pv 0) (pa_cons pe_int (pa_cons (pe_op op_pow pe_int pe_int) pa_nil)))) (pg_sub (pv 2) pe_int set_list))) pss_nil)
  (pss_cons (ps_if (PW.pt (pw_and (pt_cmpR op_eq (pv 5) pe_int (nomark _)) (pw_and1 (pt_cmpR op_ne (pv 4) pe_str (nomark _))))) (pss_one (ps_asg (pe_call (ok_l_not_among T) (hr.mono (by decide)) (by rfl) T.l_not_among.gl T.l_not_among.fn.kp T.l_not_among.bd .nil pass0 (pa_cons (pv 0) (pa_cons (pe_call (ok_l_class_sizes T) (hr.mono (by decide)) (by rfl) T.l_class_sizes.gl T.l_class_sizes.fn.kp T.l_class_sizes.bd .nil pass0 (pa_cons pe_int pa_nil)) pa_nil))) (pg_sub (pv 2) pe_int set_list))) pss_nil)
  (pss_cons (ps_if (pt_cmpR op_eq (pv 5) pe_int (nomark _)) (pss_one (ps_asg (pe_call (ok_l_not_alignment T) (hr.mono (by decide)) (by rfl) T.l_not_alignment.gl T.l_not_alignment.fn.kp T.l_not_alignment.bd .nil pass0 (pa_cons (pv 0) (pa_cons (pe_op op_pow pe_int pe_int) pa_nil))) (pg_sub (pv 2) pe_int set_list))) pss_nil)
  (pss_cons (ps_if (PW.pt (pw_and (pt_cmpR op_eq (pv 5) pe_int (nomark _)) (pw_and1 (pt_cmpR op_eq (pe_call (ok_l_take T) (hr.mono (by decide)) (by rfl) T.l_take.gl T.l_take.fn.kp T.l_take.bd .nil pass0 (pa_cons (pv 0) (pa_cons pe_int pa_nil))) pe_int (nomark _))))) (pss_one (ps_asg pe_int (pg_sub (pv 2) pe_int set_list))) pss_nil)
  (pss_cons (ps_if (PW.pt (pw_and (pt_cmpR op_lt (pv 5) pe_int (nomark _)) (pw_and1 (pt_cmpR op_eq (pe_call (ok_l_take T) (hr.mono (by decide)) (by rfl) T.l_take.gl T.l_take.fn.kp T.l_take.bd .nil pass0 (pa_cons (pv 0) (pa_cons pe_int pa_nil))) pe_int (nomark _))))) (pss_one (ps_asg (pe_un un_neg pe_int) (pg_sub (pv 2) pe_int set_list))) pss_nil)
  (pss_cons (ps_set (i := 6) sc_l_refuses.nd rfl (Or.inl rfl) (pe_ix ix_list (pe_lst (pa_cons pe_str (pa_cons pe_str (pa_cons pe_str pa_nil)))) (pv 5) (fun _ _ => rfl)))
  (pss_cons (ps_set (i := 7) sc_l_refuses.nd rfl (Or.inl rfl) (pe_tup (pa_cons pe_str (pa_cons (pv 6) (pa_cons (pe_tup (pa_cons pe_str (pa_cons (pe_tup (pa_cons (pv 6) pa_nil)) pa_nil))) (pa_cons (pe_tup (pa_cons pe_bl (pa_cons pe_bl (pa_cons pe_bl pa_nil)))) pa_nil))))))
  (pss_one (ps_ret (pe_call (ok_l_same T 6) (hr.mono (by decide)) (by rfl) T.l_same.gl T.l_same.fn.kp T.l_same.bd .nil pass0 (pa_cons (pe_call (ok_l_refusal T) (hr.mono (by decide)) (by rfl) T.l_refusal.gl T.l_refusal.fn.kp T.l_refusal.bd .nil pass0 (pa_cons (pv 4) (pa_cons (pv 2) pa_nil))) (pa_cons (pv 7) pa_nil))))))))))))))))))
theorem ok_l_law (T : Txt K mg a) : FnOk P w K mg base CX0 10 a.l_law a.l_law_d ["_law_script"] (sp_law26 K a.c) := by
  refine T.l_law.fn.ok sc_l_law (fun vs H Q E h => ?_) (fun cdv A outer s H vs Q E hr h => ⟨t_l_law K a.c, ?_, pure_law26  h⟩)
  · repeat' (first | (obtain ⟨e, _⟩ := h; (first | (subst e; rfl) | (rw [e]; rfl))) | (obtain ⟨_, h⟩ := h))
  · exact (pss_cons (ps_set (i := 1) sc_l_law.nd rfl (Or.inl rfl) (pe_call (ok_l_draws T) (hr.mono (by decide)) (by rfl) T.l_draws.gl T.l_draws.fn.kp T.l_draws.bd .nil pass0 (pa_cons (pv 0) pa_nil)))
  (pss_cons (ps_set (i := 2) sc_l_law.nd rfl (Or.inl rfl) (pe_lst (pa_cons (pe_call (ok_l_class_ask T) (hr.mono (by decide)) (by rfl) T.l_class_ask.gl T.l_class_ask.fn.kp T.l_class_ask.bd .nil pass0 (pa_cons (pv 1) pa_nil)) (pa_cons (pe_call (ok_l_class_ask T) (hr.mono (by decide)) (by rfl) T.l_class_ask.gl T.l_class_ask.fn.kp T.l_class_ask.bd .nil pass0 (pa_cons (pv 1) pa_nil)) pa_nil))))
  (pss_cons (ps_for PassesOwn.never rfl (pi_list (pe_op op_cat (pv 2) (pv 2))) (pg_tup rfl (pgs_cons (pg_name (i := 3) sc_l_law.nd rfl (Or.inl rfl)) (pgs_cons (pg_name (i := 4) sc_l_law.nd rfl (Or.inl rfl)) (pgs_cons (pg_name (i := 5) sc_l_law.nd rfl (Or.inl rfl)) pgs_nil)))) (pss_cons (ps_set (i := 6) sc_l_law.nd rfl (Or.inl rfl) (pe_call (ok_p_class_sizes T) (hr.mono (by decide)) (by rfl) T.p_class_sizes.gl T.p_class_sizes.fn.kp T.p_class_sizes.bd .nil passL (pa_cons (pv 3) pa_nil)))
  (pss_cons (ps_if (pt_not (pt_val (pe_call (ok_l_same T 6) (hr.mono (by decide)) (by rfl) T.l_same.gl T.l_same.fn.kp T.l_same.bd .nil pass0 (pa_cons (pv 6) (pa_cons (pe_call (ok_l_class_sizes T) (hr.mono (by decide)) (by rfl) T.l_class_sizes.gl T.l_class_sizes.fn.kp T.l_class_sizes.bd .nil pass0 (pa_cons (pv 3) pa_nil)) pa_nil))))) (pss_one (ps_ret pe_bl)) pss_nil)
  (pss_cons (ps_set (i := 7) sc_l_law.nd rfl (Or.inl rfl) (pe_call (ok_p_class_of T) (hr.mono (by decide)) (by rfl) T.p_class_of.gl T.p_class_of.fn.kp T.p_class_of.bd .nil passL (pa_cons (pv 3) (pa_cons (pv 4) (pa_cons (pv 5) pa_nil)))))
  (pss_cons (ps_if (pt_not (pt_val (pe_call (ok_l_is_class T) (hr.mono (by decide)) (by rfl) T.l_is_class.gl T.l_is_class.fn.kp T.l_is_class.bd .nil pass0 (pa_cons (pv 6) (pa_cons (pv 4) (pa_cons (pv 5) (pa_cons (pv 7) pa_nil))))))) (pss_one (ps_ret pe_bl)) pss_nil)
  (pss_cons (ps_expr (pe_bm PySem.F.plainAttrs_list PySem.F.slot_list_append PySem.F.type_list_append mt_append (pv 6) (pa_cons pe_int pa_nil)))
  (pss_cons (ps_asg pe_int (pg_sub (pv 6) pe_int set_list))
  (pss_one (ps_for PassesOwn.never rfl (pi_list (pe_call (ok_l_class_sizes T) (hr.mono (by decide)) (by rfl) T.l_class_sizes.gl T.l_class_sizes.fn.kp T.l_class_sizes.bd .nil pass0 (pa_cons pe_int pa_nil))) (pg_name (i := 8) sc_l_law.nd rfl (Or.inl rfl)) (pss_one (ps_if (pt_not (pt_val (pe_call (ok_l_is_order T) (hr.mono (by decide)) (by rfl) T.l_is_order.gl T.l_is_order.fn.kp T.l_is_order.bd .nil pass0 (pa_cons (pv 3) (pa_cons (pv 8) (pa_cons (pe_call (ok_p_class_order T) (hr.mono (by decide)) (by rfl) T.p_class_order.gl T.p_class_order.fn.kp T.p_class_order.bd .nil passL (pa_cons (pv 3) (pa_cons (pv 8) pa_nil))) pa_nil)))))) (pss_one (ps_ret pe_bl)) pss_nil)))))))))))
  (pss_one (ps_ret (pe_call (ok_l_refuses T) (hr.mono (by decide)) (by rfl) T.l_refuses.gl T.l_refuses.fn.kp T.l_refuses.bd .nil pass0 (pa_cons (pv 1) (pa_cons (pe_ix ix_list (pv 2) pe_int (fun _ _ => rfl)) pa_nil))))))))
end
/-- the facts of the top, gathered -/
theorem all_mk {P : Program} {w : World} {K : PySem.W.Frag} {h : Heap} {mg : Str → Option Value} {fa : Addr} (X : K.In h) (G : h.Ns mainGlobals mg) (hfa : mg "law" = some (.ref fa))
    {C_StoreError C_BadValue C_Unknown f_c_BadValue_init f_p_is_whole f_p_whole_between f_p_is_power f_p_is_align f_p_align_up f_p_power_in f_p_check_whole f_p_check_align f_p_check_width f_p_check_class_size f_p_slab_shape f_p_class_sizes f_p_class_align f_p_class_order f_p_class_of f_l_draws f_l_next_cell f_l_mixed f_l_take f_l_among f_l_between f_l_number f_l_alignment f_l_power f_l_up f_l_long f_l_not_integer f_l_not_within f_l_not_among f_l_not_alignment f_l_is_int f_l_is_within f_l_is_ints f_l_same f_l_class_sizes f_l_class_ask f_l_is_grain f_l_two_fit f_l_is_order f_l_is_class f_l_refusal f_l_refuses f_l_law X_SIZES : Addr}
    {oc_c_BadValue_init kV_c_BadValue_init dc_c_BadValue_init pm_c_BadValue_init cd_c_BadValue_init ct_c_BadValue_init oc_p_is_whole kV_p_is_whole dc_p_is_whole pm_p_is_whole cd_p_is_whole ct_p_is_whole oc_p_whole_between kV_p_whole_between dc_p_whole_between pm_p_whole_between cd_p_whole_between ct_p_whole_between oc_p_is_power kV_p_is_power dc_p_is_power pm_p_is_power cd_p_is_power ct_p_is_power oc_p_is_align kV_p_is_align dc_p_is_align pm_p_is_align cd_p_is_align ct_p_is_align oc_p_align_up kV_p_align_up dc_p_align_up pm_p_align_up cd_p_align_up ct_p_align_up oc_p_power_in kV_p_power_in dc_p_power_in pm_p_power_in cd_p_power_in ct_p_power_in oc_p_check_whole kV_p_check_whole dc_p_check_whole pm_p_check_whole cd_p_check_whole ct_p_check_whole oc_p_check_align kV_p_check_align dc_p_check_align pm_p_check_align cd_p_check_align ct_p_check_align oc_p_check_width kV_p_check_width dc_p_check_width pm_p_check_width cd_p_check_width ct_p_check_width oc_p_check_class_size kV_p_check_class_size dc_p_check_class_size pm_p_check_class_size cd_p_check_class_size ct_p_check_class_size oc_p_slab_shape kV_p_slab_shape dc_p_slab_shape pm_p_slab_shape cd_p_slab_shape ct_p_slab_shape oc_p_class_sizes kV_p_class_sizes dc_p_class_sizes pm_p_class_sizes cd_p_class_sizes ct_p_class_sizes oc_p_class_align kV_p_class_align dc_p_class_align pm_p_class_align cd_p_class_align ct_p_class_align oc_p_class_order kV_p_class_order dc_p_class_order pm_p_class_order cd_p_class_order ct_p_class_order oc_p_class_of kV_p_class_of dc_p_class_of pm_p_class_of cd_p_class_of ct_p_class_of oc_l_draws kV_l_draws dc_l_draws pm_l_draws cd_l_draws ct_l_draws oc_l_next_cell kV_l_next_cell dc_l_next_cell pm_l_next_cell cd_l_next_cell ct_l_next_cell oc_l_mixed kV_l_mixed dc_l_mixed pm_l_mixed cd_l_mixed ct_l_mixed oc_l_take kV_l_take dc_l_take pm_l_take cd_l_take ct_l_take oc_l_among kV_l_among dc_l_among pm_l_among cd_l_among ct_l_among oc_l_between kV_l_between dc_l_between pm_l_between cd_l_between ct_l_between oc_l_number kV_l_number dc_l_number pm_l_number cd_l_number ct_l_number oc_l_alignment kV_l_alignment dc_l_alignment pm_l_alignment cd_l_alignment ct_l_alignment oc_l_power kV_l_power dc_l_power pm_l_power cd_l_power ct_l_power oc_l_up kV_l_up dc_l_up pm_l_up cd_l_up ct_l_up oc_l_long kV_l_long dc_l_long pm_l_long cd_l_long ct_l_long oc_l_not_integer kV_l_not_integer dc_l_not_integer pm_l_not_integer cd_l_not_integer ct_l_not_integer oc_l_not_within kV_l_not_within dc_l_not_within pm_l_not_within cd_l_not_within ct_l_not_within oc_l_not_among kV_l_not_among dc_l_not_among pm_l_not_among cd_l_not_among ct_l_not_among oc_l_not_alignment kV_l_not_alignment dc_l_not_alignment pm_l_not_alignment cd_l_not_alignment ct_l_not_alignment oc_l_is_int kV_l_is_int dc_l_is_int pm_l_is_int cd_l_is_int ct_l_is_int oc_l_is_within kV_l_is_within dc_l_is_within pm_l_is_within cd_l_is_within ct_l_is_within oc_l_is_ints kV_l_is_ints dc_l_is_ints pm_l_is_ints cd_l_is_ints ct_l_is_ints oc_l_same kV_l_same dc_l_same pm_l_same cd_l_same ct_l_same oc_l_class_sizes kV_l_class_sizes dc_l_class_sizes pm_l_class_sizes cd_l_class_sizes ct_l_class_sizes oc_l_class_ask kV_l_class_ask dc_l_class_ask pm_l_class_ask cd_l_class_ask ct_l_class_ask oc_l_is_grain kV_l_is_grain dc_l_is_grain pm_l_is_grain cd_l_is_grain ct_l_is_grain oc_l_two_fit kV_l_two_fit dc_l_two_fit pm_l_two_fit cd_l_two_fit ct_l_two_fit oc_l_is_order kV_l_is_order dc_l_is_order pm_l_is_order cd_l_is_order ct_l_is_order oc_l_is_class kV_l_is_class dc_l_is_class pm_l_is_class cd_l_is_class ct_l_is_class oc_l_refusal kV_l_refusal dc_l_refusal pm_l_refusal cd_l_refusal ct_l_refusal oc_l_refuses kV_l_refuses dc_l_refuses pm_l_refuses cd_l_refuses ct_l_refuses oc_l_law kV_l_law dc_l_law pm_l_law cd_l_law ct_l_law v_MOST_ALIGN_slots v_MOST_ALIGN_spans v_MOST_END v_MOST_SIZE : Value}
    {od_c_BadValue_init an_c_BadValue_init od_p_is_whole an_p_is_whole od_p_whole_between an_p_whole_between od_p_is_power an_p_is_power od_p_is_align an_p_is_align od_p_align_up an_p_align_up od_p_power_in an_p_power_in od_p_check_whole an_p_check_whole od_p_check_align an_p_check_align od_p_check_width an_p_check_width od_p_check_class_size an_p_check_class_size od_p_slab_shape an_p_slab_shape od_p_class_sizes an_p_class_sizes od_p_class_align an_p_class_align od_p_class_order an_p_class_order od_p_class_of an_p_class_of od_l_draws an_l_draws od_l_next_cell an_l_next_cell od_l_mixed an_l_mixed od_l_take an_l_take od_l_among an_l_among od_l_between an_l_between od_l_number an_l_number od_l_alignment an_l_alignment od_l_power an_l_power od_l_up an_l_up od_l_long an_l_long od_l_not_integer an_l_not_integer od_l_not_within an_l_not_within od_l_not_among an_l_not_among od_l_not_alignment an_l_not_alignment od_l_is_int an_l_is_int od_l_is_within an_l_is_within od_l_is_ints an_l_is_ints od_l_same an_l_same od_l_class_sizes an_l_class_sizes od_l_class_ask an_l_class_ask od_l_is_grain an_l_is_grain od_l_two_fit an_l_two_fit od_l_is_order an_l_is_order od_l_is_class an_l_is_class od_l_refusal an_l_refusal od_l_refuses an_l_refuses od_l_law an_l_law : Option Addr} {sl_c_BadValue_init sl_p_is_whole sl_p_whole_between sl_p_is_power sl_p_is_align sl_p_align_up sl_p_power_in sl_p_check_whole sl_p_check_align sl_p_check_width sl_p_check_class_size sl_p_slab_shape sl_p_class_sizes sl_p_class_align sl_p_class_order sl_p_class_of sl_l_draws sl_l_next_cell sl_l_mixed sl_l_take sl_l_among sl_l_between sl_l_number sl_l_alignment sl_l_power sl_l_up sl_l_long sl_l_not_integer sl_l_not_within sl_l_not_among sl_l_not_alignment sl_l_is_int sl_l_is_within sl_l_is_ints sl_l_same sl_l_class_sizes sl_l_class_ask sl_l_is_grain sl_l_two_fit sl_l_is_order sl_l_is_class sl_l_refusal sl_l_refuses sl_l_law : Array (Option Value)}
    {nm_BadValue qn_BadValue : Str} {N_BadValue : Addr} {bs_BadValue : List Value} {sn_BadValue : List Str} {sub_BadValue : List Value} {ab_BadValue : Bool} {col_BadValue : Option Bool} {dd_BadValue : Option Addr} {m0_BadValue m1_BadValue m2_BadValue m3_BadValue m5_BadValue : Option Value}
    (q_StoreError : PySem.W.nsIn K mainGlobals "StoreError" = some (some (.ref C_StoreError)))
    (q_BadValue : PySem.W.nsIn K mainGlobals "BadValue" = some (some (.ref C_BadValue)))
    (q_Unknown : PySem.W.nsIn K mainGlobals "Unknown" = some (some (.ref C_Unknown)))
    (a_c_BadValue_init : PySem.W.findIn K (.ref C_BadValue) "__init__" = some (some (.ref f_c_BadValue_init)))
    (t_c_BadValue_init : PySem.W.typeIn K (.ref f_c_BadValue_init) = some (.type "function"))
    (l_c_BadValue_init : K.lookup f_c_BadValue_init = some ⟨oc_c_BadValue_init, od_c_BadValue_init, .func (PySem.W.fnOf "__init__" "BadValue.__init__" (defArgs s_c_BadValue_init) (defBody s_c_BadValue_init) (defScope s_c_BadValue_init) .none kV_c_BadValue_init dc_c_BadValue_init pm_c_BadValue_init an_c_BadValue_init cd_c_BadValue_init ct_c_BadValue_init), sl_c_BadValue_init⟩)
    (c_c_BadValue_init : PySem.W.codeIn K cd_c_BadValue_init "BadValue.__init__" = true)
    (k_c_BadValue_init : PySem.W.keepIn K (.ref f_c_BadValue_init) = true)
    (a_p_is_whole : PySem.W.nsIn K mainGlobals "is_whole" = some (some (.ref f_p_is_whole)))
    (l_p_is_whole : K.lookup f_p_is_whole = some ⟨oc_p_is_whole, od_p_is_whole, .func (PySem.W.fnOf "is_whole" "is_whole" (defArgs s_p_is_whole) (defBody s_p_is_whole) (defScope s_p_is_whole) .none kV_p_is_whole dc_p_is_whole pm_p_is_whole an_p_is_whole cd_p_is_whole ct_p_is_whole), sl_p_is_whole⟩)
    (c_p_is_whole : PySem.W.codeIn K cd_p_is_whole "is_whole" = true)
    (k_p_is_whole : PySem.W.keepIn K (.ref f_p_is_whole) = true)
    (a_p_whole_between : PySem.W.nsIn K mainGlobals "whole_between" = some (some (.ref f_p_whole_between)))
    (l_p_whole_between : K.lookup f_p_whole_between = some ⟨oc_p_whole_between, od_p_whole_between, .func (PySem.W.fnOf "whole_between" "whole_between" (defArgs s_p_whole_between) (defBody s_p_whole_between) (defScope s_p_whole_between) .none kV_p_whole_between dc_p_whole_between pm_p_whole_between an_p_whole_between cd_p_whole_between ct_p_whole_between), sl_p_whole_between⟩)
    (c_p_whole_between : PySem.W.codeIn K cd_p_whole_between "whole_between" = true)
    (k_p_whole_between : PySem.W.keepIn K (.ref f_p_whole_between) = true)
    (a_p_is_power : PySem.W.nsIn K mainGlobals "is_power" = some (some (.ref f_p_is_power)))
    (l_p_is_power : K.lookup f_p_is_power = some ⟨oc_p_is_power, od_p_is_power, .func (PySem.W.fnOf "is_power" "is_power" (defArgs s_p_is_power) (defBody s_p_is_power) (defScope s_p_is_power) .none kV_p_is_power dc_p_is_power pm_p_is_power an_p_is_power cd_p_is_power ct_p_is_power), sl_p_is_power⟩)
    (c_p_is_power : PySem.W.codeIn K cd_p_is_power "is_power" = true)
    (k_p_is_power : PySem.W.keepIn K (.ref f_p_is_power) = true)
    (a_p_is_align : PySem.W.nsIn K mainGlobals "is_align" = some (some (.ref f_p_is_align)))
    (l_p_is_align : K.lookup f_p_is_align = some ⟨oc_p_is_align, od_p_is_align, .func (PySem.W.fnOf "is_align" "is_align" (defArgs s_p_is_align) (defBody s_p_is_align) (defScope s_p_is_align) .none kV_p_is_align dc_p_is_align pm_p_is_align an_p_is_align cd_p_is_align ct_p_is_align), sl_p_is_align⟩)
    (c_p_is_align : PySem.W.codeIn K cd_p_is_align "is_align" = true)
    (k_p_is_align : PySem.W.keepIn K (.ref f_p_is_align) = true)
    (a_p_align_up : PySem.W.nsIn K mainGlobals "align_up" = some (some (.ref f_p_align_up)))
    (l_p_align_up : K.lookup f_p_align_up = some ⟨oc_p_align_up, od_p_align_up, .func (PySem.W.fnOf "align_up" "align_up" (defArgs s_p_align_up) (defBody s_p_align_up) (defScope s_p_align_up) .none kV_p_align_up dc_p_align_up pm_p_align_up an_p_align_up cd_p_align_up ct_p_align_up), sl_p_align_up⟩)
    (c_p_align_up : PySem.W.codeIn K cd_p_align_up "align_up" = true)
    (k_p_align_up : PySem.W.keepIn K (.ref f_p_align_up) = true)
    (a_p_power_in : PySem.W.nsIn K mainGlobals "power_in" = some (some (.ref f_p_power_in)))
    (l_p_power_in : K.lookup f_p_power_in = some ⟨oc_p_power_in, od_p_power_in, .func (PySem.W.fnOf "power_in" "power_in" (defArgs s_p_power_in) (defBody s_p_power_in) (defScope s_p_power_in) .none kV_p_power_in dc_p_power_in pm_p_power_in an_p_power_in cd_p_power_in ct_p_power_in), sl_p_power_in⟩)
    (c_p_power_in : PySem.W.codeIn K cd_p_power_in "power_in" = true)
    (k_p_power_in : PySem.W.keepIn K (.ref f_p_power_in) = true)
    (a_p_check_whole : PySem.W.nsIn K mainGlobals "check_whole" = some (some (.ref f_p_check_whole)))
    (l_p_check_whole : K.lookup f_p_check_whole = some ⟨oc_p_check_whole, od_p_check_whole, .func (PySem.W.fnOf "check_whole" "check_whole" (defArgs s_p_check_whole) (defBody s_p_check_whole) (defScope s_p_check_whole) .none kV_p_check_whole dc_p_check_whole pm_p_check_whole an_p_check_whole cd_p_check_whole ct_p_check_whole), sl_p_check_whole⟩)
    (c_p_check_whole : PySem.W.codeIn K cd_p_check_whole "check_whole" = true)
    (k_p_check_whole : PySem.W.keepIn K (.ref f_p_check_whole) = true)
    (a_p_check_align : PySem.W.nsIn K mainGlobals "check_align" = some (some (.ref f_p_check_align)))
    (l_p_check_align : K.lookup f_p_check_align = some ⟨oc_p_check_align, od_p_check_align, .func (PySem.W.fnOf "check_align" "check_align" (defArgs s_p_check_align) (defBody s_p_check_align) (defScope s_p_check_align) .none kV_p_check_align dc_p_check_align pm_p_check_align an_p_check_align cd_p_check_align ct_p_check_align), sl_p_check_align⟩)
    (c_p_check_align : PySem.W.codeIn K cd_p_check_align "check_align" = true)
    (k_p_check_align : PySem.W.keepIn K (.ref f_p_check_align) = true)
    (a_p_check_width : PySem.W.nsIn K mainGlobals "check_width" = some (some (.ref f_p_check_width)))
    (l_p_check_width : K.lookup f_p_check_width = some ⟨oc_p_check_width, od_p_check_width, .func (PySem.W.fnOf "check_width" "check_width" (defArgs s_p_check_width) (defBody s_p_check_width) (defScope s_p_check_width) .none kV_p_check_width dc_p_check_width pm_p_check_width an_p_check_width cd_p_check_width ct_p_check_width), sl_p_check_width⟩)
    (c_p_check_width : PySem.W.codeIn K cd_p_check_width "check_width" = true)
    (k_p_check_width : PySem.W.keepIn K (.ref f_p_check_width) = true)
    (a_p_check_class_size : PySem.W.nsIn K mainGlobals "check_class_size" = some (some (.ref f_p_check_class_size)))
    (l_p_check_class_size : K.lookup f_p_check_class_size = some ⟨oc_p_check_class_size, od_p_check_class_size, .func (PySem.W.fnOf "check_class_size" "check_class_size" (defArgs s_p_check_class_size) (defBody s_p_check_class_size) (defScope s_p_check_class_size) .none kV_p_check_class_size dc_p_check_class_size pm_p_check_class_size an_p_check_class_size cd_p_check_class_size ct_p_check_class_size), sl_p_check_class_size⟩)
    (c_p_check_class_size : PySem.W.codeIn K cd_p_check_class_size "check_class_size" = true)
    (k_p_check_class_size : PySem.W.keepIn K (.ref f_p_check_class_size) = true)
    (a_p_slab_shape : PySem.W.nsIn K mainGlobals "slab_shape" = some (some (.ref f_p_slab_shape)))
    (l_p_slab_shape : K.lookup f_p_slab_shape = some ⟨oc_p_slab_shape, od_p_slab_shape, .func (PySem.W.fnOf "slab_shape" "slab_shape" (defArgs s_p_slab_shape) (defBody s_p_slab_shape) (defScope s_p_slab_shape) .none kV_p_slab_shape dc_p_slab_shape pm_p_slab_shape an_p_slab_shape cd_p_slab_shape ct_p_slab_shape), sl_p_slab_shape⟩)
    (c_p_slab_shape : PySem.W.codeIn K cd_p_slab_shape "slab_shape" = true)
    (k_p_slab_shape : PySem.W.keepIn K (.ref f_p_slab_shape) = true)
    (a_p_class_sizes : PySem.W.nsIn K mainGlobals "class_sizes" = some (some (.ref f_p_class_sizes)))
    (l_p_class_sizes : K.lookup f_p_class_sizes = some ⟨oc_p_class_sizes, od_p_class_sizes, .func (PySem.W.fnOf "class_sizes" "class_sizes" (defArgs s_p_class_sizes) (defBody s_p_class_sizes) (defScope s_p_class_sizes) .none kV_p_class_sizes dc_p_class_sizes pm_p_class_sizes an_p_class_sizes cd_p_class_sizes ct_p_class_sizes), sl_p_class_sizes⟩)
    (c_p_class_sizes : PySem.W.codeIn K cd_p_class_sizes "class_sizes" = true)
    (k_p_class_sizes : PySem.W.keepIn K (.ref f_p_class_sizes) = true)
    (a_p_class_align : PySem.W.nsIn K mainGlobals "class_align" = some (some (.ref f_p_class_align)))
    (l_p_class_align : K.lookup f_p_class_align = some ⟨oc_p_class_align, od_p_class_align, .func (PySem.W.fnOf "class_align" "class_align" (defArgs s_p_class_align) (defBody s_p_class_align) (defScope s_p_class_align) .none kV_p_class_align dc_p_class_align pm_p_class_align an_p_class_align cd_p_class_align ct_p_class_align), sl_p_class_align⟩)
    (c_p_class_align : PySem.W.codeIn K cd_p_class_align "class_align" = true)
    (k_p_class_align : PySem.W.keepIn K (.ref f_p_class_align) = true)
    (a_p_class_order : PySem.W.nsIn K mainGlobals "class_order" = some (some (.ref f_p_class_order)))
    (l_p_class_order : K.lookup f_p_class_order = some ⟨oc_p_class_order, od_p_class_order, .func (PySem.W.fnOf "class_order" "class_order" (defArgs s_p_class_order) (defBody s_p_class_order) (defScope s_p_class_order) .none kV_p_class_order dc_p_class_order pm_p_class_order an_p_class_order cd_p_class_order ct_p_class_order), sl_p_class_order⟩)
    (c_p_class_order : PySem.W.codeIn K cd_p_class_order "class_order" = true)
    (k_p_class_order : PySem.W.keepIn K (.ref f_p_class_order) = true)
    (a_p_class_of : PySem.W.nsIn K mainGlobals "class_of" = some (some (.ref f_p_class_of)))
    (l_p_class_of : K.lookup f_p_class_of = some ⟨oc_p_class_of, od_p_class_of, .func (PySem.W.fnOf "class_of" "class_of" (defArgs s_p_class_of) (defBody s_p_class_of) (defScope s_p_class_of) .none kV_p_class_of dc_p_class_of pm_p_class_of an_p_class_of cd_p_class_of ct_p_class_of), sl_p_class_of⟩)
    (c_p_class_of : PySem.W.codeIn K cd_p_class_of "class_of" = true)
    (k_p_class_of : PySem.W.keepIn K (.ref f_p_class_of) = true)
    (a_l_draws : PySem.W.nsIn K mainGlobals "_law_draws" = some (some (.ref f_l_draws)))
    (l_l_draws : K.lookup f_l_draws = some ⟨oc_l_draws, od_l_draws, .func (PySem.W.fnOf "_law_draws" "_law_draws" (defArgs s_l_draws) (defBody s_l_draws) (defScope s_l_draws) .none kV_l_draws dc_l_draws pm_l_draws an_l_draws cd_l_draws ct_l_draws), sl_l_draws⟩)
    (c_l_draws : PySem.W.codeIn K cd_l_draws "_law_draws" = true)
    (k_l_draws : PySem.W.keepIn K (.ref f_l_draws) = true)
    (a_l_next_cell : PySem.W.nsIn K mainGlobals "_law_next_cell" = some (some (.ref f_l_next_cell)))
    (l_l_next_cell : K.lookup f_l_next_cell = some ⟨oc_l_next_cell, od_l_next_cell, .func (PySem.W.fnOf "_law_next_cell" "_law_next_cell" (defArgs s_l_next_cell) (defBody s_l_next_cell) (defScope s_l_next_cell) .none kV_l_next_cell dc_l_next_cell pm_l_next_cell an_l_next_cell cd_l_next_cell ct_l_next_cell), sl_l_next_cell⟩)
    (c_l_next_cell : PySem.W.codeIn K cd_l_next_cell "_law_next_cell" = true)
    (k_l_next_cell : PySem.W.keepIn K (.ref f_l_next_cell) = true)
    (a_l_mixed : PySem.W.nsIn K mainGlobals "_law_mixed" = some (some (.ref f_l_mixed)))
    (l_l_mixed : K.lookup f_l_mixed = some ⟨oc_l_mixed, od_l_mixed, .func (PySem.W.fnOf "_law_mixed" "_law_mixed" (defArgs s_l_mixed) (defBody s_l_mixed) (defScope s_l_mixed) .none kV_l_mixed dc_l_mixed pm_l_mixed an_l_mixed cd_l_mixed ct_l_mixed), sl_l_mixed⟩)
    (c_l_mixed : PySem.W.codeIn K cd_l_mixed "_law_mixed" = true)
    (k_l_mixed : PySem.W.keepIn K (.ref f_l_mixed) = true)
    (a_l_take : PySem.W.nsIn K mainGlobals "_law_take" = some (some (.ref f_l_take)))
    (l_l_take : K.lookup f_l_take = some ⟨oc_l_take, od_l_take, .func (PySem.W.fnOf "_law_take" "_law_take" (defArgs s_l_take) (defBody s_l_take) (defScope s_l_take) .none kV_l_take dc_l_take pm_l_take an_l_take cd_l_take ct_l_take), sl_l_take⟩)
    (c_l_take : PySem.W.codeIn K cd_l_take "_law_take" = true)
    (k_l_take : PySem.W.keepIn K (.ref f_l_take) = true)
    (a_l_among : PySem.W.nsIn K mainGlobals "_law_among" = some (some (.ref f_l_among)))
    (l_l_among : K.lookup f_l_among = some ⟨oc_l_among, od_l_among, .func (PySem.W.fnOf "_law_among" "_law_among" (defArgs s_l_among) (defBody s_l_among) (defScope s_l_among) .none kV_l_among dc_l_among pm_l_among an_l_among cd_l_among ct_l_among), sl_l_among⟩)
    (c_l_among : PySem.W.codeIn K cd_l_among "_law_among" = true)
    (k_l_among : PySem.W.keepIn K (.ref f_l_among) = true)
    (a_l_between : PySem.W.nsIn K mainGlobals "_law_between" = some (some (.ref f_l_between)))
    (l_l_between : K.lookup f_l_between = some ⟨oc_l_between, od_l_between, .func (PySem.W.fnOf "_law_between" "_law_between" (defArgs s_l_between) (defBody s_l_between) (defScope s_l_between) .none kV_l_between dc_l_between pm_l_between an_l_between cd_l_between ct_l_between), sl_l_between⟩)
    (c_l_between : PySem.W.codeIn K cd_l_between "_law_between" = true)
    (k_l_between : PySem.W.keepIn K (.ref f_l_between) = true)
    (a_l_number : PySem.W.nsIn K mainGlobals "_law_number" = some (some (.ref f_l_number)))
    (l_l_number : K.lookup f_l_number = some ⟨oc_l_number, od_l_number, .func (PySem.W.fnOf "_law_number" "_law_number" (defArgs s_l_number) (defBody s_l_number) (defScope s_l_number) .none kV_l_number dc_l_number pm_l_number an_l_number cd_l_number ct_l_number), sl_l_number⟩)
    (c_l_number : PySem.W.codeIn K cd_l_number "_law_number" = true)
    (k_l_number : PySem.W.keepIn K (.ref f_l_number) = true)
    (a_l_alignment : PySem.W.nsIn K mainGlobals "_law_alignment" = some (some (.ref f_l_alignment)))
    (l_l_alignment : K.lookup f_l_alignment = some ⟨oc_l_alignment, od_l_alignment, .func (PySem.W.fnOf "_law_alignment" "_law_alignment" (defArgs s_l_alignment) (defBody s_l_alignment) (defScope s_l_alignment) .none kV_l_alignment dc_l_alignment pm_l_alignment an_l_alignment cd_l_alignment ct_l_alignment), sl_l_alignment⟩)
    (c_l_alignment : PySem.W.codeIn K cd_l_alignment "_law_alignment" = true)
    (k_l_alignment : PySem.W.keepIn K (.ref f_l_alignment) = true)
    (a_l_power : PySem.W.nsIn K mainGlobals "_law_power" = some (some (.ref f_l_power)))
    (l_l_power : K.lookup f_l_power = some ⟨oc_l_power, od_l_power, .func (PySem.W.fnOf "_law_power" "_law_power" (defArgs s_l_power) (defBody s_l_power) (defScope s_l_power) .none kV_l_power dc_l_power pm_l_power an_l_power cd_l_power ct_l_power), sl_l_power⟩)
    (c_l_power : PySem.W.codeIn K cd_l_power "_law_power" = true)
    (k_l_power : PySem.W.keepIn K (.ref f_l_power) = true)
    (a_l_up : PySem.W.nsIn K mainGlobals "_law_up" = some (some (.ref f_l_up)))
    (l_l_up : K.lookup f_l_up = some ⟨oc_l_up, od_l_up, .func (PySem.W.fnOf "_law_up" "_law_up" (defArgs s_l_up) (defBody s_l_up) (defScope s_l_up) .none kV_l_up dc_l_up pm_l_up an_l_up cd_l_up ct_l_up), sl_l_up⟩)
    (c_l_up : PySem.W.codeIn K cd_l_up "_law_up" = true)
    (k_l_up : PySem.W.keepIn K (.ref f_l_up) = true)
    (a_l_long : PySem.W.nsIn K mainGlobals "_law_long" = some (some (.ref f_l_long)))
    (l_l_long : K.lookup f_l_long = some ⟨oc_l_long, od_l_long, .func (PySem.W.fnOf "_law_long" "_law_long" (defArgs s_l_long) (defBody s_l_long) (defScope s_l_long) .none kV_l_long dc_l_long pm_l_long an_l_long cd_l_long ct_l_long), sl_l_long⟩)
    (c_l_long : PySem.W.codeIn K cd_l_long "_law_long" = true)
    (k_l_long : PySem.W.keepIn K (.ref f_l_long) = true)
    (a_l_not_integer : PySem.W.nsIn K mainGlobals "_law_not_integer" = some (some (.ref f_l_not_integer)))
    (l_l_not_integer : K.lookup f_l_not_integer = some ⟨oc_l_not_integer, od_l_not_integer, .func (PySem.W.fnOf "_law_not_integer" "_law_not_integer" (defArgs s_l_not_integer) (defBody s_l_not_integer) (defScope s_l_not_integer) .none kV_l_not_integer dc_l_not_integer pm_l_not_integer an_l_not_integer cd_l_not_integer ct_l_not_integer), sl_l_not_integer⟩)
    (c_l_not_integer : PySem.W.codeIn K cd_l_not_integer "_law_not_integer" = true)
    (k_l_not_integer : PySem.W.keepIn K (.ref f_l_not_integer) = true)
    (a_l_not_within : PySem.W.nsIn K mainGlobals "_law_not_within" = some (some (.ref f_l_not_within)))
    (l_l_not_within : K.lookup f_l_not_within = some ⟨oc_l_not_within, od_l_not_within, .func (PySem.W.fnOf "_law_not_within" "_law_not_within" (defArgs s_l_not_within) (defBody s_l_not_within) (defScope s_l_not_within) .none kV_l_not_within dc_l_not_within pm_l_not_within an_l_not_within cd_l_not_within ct_l_not_within), sl_l_not_within⟩)
    (c_l_not_within : PySem.W.codeIn K cd_l_not_within "_law_not_within" = true)
    (k_l_not_within : PySem.W.keepIn K (.ref f_l_not_within) = true)
    (a_l_not_among : PySem.W.nsIn K mainGlobals "_law_not_among" = some (some (.ref f_l_not_among)))
    (l_l_not_among : K.lookup f_l_not_among = some ⟨oc_l_not_among, od_l_not_among, .func (PySem.W.fnOf "_law_not_among" "_law_not_among" (defArgs s_l_not_among) (defBody s_l_not_among) (defScope s_l_not_among) .none kV_l_not_among dc_l_not_among pm_l_not_among an_l_not_among cd_l_not_among ct_l_not_among), sl_l_not_among⟩)
    (c_l_not_among : PySem.W.codeIn K cd_l_not_among "_law_not_among" = true)
    (k_l_not_among : PySem.W.keepIn K (.ref f_l_not_among) = true)
    (a_l_not_alignment : PySem.W.nsIn K mainGlobals "_law_not_alignment" = some (some (.ref f_l_not_alignment)))
    (l_l_not_alignment : K.lookup f_l_not_alignment = some ⟨oc_l_not_alignment, od_l_not_alignment, .func (PySem.W.fnOf "_law_not_alignment" "_law_not_alignment" (defArgs s_l_not_alignment) (defBody s_l_not_alignment) (defScope s_l_not_alignment) .none kV_l_not_alignment dc_l_not_alignment pm_l_not_alignment an_l_not_alignment cd_l_not_alignment ct_l_not_alignment), sl_l_not_alignment⟩)
    (c_l_not_alignment : PySem.W.codeIn K cd_l_not_alignment "_law_not_alignment" = true)
    (k_l_not_alignment : PySem.W.keepIn K (.ref f_l_not_alignment) = true)
    (a_l_is_int : PySem.W.nsIn K mainGlobals "_law_is_int" = some (some (.ref f_l_is_int)))
    (l_l_is_int : K.lookup f_l_is_int = some ⟨oc_l_is_int, od_l_is_int, .func (PySem.W.fnOf "_law_is_int" "_law_is_int" (defArgs s_l_is_int) (defBody s_l_is_int) (defScope s_l_is_int) .none kV_l_is_int dc_l_is_int pm_l_is_int an_l_is_int cd_l_is_int ct_l_is_int), sl_l_is_int⟩)
    (c_l_is_int : PySem.W.codeIn K cd_l_is_int "_law_is_int" = true)
    (k_l_is_int : PySem.W.keepIn K (.ref f_l_is_int) = true)
    (a_l_is_within : PySem.W.nsIn K mainGlobals "_law_is_within" = some (some (.ref f_l_is_within)))
    (l_l_is_within : K.lookup f_l_is_within = some ⟨oc_l_is_within, od_l_is_within, .func (PySem.W.fnOf "_law_is_within" "_law_is_within" (defArgs s_l_is_within) (defBody s_l_is_within) (defScope s_l_is_within) .none kV_l_is_within dc_l_is_within pm_l_is_within an_l_is_within cd_l_is_within ct_l_is_within), sl_l_is_within⟩)
    (c_l_is_within : PySem.W.codeIn K cd_l_is_within "_law_is_within" = true)
    (k_l_is_within : PySem.W.keepIn K (.ref f_l_is_within) = true)
    (a_l_is_ints : PySem.W.nsIn K mainGlobals "_law_is_ints" = some (some (.ref f_l_is_ints)))
    (l_l_is_ints : K.lookup f_l_is_ints = some ⟨oc_l_is_ints, od_l_is_ints, .func (PySem.W.fnOf "_law_is_ints" "_law_is_ints" (defArgs s_l_is_ints) (defBody s_l_is_ints) (defScope s_l_is_ints) .none kV_l_is_ints dc_l_is_ints pm_l_is_ints an_l_is_ints cd_l_is_ints ct_l_is_ints), sl_l_is_ints⟩)
    (c_l_is_ints : PySem.W.codeIn K cd_l_is_ints "_law_is_ints" = true)
    (k_l_is_ints : PySem.W.keepIn K (.ref f_l_is_ints) = true)
    (a_l_same : PySem.W.nsIn K mainGlobals "_law_same" = some (some (.ref f_l_same)))
    (l_l_same : K.lookup f_l_same = some ⟨oc_l_same, od_l_same, .func (PySem.W.fnOf "_law_same" "_law_same" (defArgs s_l_same) (defBody s_l_same) (defScope s_l_same) .none kV_l_same dc_l_same pm_l_same an_l_same cd_l_same ct_l_same), sl_l_same⟩)
    (c_l_same : PySem.W.codeIn K cd_l_same "_law_same" = true)
    (k_l_same : PySem.W.keepIn K (.ref f_l_same) = true)
    (a_l_class_sizes : PySem.W.nsIn K mainGlobals "_law_class_sizes" = some (some (.ref f_l_class_sizes)))
    (l_l_class_sizes : K.lookup f_l_class_sizes = some ⟨oc_l_class_sizes, od_l_class_sizes, .func (PySem.W.fnOf "_law_class_sizes" "_law_class_sizes" (defArgs s_l_class_sizes) (defBody s_l_class_sizes) (defScope s_l_class_sizes) .none kV_l_class_sizes dc_l_class_sizes pm_l_class_sizes an_l_class_sizes cd_l_class_sizes ct_l_class_sizes), sl_l_class_sizes⟩)
    (c_l_class_sizes : PySem.W.codeIn K cd_l_class_sizes "_law_class_sizes" = true)
    (k_l_class_sizes : PySem.W.keepIn K (.ref f_l_class_sizes) = true)
    (a_l_class_ask : PySem.W.nsIn K mainGlobals "_law_class_ask" = some (some (.ref f_l_class_ask)))
    (l_l_class_ask : K.lookup f_l_class_ask = some ⟨oc_l_class_ask, od_l_class_ask, .func (PySem.W.fnOf "_law_class_ask" "_law_class_ask" (defArgs s_l_class_ask) (defBody s_l_class_ask) (defScope s_l_class_ask) .none kV_l_class_ask dc_l_class_ask pm_l_class_ask an_l_class_ask cd_l_class_ask ct_l_class_ask), sl_l_class_ask⟩)
    (c_l_class_ask : PySem.W.codeIn K cd_l_class_ask "_law_class_ask" = true)
    (k_l_class_ask : PySem.W.keepIn K (.ref f_l_class_ask) = true)
    (a_l_is_grain : PySem.W.nsIn K mainGlobals "_law_is_grain" = some (some (.ref f_l_is_grain)))
    (l_l_is_grain : K.lookup f_l_is_grain = some ⟨oc_l_is_grain, od_l_is_grain, .func (PySem.W.fnOf "_law_is_grain" "_law_is_grain" (defArgs s_l_is_grain) (defBody s_l_is_grain) (defScope s_l_is_grain) .none kV_l_is_grain dc_l_is_grain pm_l_is_grain an_l_is_grain cd_l_is_grain ct_l_is_grain), sl_l_is_grain⟩)
    (c_l_is_grain : PySem.W.codeIn K cd_l_is_grain "_law_is_grain" = true)
    (k_l_is_grain : PySem.W.keepIn K (.ref f_l_is_grain) = true)
    (a_l_two_fit : PySem.W.nsIn K mainGlobals "_law_two_fit" = some (some (.ref f_l_two_fit)))
    (l_l_two_fit : K.lookup f_l_two_fit = some ⟨oc_l_two_fit, od_l_two_fit, .func (PySem.W.fnOf "_law_two_fit" "_law_two_fit" (defArgs s_l_two_fit) (defBody s_l_two_fit) (defScope s_l_two_fit) .none kV_l_two_fit dc_l_two_fit pm_l_two_fit an_l_two_fit cd_l_two_fit ct_l_two_fit), sl_l_two_fit⟩)
    (c_l_two_fit : PySem.W.codeIn K cd_l_two_fit "_law_two_fit" = true)
    (k_l_two_fit : PySem.W.keepIn K (.ref f_l_two_fit) = true)
    (a_l_is_order : PySem.W.nsIn K mainGlobals "_law_is_order" = some (some (.ref f_l_is_order)))
    (l_l_is_order : K.lookup f_l_is_order = some ⟨oc_l_is_order, od_l_is_order, .func (PySem.W.fnOf "_law_is_order" "_law_is_order" (defArgs s_l_is_order) (defBody s_l_is_order) (defScope s_l_is_order) .none kV_l_is_order dc_l_is_order pm_l_is_order an_l_is_order cd_l_is_order ct_l_is_order), sl_l_is_order⟩)
    (c_l_is_order : PySem.W.codeIn K cd_l_is_order "_law_is_order" = true)
    (k_l_is_order : PySem.W.keepIn K (.ref f_l_is_order) = true)
    (a_l_is_class : PySem.W.nsIn K mainGlobals "_law_is_class" = some (some (.ref f_l_is_class)))
    (l_l_is_class : K.lookup f_l_is_class = some ⟨oc_l_is_class, od_l_is_class, .func (PySem.W.fnOf "_law_is_class" "_law_is_class" (defArgs s_l_is_class) (defBody s_l_is_class) (defScope s_l_is_class) .none kV_l_is_class dc_l_is_class pm_l_is_class an_l_is_class cd_l_is_class ct_l_is_class), sl_l_is_class⟩)
    (c_l_is_class : PySem.W.codeIn K cd_l_is_class "_law_is_class" = true)
    (k_l_is_class : PySem.W.keepIn K (.ref f_l_is_class) = true)
    (a_l_refusal : PySem.W.nsIn K mainGlobals "_law_refusal" = some (some (.ref f_l_refusal)))
    (l_l_refusal : K.lookup f_l_refusal = some ⟨oc_l_refusal, od_l_refusal, .func (PySem.W.fnOf "_law_refusal" "_law_refusal" (defArgs s_l_refusal) (defBody s_l_refusal) (defScope s_l_refusal) .none kV_l_refusal dc_l_refusal pm_l_refusal an_l_refusal cd_l_refusal ct_l_refusal), sl_l_refusal⟩)
    (c_l_refusal : PySem.W.codeIn K cd_l_refusal "_law_refusal" = true)
    (k_l_refusal : PySem.W.keepIn K (.ref f_l_refusal) = true)
    (a_l_refuses : PySem.W.nsIn K mainGlobals "_law_refuses" = some (some (.ref f_l_refuses)))
    (l_l_refuses : K.lookup f_l_refuses = some ⟨oc_l_refuses, od_l_refuses, .func (PySem.W.fnOf "_law_refuses" "_law_refuses" (defArgs s_l_refuses) (defBody s_l_refuses) (defScope s_l_refuses) .none kV_l_refuses dc_l_refuses pm_l_refuses an_l_refuses cd_l_refuses ct_l_refuses), sl_l_refuses⟩)
    (c_l_refuses : PySem.W.codeIn K cd_l_refuses "_law_refuses" = true)
    (k_l_refuses : PySem.W.keepIn K (.ref f_l_refuses) = true)
    (a_l_law : PySem.W.nsIn K mainGlobals "law" = some (some (.ref f_l_law)))
    (l_l_law : K.lookup f_l_law = some ⟨oc_l_law, od_l_law, .func (PySem.W.fnOf "law" "law" (defArgs s_l_law) (defBody s_l_law) (defScope s_l_law) .none kV_l_law dc_l_law pm_l_law an_l_law cd_l_law ct_l_law), sl_l_law⟩)
    (c_l_law : PySem.W.codeIn K cd_l_law "law" = true)
    (k_l_law : PySem.W.keepIn K (.ref f_l_law) = true)
    (z_ValueError : PySem.W.nsIn K mainGlobals "ValueError" = some none)
    (z_bool : PySem.W.nsIn K mainGlobals "bool" = some none)
    (z_dict : PySem.W.nsIn K mainGlobals "dict" = some none)
    (z_enumerate : PySem.W.nsIn K mainGlobals "enumerate" = some none)
    (z_int : PySem.W.nsIn K mainGlobals "int" = some none)
    (z_isinstance : PySem.W.nsIn K mainGlobals "isinstance" = some none)
    (z_len : PySem.W.nsIn K mainGlobals "len" = some none)
    (z_list : PySem.W.nsIn K mainGlobals "list" = some none)
    (z_max : PySem.W.nsIn K mainGlobals "max" = some none)
    (z_min : PySem.W.nsIn K mainGlobals "min" = some none)
    (z_range : PySem.W.nsIn K mainGlobals "range" = some none)
    (z_str : PySem.W.nsIn K mainGlobals "str" = some none)
    (z_tuple : PySem.W.nsIn K mainGlobals "tuple" = some none)
    (g_MOST_ALIGN_slots : PySem.W.nsIn K mainGlobals "MOST_ALIGN_slots" = some (some v_MOST_ALIGN_slots))
    (r_MOST_ALIGN_slots : RelV (.int 1073741824) v_MOST_ALIGN_slots)
    (g_MOST_ALIGN_spans : PySem.W.nsIn K mainGlobals "MOST_ALIGN_spans" = some (some v_MOST_ALIGN_spans))
    (r_MOST_ALIGN_spans : RelV (.int 1073741824) v_MOST_ALIGN_spans)
    (g_MOST_END : PySem.W.nsIn K mainGlobals "MOST_END" = some (some v_MOST_END))
    (r_MOST_END : RelV (.int 1000000000) v_MOST_END)
    (g_MOST_SIZE : PySem.W.nsIn K mainGlobals "MOST_SIZE" = some (some v_MOST_SIZE))
    (r_MOST_SIZE : RelV (.int 1000000000) v_MOST_SIZE)
    (g_SIZES : PySem.W.nsIn K mainGlobals "SIZES" = some (some (.ref X_SIZES)))
    (u_SIZES : KTup K X_SIZES [1, 2, 3, 4, 6, 8, 12, 16, 24, 32])
    (sa_StoreError : PySem.W.findIn K (.ref C_StoreError) "__setattr__" = some (some (.builtin "object.__setattr__")))
    (ga_StoreError : PySem.W.findIn K (.ref C_StoreError) "__getattribute__" = some (some (.builtin "BaseException.__getattribute__")))
    (gg_StoreError : PySem.W.findIn K (.ref C_StoreError) "__getattr__" = some none)
    (cc_StoreError : PySem.W.findIn K (.ref C_StoreError) "__class__" = some (some (.builtin "object.__class__")))
    (eb_StoreError : PySem.W.subIn K (.ref C_StoreError) (.type "BaseException") = some true)
    (ty_StoreError : PySem.W.typeIn K (.ref C_StoreError) = some (.type "type"))
    (kp_StoreError : PySem.W.keepIn K (.ref C_StoreError) = true)
    (hd_StoreError : PySem.W.hasDictIn K C_StoreError = true)
    (mo_StoreError : PySem.W.mroIn K C_StoreError (.type "object") = some true)
    (sa_BadValue : PySem.W.findIn K (.ref C_BadValue) "__setattr__" = some (some (.builtin "object.__setattr__")))
    (ga_BadValue : PySem.W.findIn K (.ref C_BadValue) "__getattribute__" = some (some (.builtin "BaseException.__getattribute__")))
    (gg_BadValue : PySem.W.findIn K (.ref C_BadValue) "__getattr__" = some none)
    (cc_BadValue : PySem.W.findIn K (.ref C_BadValue) "__class__" = some (some (.builtin "object.__class__")))
    (eb_BadValue : PySem.W.subIn K (.ref C_BadValue) (.type "BaseException") = some true)
    (ty_BadValue : PySem.W.typeIn K (.ref C_BadValue) = some (.type "type"))
    (kp_BadValue : PySem.W.keepIn K (.ref C_BadValue) = true)
    (hd_BadValue : PySem.W.hasDictIn K C_BadValue = true)
    (mo_BadValue : PySem.W.mroIn K C_BadValue (.type "object") = some true)
    (x_BadValue : K.lookup C_BadValue = some (excClassObj nm_BadValue qn_BadValue C_BadValue N_BadValue bs_BadValue [.ref C_StoreError, .type "ValueError", .type "Exception", .type "BaseException", .type "object"] true sn_BadValue sub_BadValue ab_BadValue col_BadValue dd_BadValue m0_BadValue m1_BadValue m2_BadValue m3_BadValue m5_BadValue "ValueError.__new__"))
    (nf_BadValue_parameter : PySem.W.findIn K (.ref C_BadValue) "parameter" = some none)
    (nf_BadValue_told : PySem.W.findIn K (.ref C_BadValue) "told" = some none)
    (sp1 : PySem.W.specialIn K (.builtin "object.__class__") "__get__" = some (some (.builtin "getset_descriptor.__get__")))
    (sp2 : PySem.W.takesIn K (.builtin "object.__class__") = some true)
    (kit_BadValue_StoreError : PySem.W.kitOne K (.ref C_BadValue) (.ref C_StoreError) = some true)
    (kit_BadValue_ValueError : PySem.W.kitOne K (.ref C_BadValue) (.type "ValueError") = some true)
    (kit_BadValue_Unknown : PySem.W.kitOne K (.ref C_BadValue) (.ref C_Unknown) = some false)
    (sub_BadValue_BadValue : PySem.W.subIn K (.ref C_BadValue) (.ref C_BadValue) = some true)
    : ∃ fd : FuncData, (∀ (s : Shared) (u : Value), BindsTo s fd ⟨[u], []⟩ [("_law_script", u)]) ∧ ∀ base : Heap, K.In base → base.Ns mainGlobals mg → FnOk P w K mg base CX0 10 fa fd ["_law_script"] (sp_end K) := by
  have e := hfa.symm.trans (PySem.W.mg_of X G a_l_law)
  cases e
  have F_c_BadValue_init := fun_mk (st := s_c_BadValue_init) l_c_BadValue_init c_c_BadValue_init k_c_BadValue_init
  have B_c_BadValue_init := F_c_BadValue_init.binds (ps := ["self", "parameter"]) fun _ _ _ _ _ _ us hl => match us, hl with | [_, _], _ => rfl
  have F_p_is_whole := fun_mk (st := s_p_is_whole) l_p_is_whole c_p_is_whole k_p_is_whole
  have B_p_is_whole := F_p_is_whole.binds (ps := ["value"]) fun _ _ _ _ _ _ us hl => match us, hl with | [_], _ => rfl
  have F_p_whole_between := fun_mk (st := s_p_whole_between) l_p_whole_between c_p_whole_between k_p_whole_between
  have B_p_whole_between := F_p_whole_between.binds (ps := ["value", "low", "high"]) fun _ _ _ _ _ _ us hl => match us, hl with | [_, _, _], _ => rfl
  have F_p_is_power := fun_mk (st := s_p_is_power) l_p_is_power c_p_is_power k_p_is_power
  have B_p_is_power := F_p_is_power.binds (ps := ["value"]) fun _ _ _ _ _ _ us hl => match us, hl with | [_], _ => rfl
  have F_p_is_align := fun_mk (st := s_p_is_align) l_p_is_align c_p_is_align k_p_is_align
  have B_p_is_align := F_p_is_align.binds (ps := ["value", "most"]) fun _ _ _ _ _ _ us hl => match us, hl with | [_, _], _ => rfl
  have F_p_align_up := fun_mk (st := s_p_align_up) l_p_align_up c_p_align_up k_p_align_up
  have B_p_align_up := F_p_align_up.binds (ps := ["number", "align"]) fun _ _ _ _ _ _ us hl => match us, hl with | [_, _], _ => rfl
  have F_p_power_in := fun_mk (st := s_p_power_in) l_p_power_in c_p_power_in k_p_power_in
  have B_p_power_in := F_p_power_in.binds (ps := ["number"]) fun _ _ _ _ _ _ us hl => match us, hl with | [_], _ => rfl
  have F_p_check_whole := fun_mk (st := s_p_check_whole) l_p_check_whole c_p_check_whole k_p_check_whole
  have B_p_check_whole := F_p_check_whole.binds (ps := ["value", "low", "high", "parameter"]) fun _ _ _ _ _ _ us hl => match us, hl with | [_, _, _, _], _ => rfl
  have F_p_check_align := fun_mk (st := s_p_check_align) l_p_check_align c_p_check_align k_p_check_align
  have B_p_check_align := F_p_check_align.binds (ps := ["value", "most", "parameter"]) fun _ _ _ _ _ _ us hl => match us, hl with | [_, _, _], _ => rfl
  have F_p_check_width := fun_mk (st := s_p_check_width) l_p_check_width c_p_check_width k_p_check_width
  have B_p_check_width := F_p_check_width.binds (ps := ["value"]) fun _ _ _ _ _ _ us hl => match us, hl with | [_], _ => rfl
  have F_p_check_class_size := fun_mk (st := s_p_check_class_size) l_p_check_class_size c_p_check_class_size k_p_check_class_size
  have B_p_check_class_size := F_p_check_class_size.binds (ps := ["value"]) fun _ _ _ _ _ _ us hl => match us, hl with | [_], _ => rfl
  have F_p_slab_shape := fun_mk (st := s_p_slab_shape) l_p_slab_shape c_p_slab_shape k_p_slab_shape
  have B_p_slab_shape := F_p_slab_shape.binds (ps := ["width", "order", "size", "align"]) fun _ _ _ _ _ _ us hl => match us, hl with | [_, _, _, _], _ => rfl
  have F_p_class_sizes := fun_mk (st := s_p_class_sizes) l_p_class_sizes c_p_class_sizes k_p_class_sizes
  have B_p_class_sizes := F_p_class_sizes.binds (ps := ["width"]) fun _ _ _ _ _ _ us hl => match us, hl with | [_], _ => rfl
  have F_p_class_align := fun_mk (st := s_p_class_align) l_p_class_align c_p_class_align k_p_class_align
  have B_p_class_align := F_p_class_align.binds (ps := ["size"]) fun _ _ _ _ _ _ us hl => match us, hl with | [_], _ => rfl
  have F_p_class_order := fun_mk (st := s_p_class_order) l_p_class_order c_p_class_order k_p_class_order
  have B_p_class_order := F_p_class_order.binds (ps := ["width", "size"]) fun _ _ _ _ _ _ us hl => match us, hl with | [_, _], _ => rfl
  have F_p_class_of := fun_mk (st := s_p_class_of) l_p_class_of c_p_class_of k_p_class_of
  have B_p_class_of := F_p_class_of.binds (ps := ["width", "size", "align"]) fun _ _ _ _ _ _ us hl => match us, hl with | [_, _, _], _ => rfl
  have F_l_draws := fun_mk (st := s_l_draws) l_l_draws c_l_draws k_l_draws
  have B_l_draws := F_l_draws.binds (ps := ["_law_script"]) fun _ _ _ _ _ _ us hl => match us, hl with | [_], _ => rfl
  have F_l_next_cell := fun_mk (st := s_l_next_cell) l_l_next_cell c_l_next_cell k_l_next_cell
  have B_l_next_cell := F_l_next_cell.binds (ps := ["_law_draws_here"]) fun _ _ _ _ _ _ us hl => match us, hl with | [_], _ => rfl
  have F_l_mixed := fun_mk (st := s_l_mixed) l_l_mixed c_l_mixed k_l_mixed
  have B_l_mixed := F_l_mixed.binds (ps := ["_law_seed", "_law_turn", "_law_many"]) fun _ _ _ _ _ _ us hl => match us, hl with | [_, _, _], _ => rfl
  have F_l_take := fun_mk (st := s_l_take) l_l_take c_l_take k_l_take
  have B_l_take := F_l_take.binds (ps := ["_law_draws_here", "_law_many"]) fun _ _ _ _ _ _ us hl => match us, hl with | [_, _], _ => rfl
  have F_l_among := fun_mk (st := s_l_among) l_l_among c_l_among k_l_among
  have B_l_among := F_l_among.binds (ps := ["_law_draws_here", "_law_row"]) fun _ _ _ _ _ _ us hl => match us, hl with | [_, _], _ => rfl
  have F_l_between := fun_mk (st := s_l_between) l_l_between c_l_between k_l_between
  have B_l_between := F_l_between.binds (ps := ["_law_draws_here", "_law_low", "_law_high"]) fun _ _ _ _ _ _ us hl => match us, hl with | [_, _, _], _ => rfl
  have F_l_number := fun_mk (st := s_l_number) l_l_number c_l_number k_l_number
  have B_l_number := F_l_number.binds (ps := ["_law_draws_here", "_law_low", "_law_high"]) fun _ _ _ _ _ _ us hl => match us, hl with | [_, _, _], _ => rfl
  have F_l_alignment := fun_mk (st := s_l_alignment) l_l_alignment c_l_alignment k_l_alignment
  have B_l_alignment := F_l_alignment.binds (ps := ["_law_draws_here", "_law_most"]) fun _ _ _ _ _ _ us hl => match us, hl with | [_, _], _ => rfl
  have F_l_power := fun_mk (st := s_l_power) l_l_power c_l_power k_l_power
  have B_l_power := F_l_power.binds (ps := ["_law_number_here"]) fun _ _ _ _ _ _ us hl => match us, hl with | [_], _ => rfl
  have F_l_up := fun_mk (st := s_l_up) l_l_up c_l_up k_l_up
  have B_l_up := F_l_up.binds (ps := ["_law_number_here", "_law_alignment_here"]) fun _ _ _ _ _ _ us hl => match us, hl with | [_, _], _ => rfl
  have F_l_long := fun_mk (st := s_l_long) l_l_long c_l_long k_l_long
  have B_l_long := F_l_long.binds (ps := []) fun _ _ _ _ _ _ us hl => match us, hl with | [], _ => rfl
  have F_l_not_integer := fun_mk (st := s_l_not_integer) l_l_not_integer c_l_not_integer k_l_not_integer
  have B_l_not_integer := F_l_not_integer.binds (ps := ["_law_draws_here"]) fun _ _ _ _ _ _ us hl => match us, hl with | [_], _ => rfl
  have F_l_not_within := fun_mk (st := s_l_not_within) l_l_not_within c_l_not_within k_l_not_within
  have B_l_not_within := F_l_not_within.binds (ps := ["_law_draws_here", "_law_low", "_law_high"]) fun _ _ _ _ _ _ us hl => match us, hl with | [_, _, _], _ => rfl
  have F_l_not_among := fun_mk (st := s_l_not_among) l_l_not_among c_l_not_among k_l_not_among
  have B_l_not_among := F_l_not_among.binds (ps := ["_law_draws_here", "_law_row"]) fun _ _ _ _ _ _ us hl => match us, hl with | [_, _], _ => rfl
  have F_l_not_alignment := fun_mk (st := s_l_not_alignment) l_l_not_alignment c_l_not_alignment k_l_not_alignment
  have B_l_not_alignment := F_l_not_alignment.binds (ps := ["_law_draws_here", "_law_most"]) fun _ _ _ _ _ _ us hl => match us, hl with | [_, _], _ => rfl
  have F_l_is_int := fun_mk (st := s_l_is_int) l_l_is_int c_l_is_int k_l_is_int
  have B_l_is_int := F_l_is_int.binds (ps := ["_law_value"]) fun _ _ _ _ _ _ us hl => match us, hl with | [_], _ => rfl
  have F_l_is_within := fun_mk (st := s_l_is_within) l_l_is_within c_l_is_within k_l_is_within
  have B_l_is_within := F_l_is_within.binds (ps := ["_law_value", "_law_low", "_law_high"]) fun _ _ _ _ _ _ us hl => match us, hl with | [_, _, _], _ => rfl
  have F_l_is_ints := fun_mk (st := s_l_is_ints) l_l_is_ints c_l_is_ints k_l_is_ints
  have B_l_is_ints := F_l_is_ints.binds (ps := ["_law_value", "_law_listed", "_law_many"]) fun _ _ _ _ _ _ us hl => match us, hl with | [_, _, _], _ => rfl
  have F_l_same := fun_mk (st := s_l_same) l_l_same c_l_same k_l_same
  have B_l_same := F_l_same.binds (ps := ["_law_actual", "_law_expected"]) fun _ _ _ _ _ _ us hl => match us, hl with | [_, _], _ => rfl
  have F_l_class_sizes := fun_mk (st := s_l_class_sizes) l_l_class_sizes c_l_class_sizes k_l_class_sizes
  have B_l_class_sizes := F_l_class_sizes.binds (ps := ["_law_page_width"]) fun _ _ _ _ _ _ us hl => match us, hl with | [_], _ => rfl
  have F_l_class_ask := fun_mk (st := s_l_class_ask) l_l_class_ask c_l_class_ask k_l_class_ask
  have B_l_class_ask := F_l_class_ask.binds (ps := ["_law_draws_here"]) fun _ _ _ _ _ _ us hl => match us, hl with | [_], _ => rfl
  have F_l_is_grain := fun_mk (st := s_l_is_grain) l_l_is_grain c_l_is_grain k_l_is_grain
  have B_l_is_grain := F_l_is_grain.binds (ps := ["_law_size", "_law_told"]) fun _ _ _ _ _ _ us hl => match us, hl with | [_, _], _ => rfl
  have F_l_two_fit := fun_mk (st := s_l_two_fit) l_l_two_fit c_l_two_fit k_l_two_fit
  have B_l_two_fit := F_l_two_fit.binds (ps := ["_law_page_width", "_law_power_here", "_law_size", "_law_grain"]) fun _ _ _ _ _ _ us hl => match us, hl with | [_, _, _, _], _ => rfl
  have F_l_is_order := fun_mk (st := s_l_is_order) l_l_is_order c_l_is_order k_l_is_order
  have B_l_is_order := F_l_is_order.binds (ps := ["_law_page_width", "_law_size", "_law_told"]) fun _ _ _ _ _ _ us hl => match us, hl with | [_, _, _], _ => rfl
  have F_l_is_class := fun_mk (st := s_l_is_class) l_l_is_class c_l_is_class k_l_is_class
  have B_l_is_class := F_l_is_class.binds (ps := ["_law_sizes", "_law_size", "_law_alignment_here", "_law_told"]) fun _ _ _ _ _ _ us hl => match us, hl with | [_, _, _, _], _ => rfl
  have F_l_refusal := fun_mk (st := s_l_refusal) l_l_refusal c_l_refusal k_l_refusal
  have B_l_refusal := F_l_refusal.binds (ps := ["_law_name", "_law_row"]) fun _ _ _ _ _ _ us hl => match us, hl with | [_, _], _ => rfl
  have F_l_refuses := fun_mk (st := s_l_refuses) l_l_refuses c_l_refuses k_l_refuses
  have B_l_refuses := F_l_refuses.binds (ps := ["_law_draws_here", "_law_ask"]) fun _ _ _ _ _ _ us hl => match us, hl with | [_, _], _ => rfl
  have F_l_law := fun_mk (st := s_l_law) l_l_law c_l_law k_l_law
  have B_l_law := F_l_law.binds (ps := ["_law_script"]) fun _ _ _ _ _ _ us hl => match us, hl with | [_], _ => rfl
  have ox_BadValue : OexC K C_BadValue := { cls := ⟨nm_BadValue, qn_BadValue, N_BadValue, bs_BadValue, _, sn_BadValue, sub_BadValue, ab_BadValue, col_BadValue, dd_BadValue, m0_BadValue, m1_BadValue, m2_BadValue, m3_BadValue, m5_BadValue, x_BadValue, rfl⟩, sa := sa_BadValue, exC := eb_BadValue, tyC := ty_BadValue, kC := kp_BadValue }
  have xf_BadValue : XfC K C_BadValue := ⟨ga_BadValue, gg_BadValue, eb_BadValue, hd_BadValue⟩
  have ex_BadValue : ExcC K C_BadValue := ⟨ga_BadValue, gg_BadValue, eb_BadValue, hd_BadValue, cc_BadValue, sp1, sp2, mo_BadValue⟩
  have xm_BadValue_BadValue : PySem.W.exmOne K (.ref C_BadValue) (.ref C_BadValue) = some true := PySem.W.exm_ref eb_BadValue hd_BadValue ty_BadValue sub_BadValue_BadValue
  have bv : BvC K C_BadValue := ⟨ox_BadValue, nf_BadValue_parameter, nf_BadValue_told⟩
  have bu : BvU K { k_StoreError := C_StoreError, k_BadValue := C_BadValue, k_Broken := 0, k_Unknown := C_Unknown, k_NotHeld := 0, k_Fault := 0, k_NoRoom := 0, k_Cut := 0, k_BadLine := 0, x_SIZES := X_SIZES } := ⟨bv, ex_BadValue, xf_BadValue, kit_BadValue_StoreError, kit_BadValue_ValueError, kit_BadValue_Unknown, xm_BadValue_BadValue⟩
  let a : Ad := { c := { k_StoreError := C_StoreError, k_BadValue := C_BadValue, k_Broken := 0, k_Unknown := C_Unknown, k_NotHeld := 0, k_Fault := 0, k_NoRoom := 0, k_Cut := 0, k_BadLine := 0, x_SIZES := X_SIZES }, c_BadValue_init := f_c_BadValue_init, c_BadValue_init_d := PySem.W.fnOf "__init__" "BadValue.__init__" (defArgs s_c_BadValue_init) (defBody s_c_BadValue_init) (defScope s_c_BadValue_init) .none kV_c_BadValue_init dc_c_BadValue_init pm_c_BadValue_init an_c_BadValue_init cd_c_BadValue_init ct_c_BadValue_init, p_is_whole := f_p_is_whole, p_is_whole_d := PySem.W.fnOf "is_whole" "is_whole" (defArgs s_p_is_whole) (defBody s_p_is_whole) (defScope s_p_is_whole) .none kV_p_is_whole dc_p_is_whole pm_p_is_whole an_p_is_whole cd_p_is_whole ct_p_is_whole, p_whole_between := f_p_whole_between, p_whole_between_d := PySem.W.fnOf "whole_between" "whole_between" (defArgs s_p_whole_between) (defBody s_p_whole_between) (defScope s_p_whole_between) .none kV_p_whole_between dc_p_whole_between pm_p_whole_between an_p_whole_between cd_p_whole_between ct_p_whole_between, p_is_power := f_p_is_power, p_is_power_d := PySem.W.fnOf "is_power" "is_power" (defArgs s_p_is_power) (defBody s_p_is_power) (defScope s_p_is_power) .none kV_p_is_power dc_p_is_power pm_p_is_power an_p_is_power cd_p_is_power ct_p_is_power, p_is_align := f_p_is_align, p_is_align_d := PySem.W.fnOf "is_align" "is_align" (defArgs s_p_is_align) (defBody s_p_is_align) (defScope s_p_is_align) .none kV_p_is_align dc_p_is_align pm_p_is_align an_p_is_align cd_p_is_align ct_p_is_align, p_align_up := f_p_align_up, p_align_up_d := PySem.W.fnOf "align_up" "align_up" (defArgs s_p_align_up) (defBody s_p_align_up) (defScope s_p_align_up) .none kV_p_align_up dc_p_align_up pm_p_align_up an_p_align_up cd_p_align_up ct_p_align_up, p_power_in := f_p_power_in, p_power_in_d := PySem.W.fnOf "power_in" "power_in" (defArgs s_p_power_in) (defBody s_p_power_in) (defScope s_p_power_in) .none kV_p_power_in dc_p_power_in pm_p_power_in an_p_power_in cd_p_power_in ct_p_power_in, p_check_whole := f_p_check_whole, p_check_whole_d := PySem.W.fnOf "check_whole" "check_whole" (defArgs s_p_check_whole) (defBody s_p_check_whole) (defScope s_p_check_whole) .none kV_p_check_whole dc_p_check_whole pm_p_check_whole an_p_check_whole cd_p_check_whole ct_p_check_whole, p_check_align := f_p_check_align, p_check_align_d := PySem.W.fnOf "check_align" "check_align" (defArgs s_p_check_align) (defBody s_p_check_align) (defScope s_p_check_align) .none kV_p_check_align dc_p_check_align pm_p_check_align an_p_check_align cd_p_check_align ct_p_check_align, p_check_width := f_p_check_width, p_check_width_d := PySem.W.fnOf "check_width" "check_width" (defArgs s_p_check_width) (defBody s_p_check_width) (defScope s_p_check_width) .none kV_p_check_width dc_p_check_width pm_p_check_width an_p_check_width cd_p_check_width ct_p_check_width, p_check_class_size := f_p_check_class_size, p_check_class_size_d := PySem.W.fnOf "check_class_size" "check_class_size" (defArgs s_p_check_class_size) (defBody s_p_check_class_size) (defScope s_p_check_class_size) .none kV_p_check_class_size dc_p_check_class_size pm_p_check_class_size an_p_check_class_size cd_p_check_class_size ct_p_check_class_size, p_slab_shape := f_p_slab_shape, p_slab_shape_d := PySem.W.fnOf "slab_shape" "slab_shape" (defArgs s_p_slab_shape) (defBody s_p_slab_shape) (defScope s_p_slab_shape) .none kV_p_slab_shape dc_p_slab_shape pm_p_slab_shape an_p_slab_shape cd_p_slab_shape ct_p_slab_shape, p_class_sizes := f_p_class_sizes, p_class_sizes_d := PySem.W.fnOf "class_sizes" "class_sizes" (defArgs s_p_class_sizes) (defBody s_p_class_sizes) (defScope s_p_class_sizes) .none kV_p_class_sizes dc_p_class_sizes pm_p_class_sizes an_p_class_sizes cd_p_class_sizes ct_p_class_sizes, p_class_align := f_p_class_align, p_class_align_d := PySem.W.fnOf "class_align" "class_align" (defArgs s_p_class_align) (defBody s_p_class_align) (defScope s_p_class_align) .none kV_p_class_align dc_p_class_align pm_p_class_align an_p_class_align cd_p_class_align ct_p_class_align, p_class_order := f_p_class_order, p_class_order_d := PySem.W.fnOf "class_order" "class_order" (defArgs s_p_class_order) (defBody s_p_class_order) (defScope s_p_class_order) .none kV_p_class_order dc_p_class_order pm_p_class_order an_p_class_order cd_p_class_order ct_p_class_order, p_class_of := f_p_class_of, p_class_of_d := PySem.W.fnOf "class_of" "class_of" (defArgs s_p_class_of) (defBody s_p_class_of) (defScope s_p_class_of) .none kV_p_class_of dc_p_class_of pm_p_class_of an_p_class_of cd_p_class_of ct_p_class_of, l_draws := f_l_draws, l_draws_d := PySem.W.fnOf "_law_draws" "_law_draws" (defArgs s_l_draws) (defBody s_l_draws) (defScope s_l_draws) .none kV_l_draws dc_l_draws pm_l_draws an_l_draws cd_l_draws ct_l_draws, l_next_cell := f_l_next_cell, l_next_cell_d := PySem.W.fnOf "_law_next_cell" "_law_next_cell" (defArgs s_l_next_cell) (defBody s_l_next_cell) (defScope s_l_next_cell) .none kV_l_next_cell dc_l_next_cell pm_l_next_cell an_l_next_cell cd_l_next_cell ct_l_next_cell, l_mixed := f_l_mixed, l_mixed_d := PySem.W.fnOf "_law_mixed" "_law_mixed" (defArgs s_l_mixed) (defBody s_l_mixed) (defScope s_l_mixed) .none kV_l_mixed dc_l_mixed pm_l_mixed an_l_mixed cd_l_mixed ct_l_mixed, l_take := f_l_take, l_take_d := PySem.W.fnOf "_law_take" "_law_take" (defArgs s_l_take) (defBody s_l_take) (defScope s_l_take) .none kV_l_take dc_l_take pm_l_take an_l_take cd_l_take ct_l_take, l_among := f_l_among, l_among_d := PySem.W.fnOf "_law_among" "_law_among" (defArgs s_l_among) (defBody s_l_among) (defScope s_l_among) .none kV_l_among dc_l_among pm_l_among an_l_among cd_l_among ct_l_among, l_between := f_l_between, l_between_d := PySem.W.fnOf "_law_between" "_law_between" (defArgs s_l_between) (defBody s_l_between) (defScope s_l_between) .none kV_l_between dc_l_between pm_l_between an_l_between cd_l_between ct_l_between, l_number := f_l_number, l_number_d := PySem.W.fnOf "_law_number" "_law_number" (defArgs s_l_number) (defBody s_l_number) (defScope s_l_number) .none kV_l_number dc_l_number pm_l_number an_l_number cd_l_number ct_l_number, l_alignment := f_l_alignment, l_alignment_d := PySem.W.fnOf "_law_alignment" "_law_alignment" (defArgs s_l_alignment) (defBody s_l_alignment) (defScope s_l_alignment) .none kV_l_alignment dc_l_alignment pm_l_alignment an_l_alignment cd_l_alignment ct_l_alignment, l_power := f_l_power, l_power_d := PySem.W.fnOf "_law_power" "_law_power" (defArgs s_l_power) (defBody s_l_power) (defScope s_l_power) .none kV_l_power dc_l_power pm_l_power an_l_power cd_l_power ct_l_power, l_up := f_l_up, l_up_d := PySem.W.fnOf "_law_up" "_law_up" (defArgs s_l_up) (defBody s_l_up) (defScope s_l_up) .none kV_l_up dc_l_up pm_l_up an_l_up cd_l_up ct_l_up, l_long := f_l_long, l_long_d := PySem.W.fnOf "_law_long" "_law_long" (defArgs s_l_long) (defBody s_l_long) (defScope s_l_long) .none kV_l_long dc_l_long pm_l_long an_l_long cd_l_long ct_l_long, l_not_integer := f_l_not_integer, l_not_integer_d := PySem.W.fnOf "_law_not_integer" "_law_not_integer" (defArgs s_l_not_integer) (defBody s_l_not_integer) (defScope s_l_not_integer) .none kV_l_not_integer dc_l_not_integer pm_l_not_integer an_l_not_integer cd_l_not_integer ct_l_not_integer, l_not_within := f_l_not_within, l_not_within_d := PySem.W.fnOf "_law_not_within" "_law_not_within" (defArgs s_l_not_within) (defBody s_l_not_within) (defScope s_l_not_within) .none kV_l_not_within dc_l_not_within pm_l_not_within an_l_not_within cd_l_not_within ct_l_not_within, l_not_among := f_l_not_among, l_not_among_d := PySem.W.fnOf "_law_not_among" "_law_not_among" (defArgs s_l_not_among) (defBody s_l_not_among) (defScope s_l_not_among) .none kV_l_not_among dc_l_not_among pm_l_not_among an_l_not_among cd_l_not_among ct_l_not_among, l_not_alignment := f_l_not_alignment, l_not_alignment_d := PySem.W.fnOf "_law_not_alignment" "_law_not_alignment" (defArgs s_l_not_alignment) (defBody s_l_not_alignment) (defScope s_l_not_alignment) .none kV_l_not_alignment dc_l_not_alignment pm_l_not_alignment an_l_not_alignment cd_l_not_alignment ct_l_not_alignment, l_is_int := f_l_is_int, l_is_int_d := PySem.W.fnOf "_law_is_int" "_law_is_int" (defArgs s_l_is_int) (defBody s_l_is_int) (defScope s_l_is_int) .none kV_l_is_int dc_l_is_int pm_l_is_int an_l_is_int cd_l_is_int ct_l_is_int, l_is_within := f_l_is_within, l_is_within_d := PySem.W.fnOf "_law_is_within" "_law_is_within" (defArgs s_l_is_within) (defBody s_l_is_within) (defScope s_l_is_within) .none kV_l_is_within dc_l_is_within pm_l_is_within an_l_is_within cd_l_is_within ct_l_is_within, l_is_ints := f_l_is_ints, l_is_ints_d := PySem.W.fnOf "_law_is_ints" "_law_is_ints" (defArgs s_l_is_ints) (defBody s_l_is_ints) (defScope s_l_is_ints) .none kV_l_is_ints dc_l_is_ints pm_l_is_ints an_l_is_ints cd_l_is_ints ct_l_is_ints, l_same := f_l_same, l_same_d := PySem.W.fnOf "_law_same" "_law_same" (defArgs s_l_same) (defBody s_l_same) (defScope s_l_same) .none kV_l_same dc_l_same pm_l_same an_l_same cd_l_same ct_l_same, l_class_sizes := f_l_class_sizes, l_class_sizes_d := PySem.W.fnOf "_law_class_sizes" "_law_class_sizes" (defArgs s_l_class_sizes) (defBody s_l_class_sizes) (defScope s_l_class_sizes) .none kV_l_class_sizes dc_l_class_sizes pm_l_class_sizes an_l_class_sizes cd_l_class_sizes ct_l_class_sizes, l_class_ask := f_l_class_ask, l_class_ask_d := PySem.W.fnOf "_law_class_ask" "_law_class_ask" (defArgs s_l_class_ask) (defBody s_l_class_ask) (defScope s_l_class_ask) .none kV_l_class_ask dc_l_class_ask pm_l_class_ask an_l_class_ask cd_l_class_ask ct_l_class_ask, l_is_grain := f_l_is_grain, l_is_grain_d := PySem.W.fnOf "_law_is_grain" "_law_is_grain" (defArgs s_l_is_grain) (defBody s_l_is_grain) (defScope s_l_is_grain) .none kV_l_is_grain dc_l_is_grain pm_l_is_grain an_l_is_grain cd_l_is_grain ct_l_is_grain, l_two_fit := f_l_two_fit, l_two_fit_d := PySem.W.fnOf "_law_two_fit" "_law_two_fit" (defArgs s_l_two_fit) (defBody s_l_two_fit) (defScope s_l_two_fit) .none kV_l_two_fit dc_l_two_fit pm_l_two_fit an_l_two_fit cd_l_two_fit ct_l_two_fit, l_is_order := f_l_is_order, l_is_order_d := PySem.W.fnOf "_law_is_order" "_law_is_order" (defArgs s_l_is_order) (defBody s_l_is_order) (defScope s_l_is_order) .none kV_l_is_order dc_l_is_order pm_l_is_order an_l_is_order cd_l_is_order ct_l_is_order, l_is_class := f_l_is_class, l_is_class_d := PySem.W.fnOf "_law_is_class" "_law_is_class" (defArgs s_l_is_class) (defBody s_l_is_class) (defScope s_l_is_class) .none kV_l_is_class dc_l_is_class pm_l_is_class an_l_is_class cd_l_is_class ct_l_is_class, l_refusal := f_l_refusal, l_refusal_d := PySem.W.fnOf "_law_refusal" "_law_refusal" (defArgs s_l_refusal) (defBody s_l_refusal) (defScope s_l_refusal) .none kV_l_refusal dc_l_refusal pm_l_refusal an_l_refusal cd_l_refusal ct_l_refusal, l_refuses := f_l_refuses, l_refuses_d := PySem.W.fnOf "_law_refuses" "_law_refuses" (defArgs s_l_refuses) (defBody s_l_refuses) (defScope s_l_refuses) .none kV_l_refuses dc_l_refuses pm_l_refuses an_l_refuses cd_l_refuses ct_l_refuses, l_law := fa, l_law_d := PySem.W.fnOf "law" "law" (defArgs s_l_law) (defBody s_l_law) (defScope s_l_law) .none kV_l_law dc_l_law pm_l_law an_l_law cd_l_law ct_l_law, v_MOST_ALIGN_slots := v_MOST_ALIGN_slots, v_MOST_ALIGN_spans := v_MOST_ALIGN_spans, v_MOST_END := v_MOST_END, v_MOST_SIZE := v_MOST_SIZE }
  have T : Txt K mg a := { b_ValueError := PySem.W.mg_none_of X G z_ValueError, b_bool := PySem.W.mg_none_of X G z_bool, b_dict := PySem.W.mg_none_of X G z_dict, b_enumerate := PySem.W.mg_none_of X G z_enumerate, b_int := PySem.W.mg_none_of X G z_int, b_isinstance := PySem.W.mg_none_of X G z_isinstance, b_len := PySem.W.mg_none_of X G z_len, b_list := PySem.W.mg_none_of X G z_list, b_max := PySem.W.mg_none_of X G z_max, b_min := PySem.W.mg_none_of X G z_min, b_range := PySem.W.mg_none_of X G z_range, b_str := PySem.W.mg_none_of X G z_str, b_tuple := PySem.W.mg_none_of X G z_tuple, g_MOST_ALIGN_slots := PySem.W.mg_of X G g_MOST_ALIGN_slots, r_MOST_ALIGN_slots := r_MOST_ALIGN_slots, g_MOST_ALIGN_spans := PySem.W.mg_of X G g_MOST_ALIGN_spans, r_MOST_ALIGN_spans := r_MOST_ALIGN_spans, g_MOST_END := PySem.W.mg_of X G g_MOST_END, r_MOST_END := r_MOST_END, g_MOST_SIZE := PySem.W.mg_of X G g_MOST_SIZE, r_MOST_SIZE := r_MOST_SIZE, g_SIZES := PySem.W.mg_of X G g_SIZES, u_SIZES := u_SIZES, k_StoreError := PySem.W.mg_of X G q_StoreError, k_BadValue := PySem.W.mg_of X G q_BadValue, k_Unknown := PySem.W.mg_of X G q_Unknown, c_BadValue_init := ⟨F_c_BadValue_init, B_c_BadValue_init⟩, p_is_whole := ⟨F_p_is_whole, PySem.W.mg_of X G a_p_is_whole, B_p_is_whole⟩, p_whole_between := ⟨F_p_whole_between, PySem.W.mg_of X G a_p_whole_between, B_p_whole_between⟩, p_is_power := ⟨F_p_is_power, PySem.W.mg_of X G a_p_is_power, B_p_is_power⟩, p_is_align := ⟨F_p_is_align, PySem.W.mg_of X G a_p_is_align, B_p_is_align⟩, p_align_up := ⟨F_p_align_up, PySem.W.mg_of X G a_p_align_up, B_p_align_up⟩, p_power_in := ⟨F_p_power_in, PySem.W.mg_of X G a_p_power_in, B_p_power_in⟩, p_check_whole := ⟨F_p_check_whole, PySem.W.mg_of X G a_p_check_whole, B_p_check_whole⟩, p_check_align := ⟨F_p_check_align, PySem.W.mg_of X G a_p_check_align, B_p_check_align⟩, p_check_width := ⟨F_p_check_width, PySem.W.mg_of X G a_p_check_width, B_p_check_width⟩, p_check_class_size := ⟨F_p_check_class_size, PySem.W.mg_of X G a_p_check_class_size, B_p_check_class_size⟩, p_slab_shape := ⟨F_p_slab_shape, PySem.W.mg_of X G a_p_slab_shape, B_p_slab_shape⟩, p_class_sizes := ⟨F_p_class_sizes, PySem.W.mg_of X G a_p_class_sizes, B_p_class_sizes⟩, p_class_align := ⟨F_p_class_align, PySem.W.mg_of X G a_p_class_align, B_p_class_align⟩, p_class_order := ⟨F_p_class_order, PySem.W.mg_of X G a_p_class_order, B_p_class_order⟩, p_class_of := ⟨F_p_class_of, PySem.W.mg_of X G a_p_class_of, B_p_class_of⟩, l_draws := ⟨F_l_draws, PySem.W.mg_of X G a_l_draws, B_l_draws⟩, l_next_cell := ⟨F_l_next_cell, PySem.W.mg_of X G a_l_next_cell, B_l_next_cell⟩, l_mixed := ⟨F_l_mixed, PySem.W.mg_of X G a_l_mixed, B_l_mixed⟩, l_take := ⟨F_l_take, PySem.W.mg_of X G a_l_take, B_l_take⟩, l_among := ⟨F_l_among, PySem.W.mg_of X G a_l_among, B_l_among⟩, l_between := ⟨F_l_between, PySem.W.mg_of X G a_l_between, B_l_between⟩, l_number := ⟨F_l_number, PySem.W.mg_of X G a_l_number, B_l_number⟩, l_alignment := ⟨F_l_alignment, PySem.W.mg_of X G a_l_alignment, B_l_alignment⟩, l_power := ⟨F_l_power, PySem.W.mg_of X G a_l_power, B_l_power⟩, l_up := ⟨F_l_up, PySem.W.mg_of X G a_l_up, B_l_up⟩, l_long := ⟨F_l_long, PySem.W.mg_of X G a_l_long, B_l_long⟩, l_not_integer := ⟨F_l_not_integer, PySem.W.mg_of X G a_l_not_integer, B_l_not_integer⟩, l_not_within := ⟨F_l_not_within, PySem.W.mg_of X G a_l_not_within, B_l_not_within⟩, l_not_among := ⟨F_l_not_among, PySem.W.mg_of X G a_l_not_among, B_l_not_among⟩, l_not_alignment := ⟨F_l_not_alignment, PySem.W.mg_of X G a_l_not_alignment, B_l_not_alignment⟩, l_is_int := ⟨F_l_is_int, PySem.W.mg_of X G a_l_is_int, B_l_is_int⟩, l_is_within := ⟨F_l_is_within, PySem.W.mg_of X G a_l_is_within, B_l_is_within⟩, l_is_ints := ⟨F_l_is_ints, PySem.W.mg_of X G a_l_is_ints, B_l_is_ints⟩, l_same := ⟨F_l_same, PySem.W.mg_of X G a_l_same, B_l_same⟩, l_class_sizes := ⟨F_l_class_sizes, PySem.W.mg_of X G a_l_class_sizes, B_l_class_sizes⟩, l_class_ask := ⟨F_l_class_ask, PySem.W.mg_of X G a_l_class_ask, B_l_class_ask⟩, l_is_grain := ⟨F_l_is_grain, PySem.W.mg_of X G a_l_is_grain, B_l_is_grain⟩, l_two_fit := ⟨F_l_two_fit, PySem.W.mg_of X G a_l_two_fit, B_l_two_fit⟩, l_is_order := ⟨F_l_is_order, PySem.W.mg_of X G a_l_is_order, B_l_is_order⟩, l_is_class := ⟨F_l_is_class, PySem.W.mg_of X G a_l_is_class, B_l_is_class⟩, l_refusal := ⟨F_l_refusal, PySem.W.mg_of X G a_l_refusal, B_l_refusal⟩, l_refuses := ⟨F_l_refuses, PySem.W.mg_of X G a_l_refuses, B_l_refuses⟩, l_law := ⟨F_l_law, PySem.W.mg_of X G a_l_law, B_l_law⟩, bv := bv, iC := a_c_BadValue_init, tI := t_c_BadValue_init, bu := bu }
  exact ⟨PySem.W.fnOf "law" "law" (defArgs s_l_law) (defBody s_l_law) (defScope s_l_law) .none kV_l_law dc_l_law pm_l_law an_l_law cd_l_law ct_l_law, fun s u => .of_eq rfl, fun base _ _ => (ok_l_law T).imp fun vs H Q E h => by obtain ⟨x, ns, e, h1, h2, h3⟩ := h; exact ⟨x, ns, e, h1, h2, bu, u_SIZES, h3⟩⟩
end K26
section
open PySem PySem.W PyProof.Rows
set_option maxHeartbeats 8000000
open_top K26_hd for PySem.Challenge.rw_allgivenback_k26_classes
end
open PySem PySem.W PyProof.Rows
set_option maxRecDepth 100000 in
set_option maxHeartbeats 8000000 in
theorem PySem.Challenge.cw_allgivenback_k26_classes_holds : PySem.Challenge.rw_allgivenback_k26_classes.Holds := by
  refine K26_hd ?_
  k_fill
  refine L2.walk_ofK (l := PySem.Challenge.rw_allgivenback_k26_classes) (n := 63) (k := 10) (x := "_law_script") (CX := L2.CX0) (sp := Gv.sp_end) rfl (by decide) rfl ⟨rfl, by decide, by decide⟩ (fun w h Y => PySem.W.kIn_of Y) ?F (fun K H a ns hl _ hS => ⟨a, ns, rfl, hS, hl, fun _ => rfl⟩) (fun _ _ _ _ z => z)
  case F =>
    intro w mg fa h KX G hmg
    refine' K26.all_mk KX G hmg ?q_StoreError ?q_BadValue ?q_Unknown ?a_c_BadValue_init ?t_c_BadValue_init ?l_c_BadValue_init ?c_c_BadValue_init ?k_c_BadValue_init ?a_p_is_whole ?l_p_is_whole ?c_p_is_whole ?k_p_is_whole ?a_p_whole_between ?l_p_whole_between ?c_p_whole_between ?k_p_whole_between ?a_p_is_power ?l_p_is_power ?c_p_is_power ?k_p_is_power ?a_p_is_align ?l_p_is_align ?c_p_is_align ?k_p_is_align ?a_p_align_up ?l_p_align_up ?c_p_align_up ?k_p_align_up ?a_p_power_in ?l_p_power_in ?c_p_power_in ?k_p_power_in ?a_p_check_whole ?l_p_check_whole ?c_p_check_whole ?k_p_check_whole ?a_p_check_align ?l_p_check_align ?c_p_check_align ?k_p_check_align ?a_p_check_width ?l_p_check_width ?c_p_check_width ?k_p_check_width ?a_p_check_class_size ?l_p_check_class_size ?c_p_check_class_size ?k_p_check_class_size ?a_p_slab_shape ?l_p_slab_shape ?c_p_slab_shape ?k_p_slab_shape ?a_p_class_sizes ?l_p_class_sizes ?c_p_class_sizes ?k_p_class_sizes ?a_p_class_align ?l_p_class_align ?c_p_class_align ?k_p_class_align ?a_p_class_order ?l_p_class_order ?c_p_class_order ?k_p_class_order ?a_p_class_of ?l_p_class_of ?c_p_class_of ?k_p_class_of ?a_l_draws ?l_l_draws ?c_l_draws ?k_l_draws ?a_l_next_cell ?l_l_next_cell ?c_l_next_cell ?k_l_next_cell ?a_l_mixed ?l_l_mixed ?c_l_mixed ?k_l_mixed ?a_l_take ?l_l_take ?c_l_take ?k_l_take ?a_l_among ?l_l_among ?c_l_among ?k_l_among ?a_l_between ?l_l_between ?c_l_between ?k_l_between ?a_l_number ?l_l_number ?c_l_number ?k_l_number ?a_l_alignment ?l_l_alignment ?c_l_alignment ?k_l_alignment ?a_l_power ?l_l_power ?c_l_power ?k_l_power ?a_l_up ?l_l_up ?c_l_up ?k_l_up ?a_l_long ?l_l_long ?c_l_long ?k_l_long ?a_l_not_integer ?l_l_not_integer ?c_l_not_integer ?k_l_not_integer ?a_l_not_within ?l_l_not_within ?c_l_not_within ?k_l_not_within ?a_l_not_among ?l_l_not_among ?c_l_not_among ?k_l_not_among ?a_l_not_alignment ?l_l_not_alignment ?c_l_not_alignment ?k_l_not_alignment ?a_l_is_int ?l_l_is_int ?c_l_is_int ?k_l_is_int ?a_l_is_within ?l_l_is_within ?c_l_is_within ?k_l_is_within ?a_l_is_ints ?l_l_is_ints ?c_l_is_ints ?k_l_is_ints ?a_l_same ?l_l_same ?c_l_same ?k_l_same ?a_l_class_sizes ?l_l_class_sizes ?c_l_class_sizes ?k_l_class_sizes ?a_l_class_ask ?l_l_class_ask ?c_l_class_ask ?k_l_class_ask ?a_l_is_grain ?l_l_is_grain ?c_l_is_grain ?k_l_is_grain ?a_l_two_fit ?l_l_two_fit ?c_l_two_fit ?k_l_two_fit ?a_l_is_order ?l_l_is_order ?c_l_is_order ?k_l_is_order ?a_l_is_class ?l_l_is_class ?c_l_is_class ?k_l_is_class ?a_l_refusal ?l_l_refusal ?c_l_refusal ?k_l_refusal ?a_l_refuses ?l_l_refuses ?c_l_refuses ?k_l_refuses ?a_l_law ?l_l_law ?c_l_law ?k_l_law ?z_ValueError ?z_bool ?z_dict ?z_enumerate ?z_int ?z_isinstance ?z_len ?z_list ?z_max ?z_min ?z_range ?z_str ?z_tuple ?g_MOST_ALIGN_slots ?r_MOST_ALIGN_slots ?g_MOST_ALIGN_spans ?r_MOST_ALIGN_spans ?g_MOST_END ?r_MOST_END ?g_MOST_SIZE ?r_MOST_SIZE ?g_SIZES ?u_SIZES ?sa_StoreError ?ga_StoreError ?gg_StoreError ?cc_StoreError ?eb_StoreError ?ty_StoreError ?kp_StoreError ?hd_StoreError ?mo_StoreError ?sa_BadValue ?ga_BadValue ?gg_BadValue ?cc_BadValue ?eb_BadValue ?ty_BadValue ?kp_BadValue ?hd_BadValue ?mo_BadValue ?x_BadValue ?nf_BadValue_parameter ?nf_BadValue_told ?sp1 ?sp2 ?kit_BadValue_StoreError ?kit_BadValue_ValueError ?kit_BadValue_Unknown ?sub_BadValue_BadValue
    (case q_StoreError => k_is)
    (case q_BadValue => k_is)
    (case q_Unknown => k_is)
    (case a_c_BadValue_init => k_is)
    (case t_c_BadValue_init => k_is)
    (case l_c_BadValue_init => k_is)
    (case c_c_BadValue_init => k_is)
    (case k_c_BadValue_init => k_is)
    (case a_p_is_whole => k_is)
    (case l_p_is_whole => k_is)
    (case c_p_is_whole => k_is)
    (case k_p_is_whole => k_is)
    (case a_p_whole_between => k_is)
    (case l_p_whole_between => k_is)
    (case c_p_whole_between => k_is)
    (case k_p_whole_between => k_is)
    (case a_p_is_power => k_is)
    (case l_p_is_power => k_is)
    (case c_p_is_power => k_is)
    (case k_p_is_power => k_is)
    (case a_p_is_align => k_is)
    (case l_p_is_align => k_is)
    (case c_p_is_align => k_is)
    (case k_p_is_align => k_is)
    (case a_p_align_up => k_is)
    (case l_p_align_up => k_is)
    (case c_p_align_up => k_is)
    (case k_p_align_up => k_is)
    (case a_p_power_in => k_is)
    (case l_p_power_in => k_is)
    (case c_p_power_in => k_is)
    (case k_p_power_in => k_is)
    (case a_p_check_whole => k_is)
    (case l_p_check_whole => k_is)
    (case c_p_check_whole => k_is)
    (case k_p_check_whole => k_is)
    (case a_p_check_align => k_is)
    (case l_p_check_align => k_is)
    (case c_p_check_align => k_is)
    (case k_p_check_align => k_is)
    (case a_p_check_width => k_is)
    (case l_p_check_width => k_is)
    (case c_p_check_width => k_is)
    (case k_p_check_width => k_is)
    (case a_p_check_class_size => k_is)
    (case l_p_check_class_size => k_is)
    (case c_p_check_class_size => k_is)
    (case k_p_check_class_size => k_is)
    (case a_p_slab_shape => k_is)
    (case l_p_slab_shape => k_is)
    (case c_p_slab_shape => k_is)
    (case k_p_slab_shape => k_is)
    (case a_p_class_sizes => k_is)
    (case l_p_class_sizes => k_is)
    (case c_p_class_sizes => k_is)
    (case k_p_class_sizes => k_is)
    (case a_p_class_align => k_is)
    (case l_p_class_align => k_is)
    (case c_p_class_align => k_is)
    (case k_p_class_align => k_is)
    (case a_p_class_order => k_is)
    (case l_p_class_order => k_is)
    (case c_p_class_order => k_is)
    (case k_p_class_order => k_is)
    (case a_p_class_of => k_is)
    (case l_p_class_of => k_is)
    (case c_p_class_of => k_is)
    (case k_p_class_of => k_is)
    (case a_l_draws => k_is)
    (case l_l_draws => k_is)
    (case c_l_draws => k_is)
    (case k_l_draws => k_is)
    (case a_l_next_cell => k_is)
    (case l_l_next_cell => k_is)
    (case c_l_next_cell => k_is)
    (case k_l_next_cell => k_is)
    (case a_l_mixed => k_is)
    (case l_l_mixed => k_is)
    (case c_l_mixed => k_is)
    (case k_l_mixed => k_is)
    (case a_l_take => k_is)
    (case l_l_take => k_is)
    (case c_l_take => k_is)
    (case k_l_take => k_is)
    (case a_l_among => k_is)
    (case l_l_among => k_is)
    (case c_l_among => k_is)
    (case k_l_among => k_is)
    (case a_l_between => k_is)
    (case l_l_between => k_is)
    (case c_l_between => k_is)
    (case k_l_between => k_is)
    (case a_l_number => k_is)
    (case l_l_number => k_is)
    (case c_l_number => k_is)
    (case k_l_number => k_is)
    (case a_l_alignment => k_is)
    (case l_l_alignment => k_is)
    (case c_l_alignment => k_is)
    (case k_l_alignment => k_is)
    (case a_l_power => k_is)
    (case l_l_power => k_is)
    (case c_l_power => k_is)
    (case k_l_power => k_is)
    (case a_l_up => k_is)
    (case l_l_up => k_is)
    (case c_l_up => k_is)
    (case k_l_up => k_is)
    (case a_l_long => k_is)
    (case l_l_long => k_is)
    (case c_l_long => k_is)
    (case k_l_long => k_is)
    (case a_l_not_integer => k_is)
    (case l_l_not_integer => k_is)
    (case c_l_not_integer => k_is)
    (case k_l_not_integer => k_is)
    (case a_l_not_within => k_is)
    (case l_l_not_within => k_is)
    (case c_l_not_within => k_is)
    (case k_l_not_within => k_is)
    (case a_l_not_among => k_is)
    (case l_l_not_among => k_is)
    (case c_l_not_among => k_is)
    (case k_l_not_among => k_is)
    (case a_l_not_alignment => k_is)
    (case l_l_not_alignment => k_is)
    (case c_l_not_alignment => k_is)
    (case k_l_not_alignment => k_is)
    (case a_l_is_int => k_is)
    (case l_l_is_int => k_is)
    (case c_l_is_int => k_is)
    (case k_l_is_int => k_is)
    (case a_l_is_within => k_is)
    (case l_l_is_within => k_is)
    (case c_l_is_within => k_is)
    (case k_l_is_within => k_is)
    (case a_l_is_ints => k_is)
    (case l_l_is_ints => k_is)
    (case c_l_is_ints => k_is)
    (case k_l_is_ints => k_is)
    (case a_l_same => k_is)
    (case l_l_same => k_is)
    (case c_l_same => k_is)
    (case k_l_same => k_is)
    (case a_l_class_sizes => k_is)
    (case l_l_class_sizes => k_is)
    (case c_l_class_sizes => k_is)
    (case k_l_class_sizes => k_is)
    (case a_l_class_ask => k_is)
    (case l_l_class_ask => k_is)
    (case c_l_class_ask => k_is)
    (case k_l_class_ask => k_is)
    (case a_l_is_grain => k_is)
    (case l_l_is_grain => k_is)
    (case c_l_is_grain => k_is)
    (case k_l_is_grain => k_is)
    (case a_l_two_fit => k_is)
    (case l_l_two_fit => k_is)
    (case c_l_two_fit => k_is)
    (case k_l_two_fit => k_is)
    (case a_l_is_order => k_is)
    (case l_l_is_order => k_is)
    (case c_l_is_order => k_is)
    (case k_l_is_order => k_is)
    (case a_l_is_class => k_is)
    (case l_l_is_class => k_is)
    (case c_l_is_class => k_is)
    (case k_l_is_class => k_is)
    (case a_l_refusal => k_is)
    (case l_l_refusal => k_is)
    (case c_l_refusal => k_is)
    (case k_l_refusal => k_is)
    (case a_l_refuses => k_is)
    (case l_l_refuses => k_is)
    (case c_l_refuses => k_is)
    (case k_l_refuses => k_is)
    (case a_l_law => k_is)
    (case l_l_law => k_is)
    (case c_l_law => k_is)
    (case k_l_law => k_is)
    (case z_ValueError => k_is)
    (case z_bool => k_is)
    (case z_dict => k_is)
    (case z_enumerate => k_is)
    (case z_int => k_is)
    (case z_isinstance => k_is)
    (case z_len => k_is)
    (case z_list => k_is)
    (case z_max => k_is)
    (case z_min => k_is)
    (case z_range => k_is)
    (case z_str => k_is)
    (case z_tuple => k_is)
    (case g_MOST_ALIGN_slots => k_is)
    (case r_MOST_ALIGN_slots => exact ⟨_, rfl⟩)
    (case g_MOST_ALIGN_spans => k_is)
    (case r_MOST_ALIGN_spans => exact ⟨_, rfl⟩)
    (case g_MOST_END => k_is)
    (case r_MOST_END => exact ⟨_, rfl⟩)
    (case g_MOST_SIZE => k_is)
    (case r_MOST_SIZE => exact ⟨_, rfl⟩)
    (case g_SIZES => k_is)
    (case u_SIZES => first | exact ⟨_, _, _, rfl, rfl, rfl, by decide, .cons ⟨_, rfl⟩ (.cons ⟨_, rfl⟩ (.cons ⟨_, rfl⟩ (.cons ⟨_, rfl⟩ (.cons ⟨_, rfl⟩ (.cons ⟨_, rfl⟩ (.cons ⟨_, rfl⟩ (.cons ⟨_, rfl⟩ (.cons ⟨_, rfl⟩ (.cons ⟨_, rfl⟩ (.nil))))))))))⟩ | exact ⟨_, _, _, by k_is, rfl, rfl, by decide, .cons ⟨_, rfl⟩ (.cons ⟨_, rfl⟩ (.cons ⟨_, rfl⟩ (.cons ⟨_, rfl⟩ (.cons ⟨_, rfl⟩ (.cons ⟨_, rfl⟩ (.cons ⟨_, rfl⟩ (.cons ⟨_, rfl⟩ (.cons ⟨_, rfl⟩ (.cons ⟨_, rfl⟩ (.nil))))))))))⟩)
    (case sa_StoreError => k_is)
    (case ga_StoreError => k_is)
    (case gg_StoreError => k_is)
    (case cc_StoreError => k_is)
    (case eb_StoreError => k_is)
    (case ty_StoreError => k_is)
    (case kp_StoreError => k_is)
    (case hd_StoreError => k_is)
    (case mo_StoreError => k_is)
    (case sa_BadValue => k_is)
    (case ga_BadValue => k_is)
    (case gg_BadValue => k_is)
    (case cc_BadValue => k_is)
    (case eb_BadValue => k_is)
    (case ty_BadValue => k_is)
    (case kp_BadValue => k_is)
    (case hd_BadValue => k_is)
    (case mo_BadValue => k_is)
    (case x_BadValue => k_is)
    (case nf_BadValue_parameter => k_is)
    (case nf_BadValue_told => k_is)
    (case sp1 => k_is)
    (case sp2 => k_is)
    (case kit_BadValue_StoreError => first | rfl | k_is)
    (case kit_BadValue_ValueError => first | rfl | k_is)
    (case kit_BadValue_Unknown => first | rfl | k_is)
    (case sub_BadValue_BadValue => first | rfl | k_is)
