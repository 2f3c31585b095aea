import PyProof.Rows.All
import Wide.All
import OpenK.AllK
import Wide.FinOn
import HandS.ForMost
import HandS.ForExc
import HandS.ExcInit
import HandS.ExcField
import HandS.ExcIs
import HandS.IsInst
import HandS.HotCalls
import HandS.Wide
import HandS.WideBits
import HandS.Flow
import KE.KExcIs
import KE.KCount
import KE.KBytesJoin
import PySem.Challenge.RW_allgivenback_k46_serves
set_option Elab.async false
set_option linter.all false
set_option maxRecDepth 100000
set_option maxHeartbeats 3000000
namespace Gv
open PySem L2 PySem.Spec PyProof.Rows
/-! ## Rules -/
/-! Own rules: a caught exception tracked in the abstract heap; defs that run while one is handled. -/
abbrev St := L2.St
/-- at a: an exception object of the class cls, its dict at d -/
def exi (a : Addr) (cls : Value) (d : Option Addr) : HO := .ext fun g => ∃ (ob : Obj) (fv : Array Value), g.get? a = some ob ∧ Zc cls d ob ∧ ob.data = .fields fv
theorem exi_ok {P : Program} {w : World} {H : Hp} {g : Heap} {a : Addr} {cls : Value} {d : Option Addr} {ob : Obj} {fv : Array Value} (e : g.get? a = some ob) (z : Zc cls d ob) (hd : ob.data = .fields fv) : ObjOk P w H g a (exi a cls d) :=
  ⟨⟨ob, fv, e, z, hd⟩, ⟨ob, e⟩, fun _ _ ⟨o, v, q, r⟩ k => ⟨o, v, k o q, r⟩⟩
theorem exi_at {P : Program} {w : World} {H : Hp} {g : Heap} {a : Addr} {cls : Value} {d : Option Addr} (ok : HOk P w H g) (he : H a = some (exi a cls d)) : ∃ (ob : Obj) (fv : Array Value), g.get? a = some ob ∧ Zc cls d ob ∧ ob.data = .fields fv :=
  (show ObjOk P w H g a (.ext fun g => ∃ (ob : Obj) (fv : Array Value), g.get? a = some ob ∧ Zc cls d ob ∧ ob.data = .fields fv) from ok a _ he).1
/-- a pinned exception that the entry did not know becomes a tracked one -/
theorem track {X : Cx} {σ : St} {H : Hp} {s : Shared} {a : Addr} {ob : Obj} {pn : List (Addr × Obj)} {cls : Value} {d : Option Addr} (okX : X.Ok) (I : Inv (X.suite a ((a, ob) :: pn)) [] σ H s) (new0 : X.s_0.heap.get? a = none) (off : ∀ p ∈ pn, p.1 ≠ a) (hz : Zc cls d ob) (hd : ∃ fv, ob.data = .fields fv) :
    Inv (X.suite a pn) [] σ (upd H a (exi a cls d)) s := by
  obtain ⟨at0, free0, nloc, _, ncell⟩ := I.pin (a, ob) (List.mem_append_left _ List.mem_cons_self)
  obtain ⟨fv, hd⟩ := hd
  have old : ∀ {b : Addr} {o : HO}, H b = some o → upd H a (exi a cls d) b = some o := fun {b o} e => by rw [upd_ne (ne_of_none e free0)]; exact e
  have non : ∀ {b : Addr}, b ≠ a → H b = none → upd H a (exi a cls d) b = none := fun {b} n e => by rw [upd_ne n]; exact e
  exact
    { ok := okX.suite _ _, os := I.os, bare := I.bare, loc := I.loc, cell := I.cell, len := I.len
      base :=
        { keep := I.base.keep, slot := I.base.slot, there := I.base.there
          free := fun b o e n hx => non (fun z => by rw [z, new0] at e; cases e) (I.base.free b o e n hx)
          tups := fun b xs e => old (I.base.tups b xs e), frzs := fun b o u e => old (I.base.frzs b o u e)
          tbls := fun b ps e => (I.base.tbls b ps e).elim fun m q => ⟨m, old q⟩ }
      free := non (Ne.symm nloc) I.free
      freeC := fun x c e => non (fun z => (I.cell x c e).elim fun v ⟨o, ho, hv⟩ => ncell v (by rw [z] at ho; have q := Option.some.inj (at0.symm.trans ho); rw [← hv, ← q])) (I.freeC x c e)
      pin := fun p hp => by
        have hp' : p ∈ pn := by simpa using hp
        obtain ⟨c1, c2, c3⟩ := I.pin p (List.mem_append_left _ (List.mem_cons_of_mem _ hp'))
        exact ⟨c1, non (off p hp') c2, c3⟩
      hok := fun b o e => by
        by_cases hb : b = a
        · rw [hb, upd_same] at e
          rw [hb, ← Option.some.inj e]
          exact exi_ok at0 hz hd
        · rw [upd_ne hb] at e
          exact (I.hok b o e).stay (fun _ _ _ q => q) (fun _ q => old q) fun _ _ q => old q }
theorem unsuite0 {X : Cx} {pins pn' : List (Addr × Obj)} {σ : St} {H : Hp} {s : Shared} {a : Addr} (I : Inv (X.suite a (X.pn ++ pins)) pn' σ H s) (okX : X.Ok) : Inv X pins σ H s :=
  { ok := okX, os := I.os, bare := I.bare, base := I.base, loc := I.loc, cell := I.cell, free := I.free, freeC := I.freeC, pin := fun p hp => I.pin p (List.mem_append_left _ hp), hok := I.hok, len := I.len }
/-- except x as n: the exception is tracked while the suite runs, and behind it -/
def wAsT (K : PySem.W.Frag) (c : Value) (i : Nat) (ts : TS) (Wout : WX) (D : Ends) : WX := fun cls d σ H => ∃ yes, PySem.W.exmOne K cls c = some yes ∧ (yes = false → Wout cls d σ H) ∧
  (yes = true → ∀ a, H a = none → ts ⟨fun σ' H' => D.nx (σ'.set i none) H', D.rt, fun σ' H' => D.bk (σ'.set i none) H', fun σ' H' => D.ct (σ'.set i none) H'⟩ (σ.set i (some (.ref a))) (upd H a (exi a cls d)))
section
variable {X : Cx} {x n : Str} {c : Value} {i : Nat} {body suite : List Stmt} {b₀ : Stmt} {np pos pos' : Pos} {tb : WX → TS} {ts : TS} {Wout : WX} {pins : List (Addr × Obj)} {D : Ends}
/-- the way of an exception of the body into the clause -/
theorem caught (hs : X.stack = X.env :: X.outer) (hf : X.env.frame = some X.env.locals) (hex : X.ex = []) (hN : X.N.Nodup) (hi : X.N[i]? = some n) (hln : X.env.kindOf n = some .local) (hc : Names X x c) (tk : Takes X Wout)
    (hsu : ∀ (a : Addr) (pn : List (Addr × Obj)), PSs (X.suite a pn) (b₀ :: suite) ts) (okX : X.Ok) {ev : Value} {sE : Shared} {xe : Value → Shared → Prop} (air : XE (X.tr (X.pn ++ pins) xe) (wAsT X.K c i ts Wout D) ev sE) :
    wpAny (model X.prog X.w) X.A (noteFrame ev X.env) (fun _ s2 => wpAny (model X.prog X.w) X.A (setFlight ev none) (fun _ s3 => wpAny (model X.prog X.w) X.A (handleBy ev X.env [.ExceptHandler (some (.Name x np)) (some n) (b₀ :: suite) pos']) (SP X pins D) X.xe s3) X.xe s2) X.xe sE := by
  obtain ⟨ea, gr, sG, pG, σ1, H1, cls, dd, rfl, J1, inB, lift, sky, unk, eos, ebare, yes, hyes, hout, hin⟩ := air
  have J : Inv X pins σ1 H1 sG := J1.ofTry okX
  rw [show (X.tr (X.pn ++ pins) xe).stack = X.env :: X.outer from hs] at inB sky
  have frm : X.A.frames = some (X.env :: X.outer) := hs ▸ okX.frames
  have inB' : ∀ b o, sG.heap.get? b = some o → b ∉ frs X.stack → gr.get? b = some o := by rw [hs]; exact inB
  refine Sky.land Zc.steady frm hf sky fun hA flA upA => ?_
  obtain ⟨obA, fvA, getA, zA, dA⟩ := flA.there
  have offFr : ea ∉ frs (X.env :: X.outer) := fun hm => (flA.2.2.1.mem hm).elim fun _ ⟨o', e', hn⟩ => by
    rw [getA] at e'
    cases e'
    exact hn _ dA
  have offL : ea ≠ X.env.locals := fun z => offFr (List.mem_filterMap.mpr ⟨X.env, List.mem_cons_self, z ▸ hf⟩)
  have offF : ea ∉ X.fs := fun hm => offFr ((List.mem_filterMap.mp hm).elim fun e ⟨he, q⟩ => List.mem_filterMap.mpr ⟨e, List.mem_cons_of_mem _ he, q⟩)
  have newG : sG.heap.get? ea = none := by
    cases e : sG.heap.get? ea with
    | none => rfl
    | some o => exact absurd ((inB ea o e offFr).symm.trans flA.2.1) (by simp)
  have new0 : X.s_0.heap.get? ea = none := by
    cases e : X.s_0.heap.get? ea with
    | none => rfl
    | some o => exact (J.base.there ea o e (by rw [hex]; simp)).elim fun o' q => absurd (q.symm.trans newG) (by simp)
  have off : ∀ p ∈ X.pn ++ pins, p.1 ≠ ea := fun p hp z => absurd ((J.pin p hp).1.symm.trans (z ▸ newG)) (by simp)
  have JA : Inv X pins σ1 H1 { sE with heap := hA } := J.landed inB' flA.1 (lift.trans upA) eos ebare
  have SA := JA.suite getA dA unk offL offF
  refine wpAny_handleBy_cons (codeAny_handlers_test ?_) (fun q => nomatch q)
  have clsOf : PySem.W.Looks (model X.prog X.w) hA (typeOf (.ref ea)) cls := fun _ _ _ _ k q => wpAny_typeOf_ref (k _ _ getA) (by rw [zA.1]; exact q)
  have look : ∀ {Q : Value → Shared → Prop} {E : Value → Shared → Prop}, Q c { sE with heap := hA } → wpAny (model X.prog X.w) (X.A.mark (some (.ref ea))) (eval (.Name x np) X.env) Q E { sE with heap := hA } := fun {Q E} q => by
    rcases hc with ⟨hg, hdb, hm | ⟨hm, hv, hnn⟩⟩
    · exact ld_glob (X := X.suite ea ((ea, obA) :: (X.pn ++ pins))) SA hg hm q hdb
    · exact ld_blt (X := X.suite ea ((ea, obA) :: (X.pn ++ pins))) SA hg hm hv q hnn hdb
  refine look ((PySem.W.exm_one (M := model X.prog X.w) JA.kIn clsOf hyes).here ?_)
  cases yes with
  | false =>
    refine wpAny_handleBy_nil ?_
    obtain ⟨_, _, _, ob, fv, tr, _, _, e1, _, e3, e4, _⟩ := id flA
    have up : wpAny (model X.prog X.w) X.A (setFlight (.ref ea) X.env.frame) (fun _ s4 => wpAny (model X.prog X.w) X.A (throw (.ref ea) : Sem Flow) (SP X pins D) X.xe s4) X.xe { sE with heap := hA } := by
      rw [hf]
      exact HandSPX.setFlight_upZ flA fun h4 held u4 => wpAny_throw (tk _ _ ⟨ea, gr, sG, pins, σ1, H1, cls, dd, rfl, J, inB', (lift.trans upA).trans u4, .inr (.inr (by rw [hs]; exact held)), unk, eos, ebare, hout rfl⟩)
    unfold PySem.passOn
    refine wpAny_bind (wpAny_field e1 e3 e4 ?_)
    rw [if_neg (show ¬ ((Value.ref tr == Value.none) = true) by simp)]
    first
      | exact wpAny_bind up
      | exact wpAny_bind (wpAny_pure (wpAny_bind up))
  | true =>
    refine codeAny_handlers_suite_as (HandSPX.lands_againZ flA fun hB flB upB => ?_)
    obtain ⟨obB, fvB, getB, zB, dB⟩ := flB.there
    have SB := (J.landed (s' := { sE with heap := hB }) inB' flB.1 ((lift.trans upA).trans upB) eos ebare).suite getB dB unk offL offF
    refine store_ok (X := X.suite ea ((ea, obB) :: (X.pn ++ pins))) (v := .ref ea) SB hN hi (.inl hln) rfl (fun s5 S5 => ?_) (.inr hln)
    refine wpAny_mono ((hsu ea (X.pn ++ pins)).run [] s5 _ _ _ (track okX S5 new0 off zB ⟨_, dB⟩) (hin rfl ea unk)) (fun fl s6 r6 => ?_) (fun _ _ z => z.elim)
    have shut : ∀ {σ6 : St} {H6 : Hp} {R : Shared → Prop}, Inv (X.suite ea (X.pn ++ pins)) [] σ6 H6 s6 → (∀ s7, Inv X pins (σ6.set i none) H6 s7 → R s7) →
        wpAny (model X.prog X.w) X.A (do bindName X.env n .none; unbindBehindTheSuite X.env n pos') (fun _ s7 => R s7) X.xe s6 := fun S6 hR => gone_ok (unsuite0 S6 okX) hN hi hln hR
    cases fl with
    | ret u => exact r6.elim fun v ⟨_, _, S6, rv, q⟩ => shut S6 fun _ J7 => ⟨v, _, _, J7, rv, q⟩
    | _ => exact r6.elim fun _ ⟨_, S6, q⟩ => shut S6 fun _ J7 => ⟨_, _, J7, q⟩
theorem ps_try_asT (hs : X.stack = X.env :: X.outer) (hf : X.env.frame = some X.env.locals) (hex : X.ex = []) (hN : X.N.Nodup) (hi : X.N[i]? = some n) (hln : X.env.kindOf n = some .local) (hc : Names X x c) (tk : Takes X Wout)
    (bod : ∀ (W : WX) (pn : List (Addr × Obj)) (xe : Value → Shared → Prop), Takes (X.tr pn xe) W → PassesOwn (model X.prog X.w) X.A X.env xe → PSs (X.tr pn xe) body (tb W))
    (hsu : ∀ (a : Addr) (pn : List (Addr × Obj)), PSs (X.suite a pn) (b₀ :: suite) ts) :
    PS X (.Try body [.ExceptHandler (some (.Name x np)) (some n) (b₀ :: suite) pos'] [] [] pos) (fun D σ H => tb (wAsT X.K c i ts Wout D) D σ H) := by
  constructor
  intro pins s σ H D I h
  have okX := I.ok
  refine wpAny_Try_except (wpAny_mono ((bod (wAsT X.K c i ts Wout D) (X.pn ++ pins) _ (fun u s' z => caught hs hf hex hN hi hln hc tk hsu okX z) PassesOwn.looking).run [] s σ H D (I.toTry _) h) (fun fl s1 r => ?_) (fun _ _ z => z))
  cases fl with
  | next => exact r.elim fun _ ⟨_, J, q⟩ => wpAny_execs_nil ⟨_, _, J.ofTry okX, q⟩
  | ret u => exact r.elim fun v ⟨_, _, J, rv, q⟩ => ⟨v, _, _, J.ofTry okX, rv, q⟩
  | _ => exact r.elim fun _ ⟨_, J, q⟩ => ⟨_, _, J.ofTry okX, q⟩
end
/-! ### defs that may be called while an exception is handled -/
structure FnU (P : Program) (w : World) (K : PySem.W.Frag) (mg : Str → Option Value) (base : Heap) (k : Nat) (f : Addr) (fd : FuncData) (ps : List Str) (sp : Sp) : Prop where
  len : ∀ xs G R Z, sp xs G R Z → xs.length = ps.length
  run : ∀ (A : Around) (outer : List Env) (s : Shared) (H : Hp) (args : Args) (us : List Value) (vs : List V) (Q : VK) (E : XK), L2H.RoomH k A → Env0 P w K mg base A outer s H → BindsTo s fd args (ps.zip us) → Vals vs us → sp vs H Q E → codeAny (model P w) A (.call (.ref f) args) (CR CX0 outer P w H s Q E) s
def cxU (P : Program) (w : World) (K : PySem.W.Frag) (mg : Str → Option Value) (base : Heap) (N : List Str) (qual : Str) (scope : Scope) (f : Addr) (cd : Value) (A : Around) (outer : List Env) (s : Shared) (H : Hp) (E : XK) : Cx :=
  { cxOf CX0 P w K mg base N qual scope f cd A outer s H E with calm := false }
/-- the entry, from the quiet one: nothing but the calm speaks of what is handled -/
theorem inv_startU {P : Program} {w : World} {K : PySem.W.Frag} {mg : Str → Option Value} {base : Heap} {N ps : List Str} {qual : Str} {scope : Scope} {f : Addr} {cd : Value} {A : Around} {outer : List Env} {s s1 : Shared} {H : Hp} {E : XK} {us : List Value} {vs : List V}
    (S : FnScope N ps scope) (e0 : Env0 P w K mg base A outer s H) (hl : vs.length = ps.length) (r : Vals vs us)
    (ic : InCallC s s.heap.objs.size (bindL (envOfC qual scope s.heap.objs.size f cd).kindOf (ps.zip us) fun _ => none) (cellsFrom (s.heap.objs.size + 1) scope.names []) (bindC (envOfC qual scope s.heap.objs.size f cd).kindOf (ps.zip us) fun _ => none) s1) :
    Inv (cxU P w K mg base N qual scope f cd A outer s H E) [] (L2.start N vs) H s1 := by
  have e1 : Env0 P w K mg base { A with handled := none } outer s H := ⟨e0.frames, e0.mod, e0.bs, e0.bsz, e0.funs, e0.frf, e0.hok, e0.bare⟩
  have I := inv_start (CX := CX0) (E := E) (cd := cd) (f := f) (qual := qual) S (A := { A with handled := none }) rfl e1 hl r ic
  have o := I.ok
  exact
    { ok := { mod := o.mod, kind := o.kind, glob := o.glob, blt := o.blt, above := o.above, inj := o.inj, has := o.has, cab := o.cab, hd := fun z => Bool.noConfusion (show false = true from z), frames := Around.frames_deeper e0.frames, stk := o.stk, exf := o.exf, bs := o.bs, bsz := o.bsz, noex := o.noex, exfs := o.exfs, funs := o.funs, frf := o.frf }
      os := I.os, bare := I.bare, base := I.base, loc := I.loc, cell := I.cell, free := I.free, freeC := I.freeC, pin := I.pin, hok := I.hok, len := I.len }
theorem Fun_okU {P : Program} {w : World} {K : PySem.W.Frag} {mg : Str → Option Value} {base : Heap} {x qual : Str} {st : Stmt} {f : Addr} {fd : FuncData} {N ps : List Str} {k : Nat} {sp : Sp} (F : Fun K x qual st f fd) (S : FnScope N ps (defScope st)) (len : ∀ vs H Q E, sp vs H Q E → vs.length = ps.length)
    (bod : ∀ (cdv : Value) (A : Around) (outer : List Env) (s : Shared) (H : Hp) (vs : List V) (Q : VK) (E : XK), L2H.RoomH k (A.deeper (envOfC qual (defScope st) s.heap.objs.size f cdv)) → sp vs H Q E →
      ∃ t, PSs (cxU P w K mg base N qual (defScope st) f cdv A outer s H E).nox (defBody st) t ∧ t { nx := fun _ H' => Q .non H', rt := Q } (L2.start N vs) H) : FnU P w K mg base (k + 1) f fd ps sp := by
  rcases F.ex with ⟨oc, od, kV, doc, pm, an, cdv, ct, osl, rfl, lk, code⟩
  refine ⟨len, fun A outer s H args us vs Q E room env bind rel pre => ?_⟩
  have up : ∀ b o, base.get? b = some o → s.heap.get? b = some o := fun b o e => (env.bs b o e).1
  have KX : K.In s.heap := env.mod.kin.keeps up
  have kinds : ∀ y ∈ ps.zip us, (defScope st).names.lookup y.1 = some .local ∨ ((defScope st).names.lookup y.1 = some .cell ∧ ((cellsFrom (s.heap.objs.size + 1) (defScope st).names []).lookup y.1).isSome = true) := fun y hy =>
    (S.par y.1 (List.of_mem_zip (a := y.1) (b := y.2) hy).1).imp id fun q => ⟨q, PySem.W.cellsFrom_some _ _ _ (.inl q)⟩
  refine codeAny_call_function room.depth (KX _ _ lk) rfl S.co S.gen rfl (PySem.W.codeRec_of KX code) (bind _ _ _ _ (wpAny_newFunctionEnv_cells S.kind kinds fun ev hev s1 ic => ?_))
  subst hev
  refine ⟨(env.mod.nolimit.keeps up).keeps ic.toInCall.keep, codeAny_func ?_⟩
  obtain ⟨t, ht, rd⟩ := bod cdv A outer s H vs Q E (room.deeper _) pre
  refine wpAny_mono (ht.nox.run [] s1 (L2.start N vs) H _ (inv_startU S env (len _ _ _ _ pre) rel ic) rd) (fun fl s' z => ?_) fun _ _ z => z
  cases fl with
  | ret u => exact z.elim fun v ⟨_, H', J, rv, q⟩ => ⟨v, H', J.os, J.bare, J.base, J.hok, rv, q⟩
  | next => exact z.elim fun _ ⟨H', J, q⟩ => ⟨V.non, H', J.os, J.bare, J.base, J.hok, rfl, q⟩
  | _ => exact z.elim fun _ ⟨_, _, q⟩ => q.elim
theorem pe_callU {X : Cx} {k : Nat} {f : Addr} {fd : FuncData} {ps : List Str} {sp : Sp} {x : Str} {q pos : Pos} {e : Expr} {es : List Expr} {t : TA} (F : FnU X.prog X.w X.K X.mg X.base k f fd ps sp) (room : L2H.RoomH k X.A) (hg : Gl X x) (hm : X.mg x = some (.ref f)) (hk : PySem.W.keepIn X.K (.ref f) = true) (hb : Binds X.K fd ps [])
    (ha : PA X (e :: es) t) (hdb : (x == ("__debug__" : Str)) = false := by decide) (he : starEach (e :: es) X.env = (false, eval e X.env) :: starEach es X.env := by rfl) (hpl : (backTo pos (starEach es X.env)).any (·.1) = false := by rfl) : PE X (.Call (.Name x q) (e :: es) [] pos) (tCall sp [] E0 t) := by
  constructor
  intro pins s σ H Q I h
  refine wpAny_Call_Name_kw (ld_glob I hg hm (PySem.W.callWith_K (h₀ := X.base) I.ok.mod.kin hk (thn (ha.run pos pins s σ H _ I h) fun us s1 ⟨vs, H1, J, rel, pre⟩ => ⟨J.kIn, ?_⟩) he hpl) hdb)
  have pre : sp vs H1 Q E0 := by
    have z : sp (vs ++ []) H1 Q E0 := pre
    rwa [List.append_nil] at z
  have bind : BindsTo s1 fd ⟨us, []⟩ (ps.zip us) := by
    have z := hb s1 us J.kIn (by rw [List.append_nil, ← rel.length]; exact F.len _ _ _ _ pre)
    rwa [List.append_nil] at z
  refine wpAny_call (codeAny_mono (F.run X.A X.stack s1 H1 ⟨us, []⟩ us vs Q E0 room J.env0 bind rel pre) fun res s' z => ?_)
  rcases res with er | fl
  · exact False.elim z
  · cases fl with
    | ret u => exact J.after z
    | _ => exact False.elim z
theorem roomH_suite {k : Nat} {A : Around} {v : Option Value} (r : Room k A) : L2H.RoomH k (A.mark v) := ⟨r.dp, r.un⟩
/-! ### a tracked exception: its fields, isinstance of it -/
def tXt (K : PySem.W.Frag) (f : Str) (te : TE) : TE := fun σ H Q => te σ H fun x H1 => ∃ (a C dd : Addr) (fs : List (Str × V)) (v : V), x = .ref a ∧ H1 a = some (exi a (.ref C) (some dd)) ∧ XfC K C ∧ PySem.W.findIn K (.ref C) f = some none ∧ H1 dd = some (.xd fs) ∧ fs.lookup f = some v ∧ Q v H1
theorem inst_of {P : Program} {w : World} {H : Hp} {g : Heap} {a C dd : Addr} {fs : List (Str × V)} (ok : HOk P w H g) (ha : H a = some (exi a (.ref C) (some dd))) (hd : H dd = some (.xd fs)) :
    ∃ ob od, PySem.W.InstAt g a ob C (some od) ∧ ∃ mA : Str → Option Value, (∀ n, PySem.W.lookIn n od = some (mA n)) ∧ ∀ f, RelO (fs.lookup f) (mA f) := by
  obtain ⟨ob, fv, h1, hz, h2⟩ := exi_at ok ha
  obtain ⟨mA, hns, rel⟩ := (show ObjOk P w H g dd (.xd fs) from ok dd _ hd)
  obtain ⟨od, h3, h4⟩ := lookIn_ns hns
  exact ⟨ob, od, { at_ := h1, cls := hz.1, no := by unfold PySem.W.notCls; rw [h2] <;> rfl, dict := by rw [hz.2]; exact h3 }, mA, h4, rel⟩
theorem pe_xt {X : Cx} {e : Expr} {te : TE} {pos : Pos} {n : Str} (he : PE X e te) (hb : attributeBase e n X.env (eval e X.env) = eval e X.env := by rfl) : PE X (.Attribute e n pos) (tXt X.K n te) := by
  constructor
  intro pins s σ H Q I h
  refine attr_of hb (thn (he.run pins s σ H _ I h) fun u s1 ⟨y, H1, J, ry, a, C, dd, fs, v, ey, ea, T, hno, ed, l, q⟩ => ?_)
  subst ey
  obtain rfl : u = .ref a := ry
  obtain ⟨ob, od, at1, mA, h4, rel⟩ := inst_of J.hok ea ed
  obtain ⟨u, hu, ru⟩ := RelO.some_of (v := v) (o := mA n) (by rw [← l]; exact rel n)
  exact HandSPX.exc_get J.kIn at1 T.ga T.gg T.exC (PySem.W.findObj_own T.hdC hno rfl (by rw [h4, hu])) (handed_of ru) ⟨v, H1, J.tok _, ru, q⟩
/-- isinstance(e, c), e a tracked exception -/
def rIsX (K : PySem.W.Frag) : List V → Hp → VK → Prop := fun xs H Q => ∃ (a D dd : Addr) (fs : List (Str × V)) (c : V) (cv : Value) (b : Bool), xs = [.ref a, c] ∧ ClsV c cv ∧ H a = some (exi a (.ref D) (some dd)) ∧ H dd = some (.xd fs) ∧ ExcC K D ∧ PySem.W.kitOne K (.ref D) cv = some b ∧ Q (.bl b) H
theorem call_isX {X : Cx} : CallR X (.builtin "isinstance") (rIsX X.K) := by
  rintro pins s σ H xs us Q I r ⟨a, D, dd, fs, c, cv, b, rfl, k, ea, ed, C, e, q⟩
  obtain ⟨ue, uc, rfl, re, rc⟩ := vals2 r
  obtain rfl : ue = .ref a := re
  rw [k.eq rc]
  obtain ⟨ob, od, at1, _⟩ := inst_of I.hok ea ed
  have there : (PySem.W.clsIn X.K D).isSome = true := (PySem.W.any_some C.hd).elim fun cd ⟨hc, _⟩ => by rw [hc]; rfl
  exact PySem.W.kia_one (PySem.W.kitx_exc there C.hg C.hk C.hs C.ha C.hn C.ht C.hm) I.kIn at1 e (fun z => nomatch z) fun tk => ⟨.bl b, H, I.tok tk, rfl, q⟩
/-! ## Pre -/
/-! Names of readings, steps through a reading, data in the heap, the draws. -/
/-! ### the operators' readings, by names -/
def oAdd : R2 := rI0 fun i j => .int (i + j)
def oSub : R2 := rI0 fun i j => .int (i - j)
def oMul : R2 := rI CMul fun i j => .int (i * j)
def oMulW : R2 := rI CMulW fun i j => .int (i * j)
def oDiv : R2 := rI CDivW fun i j => .int (i / j)
def oMod : R2 := rI (fun _ j => 0 < j) fun i j => .int (i % j)
def oPow : R2 := rI CPow fun i j => .int (i ^ j.toNat)
def oShl : R2 := rI CPow fun i j => .int (i * 2 ^ j.toNat)
def oShr : R2 := rI (fun _ j => 0 ≤ j) fun i j => .int (i / 2 ^ j.toNat)
def oAnd : R2 := rI0 fun i j => .int (Builtin.bitAnd i j)
def oOr : R2 := rI0 fun i j => .int (Builtin.bitOr i j)
def oNeg : V → Hp → VK → Prop := rU fun i => .int (-i)
def oLt : R2 := rI0 fun i j => .bl (decide (i < j))
def oLe : R2 := rI0 fun i j => .bl (decide (i ≤ j))
def oGt : R2 := rI0 fun i j => .bl (decide (j < i))
def oGe : R2 := rI0 fun i j => .bl (decide (j ≤ i))
def oIsN : R2 := fun x y H Q => y = .non ∧ Q (.bl (decide (x = .non))) H
def oNotN : R2 := fun x y H Q => y = .non ∧ Q (.bl (!decide (x = .non))) H
def oAddS : R2 := fun x y H Q => ∃ i j, x = .str i ∧ y = .str j ∧ i.length + j.length ≤ sizeLine ∧ Q (.str (i ++ j)) H
def rLen (K : PySem.W.Frag) : List V → Hp → VK → Prop := fun vs G R => ∃ x n, vs = [x] ∧ LenV K x G n ∧ R (.int n) G
def rLenStr : List V → Hp → VK → Prop := fun xs H Q => ∃ z, xs = [.str z] ∧ z.length ≤ sizeLine ∧ Q (.int z.length) H
def rMax2 : List V → Hp → VK → Prop := fun vs G R => ∃ i j, vs = [.int i, .int j] ∧ R (.int (if j > i then j else i)) G
def rMin2 : List V → Hp → VK → Prop := fun vs G R => ∃ i j, vs = [.int i, .int j] ∧ R (.int (if j < i then j else i)) G
def rInt1 : List V → Hp → VK → Prop := fun xs H Q => (∃ i, xs = [.int i] ∧ Q (.int i) H) ∨ ∃ k, xs = [.bl k] ∧ Q (.int (if k then 1 else 0)) H
def rListOf (K : PySem.W.Frag) : List V → Hp → VK → Prop := fun xs H Q => ∃ p ys, xs = [.ref p] ∧ (SqL K H p ys ∨ SqT K H p ys) ∧ ∀ l, H l = none → Q (.ref l) (upd H l (.lst ys))
def rTupleOf (K : PySem.W.Frag) : List V → Hp → VK → Prop := fun xs H Q => ∃ p ys, xs = [.ref p] ∧ ((SqL K H p ys ∧ ∀ l, H l = none → Q (.ref l) (upd H l (.tup ys))) ∨ (SqT K H p ys ∧ Q (.ref p) H))
def tTruth (K : PySem.W.Frag) (te : TE) : TT := fun σ H Q => te σ H fun x H' => ∃ k, TruV K x H' k ∧ Q k H'
/-- raise C(e, ..) -/
def tRz (t : St → Hp → XK → Prop) (W : WX) : TS := fun _ σ H => t σ H fun cls d H' => W cls d σ H'
/-- try: .. except C as n: .. -/
def tTryT (K : PySem.W.Frag) (c : Value) (i : Nat) (tb : WX → TS) (ts : TS) (Wout : WX) : TS := fun D σ H => tb (wAsT K c i ts Wout D) D σ H
/-! ### steps: from a reading to what it asks -/
class Stp (P : Prop) (R : outParam Prop) : Prop where
  go : R → P
section
variable {K : PySem.W.Frag} {σ : St} {H : Hp} {Q : VK} {QT : Bool → Hp → Prop} {QA : List V → Hp → Prop} {D : Ends} {v x y : V} {ta tb te : TE} {tt tu : TT} {ts tw : TS} {r : R2} {i j : Int} {n : Nat} {b c : Bool} {nx bk ct : St → Hp → Prop} {rt : VK}
theorem i_seqA {g : TG} (h : te σ H fun x H1 => g x σ H1 (tw D)) : tSeq (tAsg te g) tw D σ H := h
instance s_seqA {g : TG} : Stp (tSeq (tAsg te g) tw D σ H) (te σ H fun x H1 => g x σ H1 (tw D)) := ⟨i_seqA⟩
theorem i_seqD (h : te σ H fun _ H1 => tw D σ H1) : tSeq (tDrop te) tw D σ H := h
instance s_seqD : Stp (tSeq (tDrop te) tw D σ H) (te σ H fun _ H1 => tw D σ H1) := ⟨i_seqD⟩
theorem i_seqG {ti : TIp} (hx : σ[n]? = some (some x)) (h : te σ H fun y H1 => ti x y H1 fun z H2 => tw D (σ.set n (some z)) H2) : tSeq (tAug n te ti) tw D σ H := ⟨x, hx, h⟩
theorem i_seq (h : ts ⟨tw ⟨nx, rt, bk, ct⟩, rt, bk, ct⟩ σ H) : tSeq ts tw ⟨nx, rt, bk, ct⟩ σ H := h
theorem i_var (h : σ[n]? = some (some v)) (q : Q v H) : tVar n σ H Q := ⟨v, h, q⟩
theorem i_c (q : Q v H) : tC v σ H Q := q
instance s_c : Stp (tC v σ H Q) (Q v H) := ⟨i_c⟩
theorem i_op (h : ta σ H fun x H1 => tb σ H1 fun y H2 => r x y H2 Q) : tOp r ta tb σ H Q := h
instance s_op : Stp (tOp r ta tb σ H Q) (ta σ H fun x H1 => tb σ H1 fun y H2 => r x y H2 Q) := ⟨i_op⟩
theorem i_un {r : V → Hp → VK → Prop} (h : ta σ H fun x H1 => r x H1 Q) : tUn r ta σ H Q := h
instance s_un {r : V → Hp → VK → Prop} : Stp (tUn r ta σ H Q) (ta σ H fun x H1 => r x H1 Q) := ⟨i_un⟩
theorem i_nil (h : QA [] H) : tNil σ H QA := h
instance s_nil : Stp (tNil σ H QA) (QA [] H) := ⟨i_nil⟩
theorem i_cons {tr : TA} (h : ta σ H fun x H1 => tr σ H1 fun xs H2 => QA (x :: xs) H2) : tCons ta tr σ H QA := h
instance s_cons {tr : TA} : Stp (tCons ta tr σ H QA) (ta σ H fun x H1 => tr σ H1 fun xs H2 => QA (x :: xs) H2) := ⟨i_cons⟩
theorem i_tup {t : TA} (h : t σ H fun xs H1 => xs.length ≤ sizeLine ∧ ∀ p, H1 p = none → Q (.ref p) (upd H1 p (.tup xs))) : tTup t σ H Q := h
instance s_tup {t : TA} : Stp (tTup t σ H Q) (t σ H fun xs H1 => xs.length ≤ sizeLine ∧ ∀ p, H1 p = none → Q (.ref p) (upd H1 p (.tup xs))) := ⟨i_tup⟩
theorem i_lst {t : TA} (h : t σ H fun xs H1 => xs.length ≤ sizeLine ∧ ∀ p, H1 p = none → Q (.ref p) (upd H1 p (.lst xs))) : tLst t σ H Q := h
instance s_lst {t : TA} : Stp (tLst t σ H Q) (t σ H fun xs H1 => xs.length ≤ sizeLine ∧ ∀ p, H1 p = none → Q (.ref p) (upd H1 p (.lst xs))) := ⟨i_lst⟩
theorem i_call {sp : Sp} {dvs : List V} {E : XK} {t : TA} (h : t σ H fun vs H1 => sp (vs ++ dvs) H1 Q E) : tCall sp dvs E t σ H Q := h
instance s_call {sp : Sp} {dvs : List V} {E : XK} {t : TA} : Stp (tCall sp dvs E t σ H Q) (t σ H fun vs H1 => sp (vs ++ dvs) H1 Q E) := ⟨i_call⟩
theorem i_cb {r : List V → Hp → VK → Prop} {t : TA} (h : t σ H fun vs H1 => r vs H1 Q) : tCB r t σ H Q := h
instance s_cb {r : List V → Hp → VK → Prop} {t : TA} : Stp (tCB r t σ H Q) (t σ H fun vs H1 => r vs H1 Q) := ⟨i_cb⟩
theorem i_test (h : te σ H fun x H' => ∃ k, x = .bl k ∧ QT k H') : tTest te σ H QT := h
instance s_test : Stp (tTest te σ H QT) (te σ H fun x H' => ∃ k, x = .bl k ∧ QT k H') := ⟨i_test⟩
theorem i_B (h : te σ H fun x H' => ∃ k, x = .bl k ∧ QT k H') : tB te σ H QT := h
instance s_B : Stp (tB te σ H QT) (te σ H fun x H' => ∃ k, x = .bl k ∧ QT k H') := ⟨i_B⟩
theorem i_bl (q : QT b H) : ∃ k, V.bl b = .bl k ∧ QT k H := ⟨b, rfl, q⟩
theorem i_blV {P : Bool → Prop} (q : P b) : ∃ k, V.bl b = .bl k ∧ P k := ⟨b, rfl, q⟩
theorem i_and (h : tt σ H fun c H1 => if c = true then tu σ H1 QT else QT false H1) : tAnd tt tu σ H QT := h
instance s_and : Stp (tAnd tt tu σ H QT) (tt σ H fun c H1 => if c = true then tu σ H1 QT else QT false H1) := ⟨i_and⟩
theorem i_or (h : tt σ H fun c H1 => if c = true then QT true H1 else tu σ H1 QT) : tOr tt tu σ H QT := h
instance s_or : Stp (tOr tt tu σ H QT) (tt σ H fun c H1 => if c = true then QT true H1 else tu σ H1 QT) := ⟨i_or⟩
theorem i_not (h : tt σ H fun c H1 => QT (!c) H1) : tNot tt σ H QT := h
instance s_not : Stp (tNot tt σ H QT) (tt σ H fun c H1 => QT (!c) H1) := ⟨i_not⟩
theorem i_andV (h : ta σ H fun x H1 => ∃ c, x = .bl c ∧ if c = true then tb σ H1 Q else Q (.bl false) H1) : tAndV ta tb σ H Q := h
instance s_andV : Stp (tAndV ta tb σ H Q) (ta σ H fun x H1 => ∃ c, x = .bl c ∧ if c = true then tb σ H1 Q else Q (.bl false) H1) := ⟨i_andV⟩
theorem i_orV (h : ta σ H fun x H1 => ∃ c, x = .bl c ∧ if c = true then Q (.bl true) H1 else tb σ H1 Q) : tOrV ta tb σ H Q := h
instance s_orV : Stp (tOrV ta tb σ H Q) (ta σ H fun x H1 => ∃ c, x = .bl c ∧ if c = true then Q (.bl true) H1 else tb σ H1 Q) := ⟨i_orV⟩
theorem i_notV (h : ta σ H fun x H1 => ∃ c, x = .bl c ∧ Q (.bl (!c)) H1) : tNotV ta σ H Q := h
instance s_notV : Stp (tNotV ta σ H Q) (ta σ H fun x H1 => ∃ c, x = .bl c ∧ Q (.bl (!c)) H1) := ⟨i_notV⟩
theorem i_ife (h : tt σ H fun c H1 => if c = true then ta σ H1 Q else tb σ H1 Q) : tIf tt ta tb σ H Q := h
instance s_ife : Stp (tIf tt ta tb σ H Q) (tt σ H fun c H1 => if c = true then ta σ H1 Q else tb σ H1 Q) := ⟨i_ife⟩
theorem i_ifS (h : tt σ H fun b H1 => if b = true then ts D σ H1 else tw D σ H1) : tIfS tt ts tw D σ H := h
instance s_ifS : Stp (tIfS tt ts tw D σ H) (tt σ H fun b H1 => if b = true then ts D σ H1 else tw D σ H1) := ⟨i_ifS⟩
theorem i_next (h : nx σ H) : tNext ⟨nx, rt, bk, ct⟩ σ H := h
instance s_next : Stp (tNext ⟨nx, rt, bk, ct⟩ σ H) (nx σ H) := ⟨i_next⟩
theorem i_break (h : bk σ H) : tBreak ⟨nx, rt, bk, ct⟩ σ H := h
instance s_break : Stp (tBreak ⟨nx, rt, bk, ct⟩ σ H) (bk σ H) := ⟨i_break⟩
theorem i_cont (h : ct σ H) : tCont ⟨nx, rt, bk, ct⟩ σ H := h
instance s_cont : Stp (tCont ⟨nx, rt, bk, ct⟩ σ H) (ct σ H) := ⟨i_cont⟩
theorem i_ret (h : te σ H rt) : tRet te ⟨nx, rt, bk, ct⟩ σ H := h
instance s_ret : Stp (tRet te ⟨nx, rt, bk, ct⟩ σ H) (te σ H rt) := ⟨i_ret⟩
theorem i_retN (h : rt .non H) : tRetN ⟨nx, rt, bk, ct⟩ σ H := h
instance s_retN : Stp (tRetN ⟨nx, rt, bk, ct⟩ σ H) (rt .non H) := ⟨i_retN⟩
theorem i_drop (h : te σ H fun _ H1 => nx σ H1) : tDrop te ⟨nx, rt, bk, ct⟩ σ H := h
instance s_drop : Stp (tDrop te ⟨nx, rt, bk, ct⟩ σ H) (te σ H fun _ H1 => nx σ H1) := ⟨i_drop⟩
theorem i_asg {g : TG} (h : te σ H fun x H1 => g x σ H1 nx) : tAsg te g ⟨nx, rt, bk, ct⟩ σ H := h
instance s_asg {g : TG} : Stp (tAsg te g ⟨nx, rt, bk, ct⟩ σ H) (te σ H fun x H1 => g x σ H1 nx) := ⟨i_asg⟩
theorem i_gname {R : St → Hp → Prop} (h : R (σ.set n (some v)) H) : gName n v σ H R := h
instance s_gname {R : St → Hp → Prop} : Stp (gName n v σ H R) (R (σ.set n (some v)) H) := ⟨i_gname⟩
theorem i_aug {ti : TIp} (hx : σ[n]? = some (some x)) (h : te σ H fun y H1 => ti x y H1 fun z H2 => nx (σ.set n (some z)) H2) : tAug n te ti ⟨nx, rt, bk, ct⟩ σ H := ⟨x, hx, h⟩
theorem i_ipI {f : Int → Int → Int} (q : Q (.int (f i j)) H) : ipI f (.int i) (.int j) H Q := ⟨i, j, rfl, rfl, q⟩
instance s_ipI {f : Int → Int → Int} : Stp (ipI f (.int i) (.int j) H Q) (Q (.int (f i j)) H) := ⟨i_ipI⟩
theorem i_add (q : Q (.int (i + j)) H) : oAdd (.int i) (.int j) H Q := ⟨i, j, rfl, rfl, q⟩
instance s_add : Stp (oAdd (.int i) (.int j) H Q) (Q (.int (i + j)) H) := ⟨i_add⟩
theorem i_sub (q : Q (.int (i - j)) H) : oSub (.int i) (.int j) H Q := ⟨i, j, rfl, rfl, q⟩
instance s_sub : Stp (oSub (.int i) (.int j) H Q) (Q (.int (i - j)) H) := ⟨i_sub⟩
theorem i_mul (h : CMul i j) (q : Q (.int (i * j)) H) : oMul (.int i) (.int j) H Q := ⟨i, j, rfl, rfl, h, q⟩
theorem i_mulW (h : CMulW i j) (q : Q (.int (i * j)) H) : oMulW (.int i) (.int j) H Q := ⟨i, j, rfl, rfl, h, q⟩
theorem i_div (h : CDivW i j) (q : Q (.int (i / j)) H) : oDiv (.int i) (.int j) H Q := ⟨i, j, rfl, rfl, h, q⟩
theorem i_mod (h : 0 < j) (q : Q (.int (i % j)) H) : oMod (.int i) (.int j) H Q := ⟨i, j, rfl, rfl, h, q⟩
theorem i_pow (h : CPow i j) (q : Q (.int (i ^ j.toNat)) H) : oPow (.int i) (.int j) H Q := ⟨i, j, rfl, rfl, h, q⟩
theorem i_shl (h : CPow i j) (q : Q (.int (i * 2 ^ j.toNat)) H) : oShl (.int i) (.int j) H Q := ⟨i, j, rfl, rfl, h, q⟩
theorem i_band (q : Q (.int (Builtin.bitAnd i j)) H) : oAnd (.int i) (.int j) H Q := ⟨i, j, rfl, rfl, q⟩
instance s_band : Stp (oAnd (.int i) (.int j) H Q) (Q (.int (Builtin.bitAnd i j)) H) := ⟨i_band⟩
theorem i_neg (q : Q (.int (-i)) H) : oNeg (.int i) H Q := ⟨i, rfl, q⟩
instance s_neg : Stp (oNeg (.int i) H Q) (Q (.int (-i)) H) := ⟨i_neg⟩
theorem i_lt (q : Q (.bl (decide (i < j))) H) : oLt (.int i) (.int j) H Q := ⟨i, j, rfl, rfl, q⟩
instance s_lt : Stp (oLt (.int i) (.int j) H Q) (Q (.bl (decide (i < j))) H) := ⟨i_lt⟩
theorem i_le (q : Q (.bl (decide (i ≤ j))) H) : oLe (.int i) (.int j) H Q := ⟨i, j, rfl, rfl, q⟩
instance s_le : Stp (oLe (.int i) (.int j) H Q) (Q (.bl (decide (i ≤ j))) H) := ⟨i_le⟩
theorem i_gt (q : Q (.bl (decide (j < i))) H) : oGt (.int i) (.int j) H Q := ⟨i, j, rfl, rfl, q⟩
instance s_gt : Stp (oGt (.int i) (.int j) H Q) (Q (.bl (decide (j < i))) H) := ⟨i_gt⟩
theorem i_ge (q : Q (.bl (decide (j ≤ i))) H) : oGe (.int i) (.int j) H Q := ⟨i, j, rfl, rfl, q⟩
instance s_ge : Stp (oGe (.int i) (.int j) H Q) (Q (.bl (decide (j ≤ i))) H) := ⟨i_ge⟩
theorem dec_eqI : decide (V.int i = V.int j) = decide (i = j) := by
  by_cases h : i = j
  · subst h; simp
  · rw [decide_eq_false h, decide_eq_false (fun z => h (V.int.inj z))]
theorem dec_eqS {a b : Str} : decide (V.str a = V.str b) = decide (a = b) := by
  by_cases h : a = b
  · subst h; simp
  · rw [decide_eq_false h, decide_eq_false (fun z => h (V.str.inj z))]
theorem i_eq (q : Q (.bl (decide (i = j))) H) : rEq (.int i) (.int j) H Q := ⟨rfl, by rw [dec_eqI]; exact q⟩
instance s_eq : Stp (rEq (.int i) (.int j) H Q) (Q (.bl (decide (i = j))) H) := ⟨i_eq⟩
theorem i_ne (q : Q (.bl (!decide (i = j))) H) : rNe (.int i) (.int j) H Q := ⟨rfl, by rw [dec_eqI]; exact q⟩
instance s_ne : Stp (rNe (.int i) (.int j) H Q) (Q (.bl (!decide (i = j))) H) := ⟨i_ne⟩
theorem i_eqS {a b : Str} (q : Q (.bl (decide (a = b))) H) : rEq (.str a) (.str b) H Q := ⟨rfl, by rw [dec_eqS]; exact q⟩
instance s_eqS {a b : Str} : Stp (rEq (.str a) (.str b) H Q) (Q (.bl (decide (a = b))) H) := ⟨i_eqS⟩
theorem i_neS {a b : Str} (q : Q (.bl (!decide (a = b))) H) : rNe (.str a) (.str b) H Q := ⟨rfl, by rw [dec_eqS]; exact q⟩
instance s_neS {a b : Str} : Stp (rNe (.str a) (.str b) H Q) (Q (.bl (!decide (a = b))) H) := ⟨i_neS⟩
theorem i_isN (q : Q (.bl (decide (x = .non))) H) : oIsN x .non H Q := ⟨rfl, q⟩
instance s_isN : Stp (oIsN x .non H Q) (Q (.bl (decide (x = .non))) H) := ⟨i_isN⟩
theorem i_notN (q : Q (.bl (!decide (x = .non))) H) : oNotN x .non H Q := ⟨rfl, q⟩
instance s_notN : Stp (oNotN x .non H Q) (Q (.bl (!decide (x = .non))) H) := ⟨i_notN⟩
theorem i_max (q : Q (.int (if j > i then j else i)) H) : rMax2 [.int i, .int j] H Q := ⟨i, j, rfl, q⟩
instance s_max : Stp (rMax2 [.int i, .int j] H Q) (Q (.int (if j > i then j else i)) H) := ⟨i_max⟩
theorem i_min (q : Q (.int (if j < i then j else i)) H) : rMin2 [.int i, .int j] H Q := ⟨i, j, rfl, q⟩
instance s_min : Stp (rMin2 [.int i, .int j] H Q) (Q (.int (if j < i then j else i)) H) := ⟨i_min⟩
theorem i_int1 (q : Q (.int i) H) : rInt1 [.int i] H Q := .inl ⟨i, rfl, q⟩
instance s_int1 : Stp (rInt1 [.int i] H Q) (Q (.int i) H) := ⟨i_int1⟩
theorem i_chain {r r' : R2} {tc : TE} (h : ta σ H fun x H1 => tb σ H1 fun y H2 => r x y H2 fun z H3 => ∃ k, z = .bl k ∧ if k = true then tc σ H3 fun w H4 => r' y w H4 Q else Q (.bl false) H3) : tChain r r' ta tb tc σ H Q := h
instance s_chain {r r' : R2} {tc : TE} : Stp (tChain r r' ta tb tc σ H Q) (ta σ H fun x H1 => tb σ H1 fun y H2 => r x y H2 fun z H3 => ∃ k, z = .bl k ∧ if k = true then tc σ H3 fun w H4 => r' y w H4 Q else Q (.bl false) H3) := ⟨i_chain⟩
theorem i_ixL {p : Addr} {xs : List V} (h : SqL K H p xs) (e : atI xs i = some v) (q : Q v H) : rIxL K (.ref p) (.int i) H Q := ⟨p, xs, i, v, rfl, rfl, h, e, q⟩
theorem i_ixT {p : Addr} {xs : List V} (h : SqT K H p xs) (e : atI xs i = some v) (q : Q v H) : rIxT K (.ref p) (.int i) H Q := ⟨p, xs, i, v, rfl, rfl, h, e, q⟩
theorem i_setL {R : Hp → Prop} {p : Addr} {xs : List V} (h : H p = some (.lst xs)) (e : ixN xs.length i = some n) (q : R (upd H p (.lst (xs.set n v)))) : rSetL (.ref p) (.int i) v H R := ⟨p, xs, i, n, rfl, rfl, h, e, q⟩
theorem i_gsub {to ti : TE} {t : TSet} {R : St → Hp → Prop} (h : to σ H fun o H1 => ti σ H1 fun i H2 => t o i v H2 fun H3 => R σ H3) : gSub to ti t v σ H R := h
instance s_gsub {to ti : TE} {t : TSet} {R : St → Hp → Prop} : Stp (gSub to ti t v σ H R) (to σ H fun o H1 => ti σ H1 fun i H2 => t o i v H2 fun H3 => R σ H3) := ⟨i_gsub⟩
theorem i_lenL {p : Addr} {xs : List V} (h : SqL K H p xs) (q : Q (.int xs.length) H) : rLen K [.ref p] H Q := ⟨.ref p, xs.length, rfl, .inl ⟨xs, h, rfl⟩, q⟩
theorem i_lenT {p : Addr} {xs : List V} (h : SqT K H p xs) (q : Q (.int xs.length) H) : rLen K [.ref p] H Q := ⟨.ref p, xs.length, rfl, .inr ⟨xs, h, rfl⟩, q⟩
theorem sqL {p : Addr} {xs : List V} (h : H p = some (.lst xs)) : SqL K H p xs := .inl (.inl h)
theorem sqT {p : Addr} {xs : List V} (h : H p = some (.tup xs)) : SqT K H p xs := .inl (.inl h)
theorem i_gtup {p : Addr} {xs : List V} {t : TGs} {R : St → Hp → Prop} (h : SqT K H p xs) (hl : xs.length = n) (q : t xs σ H R) : gTup K n t (.ref p) σ H R := ⟨p, xs, rfl, h, hl, q⟩
theorem i_gnil {R : St → Hp → Prop} (q : R σ H) : gNil [] σ H R := ⟨rfl, q⟩
instance s_gnil {R : St → Hp → Prop} : Stp (gNil [] σ H R) (R σ H) := ⟨i_gnil⟩
theorem i_gcons {t : TG} {u : TGs} {R : St → Hp → Prop} {xs : List V} (q : t v σ H fun σ' H' => u xs σ' H' R) : gCons t u (v :: xs) σ H R := ⟨v, xs, rfl, q⟩
instance s_gcons {t : TG} {u : TGs} {R : St → Hp → Prop} {xs : List V} : Stp (gCons t u (v :: xs) σ H R) (t v σ H fun σ' H' => u xs σ' H' R) := ⟨i_gcons⟩
end
/-- an if on a test that is a decided proposition, its opposite, a known bool -/
theorem i_ifd {p A B : Prop} {inst : Decidable p} (h1 : p → A) (h2 : ¬ p → B) : if decide p = true then A else B := by
  by_cases h : p
  · rw [decide_eq_true h]; exact h1 h
  · rw [decide_eq_false h]; exact h2 h
theorem i_ifn {p A B : Prop} {inst : Decidable p} (h1 : ¬ p → A) (h2 : p → B) : if (!decide p) = true then A else B := by
  by_cases h : p
  · rw [decide_eq_true h]; exact h2 h
  · rw [decide_eq_false h]; exact h1 h
theorem i_ifb {b : Bool} {A B : Prop} (h1 : b = true → A) (h2 : b = false → B) : if b = true then A else B := by
  cases b with
  | true => exact h1 rfl
  | false => exact h2 rfl
theorem i_ifT {A B : Prop} (h : A) : if true = true then A else B := h
instance s_ifT {A B : Prop} : Stp (if true = true then A else B) (A) := ⟨i_ifT⟩
theorem i_ifF {A B : Prop} (h : B) : if false = true then A else B := h
instance s_ifF {A B : Prop} : Stp (if false = true then A else B) (B) := ⟨i_ifF⟩
theorem i_ifnT {A B : Prop} (h : B) : if (!true) = true then A else B := h
instance s_ifnT {A B : Prop} : Stp (if (!true) = true then A else B) (B) := ⟨i_ifnT⟩
theorem i_ifnF {A B : Prop} (h : A) : if (!false) = true then A else B := h
instance s_ifnF {A B : Prop} : Stp (if (!false) = true then A else B) (A) := ⟨i_ifnF⟩
theorem i_yes {p A B : Prop} {inst : Decidable p} (hp : p) (h : A) : if decide p = true then A else B := by rw [decide_eq_true hp]; exact h
theorem i_no {p A B : Prop} {inst : Decidable p} (hp : ¬ p) (h : B) : if decide p = true then A else B := by rw [decide_eq_false hp]; exact h
theorem sz {n : Nat} (h : n ≤ 100000) : n ≤ sizeLine := Nat.le_trans h (by decide)
theorem szl {n : Nat} (h : n < 100000) : n < sizeLine := Nat.lt_of_lt_of_le h (by decide)
theorem cmul_l {i j : Int} (h1 : -1000000000000 ≤ i) (h2 : i ≤ 1000000000000) : CMul i j := .inl ⟨by omega, by omega⟩
theorem cmul_r {i j : Int} (h1 : -1000000000000 ≤ j) (h2 : j ≤ 1000000000000) : CMul i j := .inr ⟨by omega, by omega⟩
theorem cdiv {i j : Int} (h0 : 0 < j) (h : j ≤ 100000000000000000000000000000000000000000000000000000000000000000000000000000) : CDivW i j := wide_div (b := 300) h0 (by
  have e : (100000000000000000000000000000000000000000000000000000000000000000000000000000 : Nat) < 2 ^ 300 := by decide
  omega) (by decide) (by decide)
theorem cpow10 {j : Int} (h0 : 0 ≤ j) (h : j ≤ 100000) : CPow 10 j := ⟨h0, by omega, by decide⟩
theorem cpow2 {j : Int} (h0 : 0 ≤ j) (h : j ≤ 100000) : CPow 2 j := ⟨h0, by omega, by decide⟩
theorem cpow1 {j : Int} (h0 : 0 ≤ j) (h : j ≤ 100000) : CPow 1 j := ⟨h0, by omega, by decide⟩
/-! ### heaps: what is kept -/
theorem same_new {H : Hp} {p : Addr} {o : HO} (h : H p = none) : Same H (upd H p o) := fun b u e => by
  rw [upd_ne (ne_of_none e h)]
  exact e
theorem upd_keep {H : Hp} {p a : Addr} {o u : HO} (h : H p = none) (e : H a = some u) : upd H p o a = some u := same_new h _ _ e
theorem upd_off {H : Hp} {p a : Addr} {o u : HO} (h : a ≠ p) (e : H a = some u) : upd H p o a = some u := by
  rw [upd_ne h]
  exact e
/-- the heap without s -/
def hid (s : Addr) (H : Hp) : Hp := fun b => if b = s then none else H b
theorem hid_of {s : Addr} {H : Hp} {b : Addr} {o : HO} (h : hid s H b = some o) : H b = some o ∧ b ≠ s := by
  unfold hid at h
  split at h
  · cases h
  · exact ⟨h, by assumption⟩
theorem hid_to {s : Addr} {H : Hp} {b : Addr} {o : HO} (h : H b = some o) (n : b ≠ s) : hid s H b = some o := by
  unfold hid
  rw [if_neg n]
  exact h
theorem hid_same {s : Addr} {H : Hp} : Same (hid s H) H := fun _ _ h => (hid_of h).1
theorem hid_upd {s : Addr} {H : Hp} {o : HO} : hid s (upd H s o) = hid s H := by
  funext b
  unfold hid
  by_cases h : b = s
  · rw [if_pos h, if_pos h]
  · rw [if_neg h, if_neg h, upd_ne h]
theorem hid_mono {s : Addr} {H H' : Hp} (h : Same H H') : Same (hid s H) (hid s H') := fun b o e => by
  obtain ⟨e1, n⟩ := hid_of e
  exact hid_to (h b o e1) n
/-- the draws at d, their state at s -/
def Dr (d s : Addr) (H : Hp) : Prop := ∃ (c : Addr) (cs : List Int) (p b n t e : Int), H d = some (.lst [.ref c, .ref s]) ∧ H c = some (.lst (cs.map V.int)) ∧ H s = some (.lst [.int p, .int b, .int n, .int t, .int e]) ∧ d ≠ s ∧ c ≠ s ∧ 0 ≤ p ∧ 0 ≤ b ∧ cs.length ≤ 100000
theorem Dr.same {d s : Addr} {H H' : Hp} (h : Dr d s H) (k : Same H H') : Dr d s H' := by
  obtain ⟨c, cs, p, b, n, t, e, h1, h2, h3, h4⟩ := h
  exact ⟨c, cs, p, b, n, t, e, k _ _ h1, k _ _ h2, k _ _ h3, h4⟩
theorem Dr.s {d s : Addr} {H : Hp} (h : Dr d s H) : ∃ o, H s = some o := by
  obtain ⟨c, cs, p, b, n, t, e, h1, h2, h3, h4⟩ := h
  exact ⟨_, h3⟩
theorem Dr.ne {d s q : Addr} {H : Hp} (h : Dr d s H) (hq : H q = none) : q ≠ s := by
  obtain ⟨o, ho⟩ := h.s
  exact fun z => by
    rw [z, ho] at hq
    cases hq
theorem hid_new {s p : Addr} {H : Hp} {o : HO} (h : p ≠ s) : hid s (upd H p o) p = some o := hid_to upd_same h
/-! ### plain data in the heap -/
inductive Dt where
  | non | bl (b : Bool) | int (i : Int) | str (x : Str) | lst (l : List Dt) | tup (l : List Dt) | dic (l : List (Str × Dt))
mutual
inductive At (H : Hp) : V → Dt → Prop where
  | non : At H .non .non
  | bl (b : Bool) : At H (.bl b) (.bl b)
  | int (i : Int) : At H (.int i) (.int i)
  | str (x : Str) : At H (.str x) (.str x)
  | lst {a : Addr} {vs : List V} {ds : List Dt} (h : H a = some (.lst vs)) (hs : Ats H vs ds) : At H (.ref a) (.lst ds)
  | tup {a : Addr} {vs : List V} {ds : List Dt} (h : H a = some (.tup vs)) (hs : Ats H vs ds) : At H (.ref a) (.tup ds)
  | dic {a : Addr} {kvs : List (Key × V)} {ds : List (Str × Dt)} (h : H a = some (.dK kvs)) (hs : Atk H kvs ds) : At H (.ref a) (.dic ds)
inductive Ats (H : Hp) : List V → List Dt → Prop where
  | nil : Ats H [] []
  | cons {v : V} {d : Dt} {vs : List V} {ds : List Dt} (h : At H v d) (hs : Ats H vs ds) : Ats H (v :: vs) (d :: ds)
inductive Atk (H : Hp) : List (Key × V) → List (Str × Dt) → Prop where
  | nil : Atk H [] []
  | cons {k : Str} {v : V} {d : Dt} {vs : List (Key × V)} {ds : List (Str × Dt)} (h : At H v d) (hs : Atk H vs ds) : Atk H ((Sum.inr k, v) :: vs) ((k, d) :: ds)
end
mutual
theorem At.mono {H H' : Hp} (k : Same H H') : ∀ {v : V} {d : Dt}, At H v d → At H' v d
  | _, _, .non => .non
  | _, _, .bl b => .bl b
  | _, _, .int i => .int i
  | _, _, .str x => .str x
  | _, _, .lst h hs => .lst (k _ _ h) (Ats.mono k hs)
  | _, _, .tup h hs => .tup (k _ _ h) (Ats.mono k hs)
  | _, _, .dic h hs => .dic (k _ _ h) (Atk.mono k hs)
theorem Ats.mono {H H' : Hp} (k : Same H H') : ∀ {v : List V} {d : List Dt}, Ats H v d → Ats H' v d
  | _, _, .nil => .nil
  | _, _, .cons h hs => .cons (At.mono k h) (Ats.mono k hs)
theorem Atk.mono {H H' : Hp} (k : Same H H') : ∀ {v : List (Key × V)} {d : List (Str × Dt)}, Atk H v d → Atk H' v d
  | _, _, .nil => .nil
  | _, _, .cons h hs => .cons (At.mono k h) (Atk.mono k hs)
end
theorem Ats.length {H : Hp} : ∀ {vs : List V} {ds : List Dt}, Ats H vs ds → vs.length = ds.length
  | _, _, .nil => rfl
  | _, _, .cons _ hs => congrArg (· + 1) (Ats.length hs)
theorem Ats.get {H : Hp} : ∀ {vs : List V} {ds : List Dt} {i : Nat} {d : Dt}, Ats H vs ds → ds[i]? = some d → ∃ v, vs[i]? = some v ∧ At H v d
  | _, _, _, _, .nil, e => by simp at e
  | _, _, 0, _, .cons h _, e => by simp at e; subst e; exact ⟨_, rfl, h⟩
  | _, _, i + 1, d, .cons _ hs, e => by
    obtain ⟨v, h1, h2⟩ := Ats.get (i := i) (d := d) hs (by simpa using e)
    exact ⟨v, by simpa using h1, h2⟩
/-- the built-in class of a known value -/
inductive Ty0 (H : Hp) : V → String → Prop where
  | non : Ty0 H .non "NoneType"
  | bl (b : Bool) : Ty0 H (.bl b) "bool"
  | int (i : Int) : Ty0 H (.int i) "int"
  | str (x : Str) : Ty0 H (.str x) "str"
  | lst {a : Addr} {vs : List V} (h : H a = some (.lst vs)) : Ty0 H (.ref a) "list"
  | tup {a : Addr} {vs : List V} (h : H a = some (.tup vs)) : Ty0 H (.ref a) "tuple"
  | dic {a : Addr} {kvs : List (Key × V)} (h : H a = some (.dK kvs)) : Ty0 H (.ref a) "dict"
theorem Ty0.tx {K : PySem.W.Frag} {H : Hp} {v : V} {n : String} (h : Ty0 H v n) : TyX K H v (.type n) := by
  cases h with
  | non => exact .base .non
  | bl b => exact .base (.bl b)
  | int i => exact .base (.int i)
  | str x => exact .base (.str x)
  | lst h => exact .base (.lst h)
  | tup h => exact .base (.tup h)
  | dic h => exact .base (.dK h)
def Dt.ty : Dt → String
  | .non => "NoneType" | .bl _ => "bool" | .int _ => "int" | .str _ => "str" | .lst _ => "list" | .tup _ => "tuple" | .dic _ => "dict"
theorem At.ty {H : Hp} {v : V} {d : Dt} (h : At H v d) : Ty0 H v d.ty := by
  cases h with
  | non => exact .non
  | bl b => exact .bl b
  | int i => exact .int i
  | str x => exact .str x
  | lst h _ => exact .lst h
  | tup h _ => exact .tup h
  | dic h _ => exact .dic h
theorem Ty0.mono {H H' : Hp} {v : V} {n : String} (k : Same H H') (h : Ty0 H v n) : Ty0 H' v n := by
  cases h with
  | non => exact .non
  | bl b => exact .bl b
  | int i => exact .int i
  | str x => exact .str x
  | lst h => exact .lst (k _ _ h)
  | tup h => exact .tup (k _ _ h)
  | dic h => exact .dic (k _ _ h)
theorem i_isi {K : PySem.W.Frag} {H : Hp} {Q : VK} {v : V} {n c : String} {b : Bool} (h : Ty0 H v n) (e : kitB n c = some b) (q : Q (.bl b) H) : rIsi K [v, .ty c] H Q :=
  ⟨v, .ty c, .type n, .type c, b, rfl, .ty c, h.tx, kit_ty e, q⟩
/-! ### loops and comprehensions -/
/-- a for over J from σ and H on; a comprehension likewise -/
def ForW (J : It) (g : TG) (tb : TS) (D : Ends) (σ : St) (H1 : Hp) : Prop := tFor (fun _ G R => R J G) g tb D σ H1
def LcW (J : It) (g : TG) (tt : TT) (te : TE) (vs : List Nat) (σ : St) (H1 : Hp) (Q : VK) : Prop := tLc (fun _ G R => R J G) g tt te vs σ H1 Q
section
variable {K : PySem.W.Frag} {σ : St} {H : Hp} {Q : VK} {D : Ends} {g : TG} {tb : TS} {ta : TA} {tl te : TE} {tt : TT} {vs : List Nat} {n m : Int} {a : Addr} {xs : List V}
theorem i_forR1 (h : ta σ H fun vs H1 => ∃ j : Int, vs = [.int j] ∧ -(2 ^ 62) ≤ j ∧ j < 2 ^ 62 ∧ ForW (Itr 0 j.toNat) g tb D σ H1) : tFor (iRng1 ta) g tb D σ H := h
instance s_forR1 : Stp (tFor (iRng1 ta) g tb D σ H) (ta σ H fun vs H1 => ∃ j : Int, vs = [.int j] ∧ -(2 ^ 62) ≤ j ∧ j < 2 ^ 62 ∧ ForW (Itr 0 j.toNat) g tb D σ H1) := ⟨i_forR1⟩
theorem i_forR2 (h : ta σ H fun vs H1 => ∃ i j : Int, vs = [.int i, .int j] ∧ (-(2 ^ 62) ≤ i ∧ i < 2 ^ 62 ∧ -(2 ^ 62) ≤ j ∧ j < 2 ^ 62) ∧ ForW (Itr i (j - i).toNat) g tb D σ H1) : tFor (iRng2 ta) g tb D σ H := h
instance s_forR2 : Stp (tFor (iRng2 ta) g tb D σ H) (ta σ H fun vs H1 => ∃ i j : Int, vs = [.int i, .int j] ∧ (-(2 ^ 62) ≤ i ∧ i < 2 ^ 62 ∧ -(2 ^ 62) ≤ j ∧ j < 2 ^ 62) ∧ ForW (Itr i (j - i).toNat) g tb D σ H1) := ⟨i_forR2⟩
theorem i_forL (h : tl σ H fun x H1 => ∃ a, x = .ref a ∧ (∃ xs, SqL K H1 a xs) ∧ ForW (Itl K a) g tb D σ H1) : tFor (iList K tl) g tb D σ H := h
instance s_forL : Stp (tFor (iList K tl) g tb D σ H) (tl σ H fun x H1 => ∃ a, x = .ref a ∧ (∃ xs, SqL K H1 a xs) ∧ ForW (Itl K a) g tb D σ H1) := ⟨i_forL⟩
theorem i_forT (h : tl σ H fun x H1 => ∃ a, x = .ref a ∧ (∃ xs, SqT K H1 a xs) ∧ ForW (Itt K a) g tb D σ H1) : tFor (iTup K tl) g tb D σ H := h
instance s_forT : Stp (tFor (iTup K tl) g tb D σ H) (tl σ H fun x H1 => ∃ a, x = .ref a ∧ (∃ xs, SqT K H1 a xs) ∧ ForW (Itt K a) g tb D σ H1) := ⟨i_forT⟩
theorem f_rng1 (h1 : -1000000000000 ≤ n) (h2 : n ≤ 1000000000000) (q : ForW (Itr 0 n.toNat) g tb D σ H) : ∃ j : Int, [V.int n] = [.int j] ∧ -(2 ^ 62) ≤ j ∧ j < 2 ^ 62 ∧ ForW (Itr 0 j.toNat) g tb D σ H := ⟨n, rfl, by omega, by omega, q⟩
theorem f_rng2 (h1 : -1000000000000 ≤ m) (h2 : m ≤ 1000000000000) (h3 : -1000000000000 ≤ n) (h4 : n ≤ 1000000000000) (q : ForW (Itr m (n - m).toNat) g tb D σ H) :
    ∃ i j : Int, [V.int m, V.int n] = [.int i, .int j] ∧ (-(2 ^ 62) ≤ i ∧ i < 2 ^ 62 ∧ -(2 ^ 62) ≤ j ∧ j < 2 ^ 62) ∧ ForW (Itr i (j - i).toNat) g tb D σ H := ⟨m, n, rfl, ⟨by omega, by omega, by omega, by omega⟩, q⟩
theorem f_lst (h : SqL K H a xs) (q : ForW (Itl K a) g tb D σ H) : ∃ b, V.ref a = .ref b ∧ (∃ xs, SqL K H b xs) ∧ ForW (Itl K b) g tb D σ H := ⟨a, rfl, ⟨xs, h⟩, q⟩
theorem f_tup (h : SqT K H a xs) (q : ForW (Itt K a) g tb D σ H) : ∃ b, V.ref a = .ref b ∧ (∃ xs, SqT K H b xs) ∧ ForW (Itt K b) g tb D σ H := ⟨a, rfl, ⟨xs, h⟩, q⟩
theorem i_lcR1 (h : ta σ H fun ws H1 => ∃ j : Int, ws = [.int j] ∧ -(2 ^ 62) ≤ j ∧ j < 2 ^ 62 ∧ LcW (Itr 0 j.toNat) g tt te vs σ H1 Q) : tLc (iRng1 ta) g tt te vs σ H Q := h
instance s_lcR1 : Stp (tLc (iRng1 ta) g tt te vs σ H Q) (ta σ H fun ws H1 => ∃ j : Int, ws = [.int j] ∧ -(2 ^ 62) ≤ j ∧ j < 2 ^ 62 ∧ LcW (Itr 0 j.toNat) g tt te vs σ H1 Q) := ⟨i_lcR1⟩
theorem i_lcL (h : tl σ H fun x H1 => ∃ a, x = .ref a ∧ (∃ xs, SqL K H1 a xs) ∧ LcW (Itl K a) g tt te vs σ H1 Q) : tLc (iList K tl) g tt te vs σ H Q := h
instance s_lcL : Stp (tLc (iList K tl) g tt te vs σ H Q) (tl σ H fun x H1 => ∃ a, x = .ref a ∧ (∃ xs, SqL K H1 a xs) ∧ LcW (Itl K a) g tt te vs σ H1 Q) := ⟨i_lcL⟩
theorem i_lcT (h : tl σ H fun x H1 => ∃ a, x = .ref a ∧ (∃ xs, SqT K H1 a xs) ∧ LcW (Itt K a) g tt te vs σ H1 Q) : tLc (iTup K tl) g tt te vs σ H Q := h
instance s_lcT : Stp (tLc (iTup K tl) g tt te vs σ H Q) (tl σ H fun x H1 => ∃ a, x = .ref a ∧ (∃ xs, SqT K H1 a xs) ∧ LcW (Itt K a) g tt te vs σ H1 Q) := ⟨i_lcT⟩
theorem c_rng1 (h1 : -1000000000000 ≤ n) (h2 : n ≤ 1000000000000) (q : LcW (Itr 0 n.toNat) g tt te vs σ H Q) : ∃ j : Int, [V.int n] = [.int j] ∧ -(2 ^ 62) ≤ j ∧ j < 2 ^ 62 ∧ LcW (Itr 0 j.toNat) g tt te vs σ H Q := ⟨n, rfl, by omega, by omega, q⟩
theorem c_lst (h : SqL K H a xs) (q : LcW (Itl K a) g tt te vs σ H Q) : ∃ b, V.ref a = .ref b ∧ (∃ xs, SqL K H b xs) ∧ LcW (Itl K b) g tt te vs σ H Q := ⟨a, rfl, ⟨xs, h⟩, q⟩
theorem c_tup (h : SqT K H a xs) (q : LcW (Itt K a) g tt te vs σ H Q) : ∃ b, V.ref a = .ref b ∧ (∃ xs, SqT K H b xs) ∧ LcW (Itt K b) g tt te vs σ H Q := ⟨a, rfl, ⟨xs, h⟩, q⟩
theorem i_tyes {QT : Bool → Hp → Prop} (h : QT true H) : tYes σ H QT := h
instance s_tyes {QT : Bool → Hp → Prop} : Stp (tYes σ H QT) (QT true H) := ⟨i_tyes⟩
theorem i_amongL {i : Int} (h : SqL K H a xs) (h0 : 0 ≤ i) (h1 : i < xs.length) (q : ∀ v, xs[i.toNat]? = some v → Q v H) : rIxL K (.ref a) (.int i) H Q := by
  have hx : xs[i.toNat]? = some (xs[i.toNat]'(by omega)) := List.getElem?_eq_getElem _
  exact ⟨a, xs, i, _, rfl, rfl, h, at_of (j := i.toNat) (by omega) hx, q _ hx⟩
end
/-- the rest of a block once for all ways through its first statement -/
theorem i_cut {ts tw : TS} {nx bk ct : St → Hp → Prop} {rt : VK} {σ : St} {H : Hp} (R : St → Hp → Prop) (hR : ∀ σ' H', R σ' H' → tw ⟨nx, rt, bk, ct⟩ σ' H') (h : ∀ nx : St → Hp → Prop, (∀ σ' H', R σ' H' → nx σ' H') → ts ⟨nx, rt, bk, ct⟩ σ H) : tSeq ts tw ⟨nx, rt, bk, ct⟩ σ H := h _ hR
section
variable {K : PySem.W.Frag} {σ : St} {H : Hp} {g : TG} {tb : TS} {n : Nat} {lo : Int} {a : Addr} {xs : List V} {nx bk ct : St → Hp → Prop} {rt : VK}
theorem l_rng (Pv : Nat → St → Hp → Prop) (h0 : Pv 0 σ H) (hs : ∀ i σ' H', i < n → Pv i σ' H' → g (.int (lo + i)) σ' H' fun σ2 H2 => tb ⟨Pv (i + 1), rt, nx, Pv (i + 1)⟩ σ2 H2) (hd : ∀ σ' H', Pv n σ' H' → nx σ' H') : ForW (Itr lo n) g tb ⟨nx, rt, bk, ct⟩ σ H :=
  for_range (D := ⟨nx, rt, bk, ct⟩) Pv h0 hs hd
theorem l_lst (Pv : Nat → St → Hp → Prop) (h0 : Pv 0 σ H) (hl : ∀ i σ' H', i ≤ xs.length → Pv i σ' H' → SqL K H' a xs) (hs : ∀ i x σ' H', xs[i]? = some x → Pv i σ' H' → g x σ' H' fun σ2 H2 => tb ⟨Pv (i + 1), rt, nx, Pv (i + 1)⟩ σ2 H2) (hd : ∀ σ' H', Pv xs.length σ' H' → nx σ' H') : ForW (Itl K a) g tb ⟨nx, rt, bk, ct⟩ σ H :=
  for_list (D := ⟨nx, rt, bk, ct⟩) Pv h0 hl hs hd
theorem l_tup (Pv : Nat → St → Hp → Prop) (h0 : Pv 0 σ H) (hl : ∀ i σ' H', i ≤ xs.length → Pv i σ' H' → SqT K H' a xs) (hs : ∀ i x σ' H', xs[i]? = some x → Pv i σ' H' → g x σ' H' fun σ2 H2 => tb ⟨Pv (i + 1), rt, nx, Pv (i + 1)⟩ σ2 H2) (hd : ∀ σ' H', Pv xs.length σ' H' → nx σ' H') : ForW (Itt K a) g tb ⟨nx, rt, bk, ct⟩ σ H :=
  for_tup (D := ⟨nx, rt, bk, ct⟩) Pv h0 hl hs hd
end
section
variable {K : PySem.W.Frag} {σ : St} {H : Hp} {g : TG} {tt : TT} {te : TE} {vs : List Nat} {n : Nat} {lo : Int} {a : Addr} {xs : List V} {Q : VK}
theorem m_rng (Pv : Addr → Nat → Hp → Prop) (h0 : ∀ D, H D = none → Pv D 0 (upd H D (.lst [])))
    (hs : ∀ D i H', i < n → Pv D i H' → g (.int (lo + i)) (wipe σ vs) H' fun σ2 H2 => wipe σ2 vs = wipe σ vs ∧ tt σ2 H2 fun b H3 => if b = true then te σ2 H3 fun y H4 => ∃ acc, H4 D = some (.lst acc) ∧ acc.length < sizeLine ∧ Pv D (i + 1) (upd H4 D (.lst (acc ++ [y]))) else Pv D (i + 1) H3)
    (hd : ∀ D H', Pv D n H' → Q (.ref D) H') : LcW (Itr lo n) g tt te vs σ H Q := fun D hD => lc_range (Pv D) (h0 D hD) (hs D) (hd D)
theorem m_lst (Pv : Addr → Nat → Hp → Prop) (h0 : ∀ D, H D = none → Pv D 0 (upd H D (.lst []))) (hl : ∀ D i H', i ≤ xs.length → Pv D i H' → SqL K H' a xs)
    (hs : ∀ D i x H', xs[i]? = some x → Pv D i H' → g x (wipe σ vs) H' fun σ2 H2 => wipe σ2 vs = wipe σ vs ∧ tt σ2 H2 fun b H3 => if b = true then te σ2 H3 fun y H4 => ∃ acc, H4 D = some (.lst acc) ∧ acc.length < sizeLine ∧ Pv D (i + 1) (upd H4 D (.lst (acc ++ [y]))) else Pv D (i + 1) H3)
    (hd : ∀ D H', Pv D xs.length H' → Q (.ref D) H') : LcW (Itl K a) g tt te vs σ H Q := fun D hD => lc_list (Pv D) (h0 D hD) (hl D) (hs D) (hd D)
theorem m_tup (Pv : Addr → Nat → Hp → Prop) (h0 : ∀ D, H D = none → Pv D 0 (upd H D (.lst []))) (hl : ∀ D i H', i ≤ xs.length → Pv D i H' → SqT K H' a xs)
    (hs : ∀ D i x H', xs[i]? = some x → Pv D i H' → g x (wipe σ vs) H' fun σ2 H2 => wipe σ2 vs = wipe σ vs ∧ tt σ2 H2 fun b H3 => if b = true then te σ2 H3 fun y H4 => ∃ acc, H4 D = some (.lst acc) ∧ acc.length < sizeLine ∧ Pv D (i + 1) (upd H4 D (.lst (acc ++ [y]))) else Pv D (i + 1) H3)
    (hd : ∀ D H', Pv D xs.length H' → Q (.ref D) H') : LcW (Itt K a) g tt te vs σ H Q := fun D hD => lc_tup (Pv D) (h0 D hD) (hl D) (hs D) (hd D)
theorem m_kept {D : Addr} {y : V} {R : Hp → Prop} {acc : List V} (h : H D = some (.lst acc)) (hz : acc.length < 100000) (q : R (upd H D (.lst (acc ++ [y])))) : ∃ acc, H D = some (.lst acc) ∧ acc.length < sizeLine ∧ R (upd H D (.lst (acc ++ [y]))) := ⟨acc, h, szl hz, q⟩
end
theorem getI {ns : List Int} {i : Nat} {y : V} (hi : (ns.map V.int)[i]? = some y) : ∃ z, ns[i]? = some z ∧ y = V.int z := by
  rw [List.getElem?_map, Option.map_eq_some_iff] at hi
  exact hi.elim fun z h => ⟨z, h.1, h.2.symm⟩
theorem take_more {α : Type} {l : List α} {i : Nat} {x : α} (h : l[i]? = some x) : l.take (i + 1) = l.take i ++ [x] := by rw [List.take_add_one, h]; rfl
mutual
def Dt.dep : Dt → Nat
  | .lst l => Dt.depL l + 1
  | .tup l => Dt.depL l + 1
  | .dic l => Dt.depK l + 1
  | _ => 0
def Dt.depL : List Dt → Nat
  | [] => 0
  | d :: r => max d.dep (Dt.depL r)
def Dt.depK : List (Str × Dt) → Nat
  | [] => 0
  | (_, d) :: r => max d.dep (Dt.depK r)
end
def Dt.isI : Dt → Bool
  | .int _ => true
  | _ => false
/-- an int from lo to hi -/
def Dt.inR (lo hi : Int) : Dt → Prop
  | .int i => lo ≤ i ∧ i ≤ hi
  | _ => False
/-- a power of two up to m -/
def Dt.isAl (m : Int) : Dt → Prop
  | .int i => (∃ k : Nat, i = 2 ^ k) ∧ i ≤ m
  | _ => False
theorem Dt.inR_of {d : Dt} (h : d.isI = false) (lo hi : Int) : ¬ d.inR lo hi := by
  cases d <;> first | exact fun z => z | cases h
theorem Dt.isAl_of {d : Dt} (h : d.isI = false) (m : Int) : ¬ d.isAl m := by
  cases d <;> first | exact fun z => z | cases h
theorem i_disp1 {σ : St} {H : Hp} {Q : VK} {k : Str} {v : V} (h : ∀ p, H p = none → Q (.ref p) (upd H p (.dK [(Sum.inr k, v)]))) : tDisp [(tC (.str k), tC v)] σ H Q := fun p hp => ⟨upd_same, [(.inr k, v)], rfl, by simp, by rw [upd_upd]; exact h p hp⟩
/-! ### a def as it stands behind the top -/
structure DfG (K : PySem.W.Frag) (mg : Str → Option Value) (x : Str) (st : Stmt) (ps : List Str) (f : Addr) (fd : FuncData) : Prop where
  fn : Fun K x x st f fd
  gl : mg x = some (.ref f)
  bd : Binds K fd ps []
structure DfM (K : PySem.W.Frag) (x qual : Str) (st : Stmt) (ps : List Str) (f : Addr) (fd : FuncData) : Prop where
  fn : Fun K x qual st f fd
  bd : Binds K fd ps []
theorem fn_false {P : Program} {w : World} {K : PySem.W.Frag} {mg : Str → Option Value} {base : Heap} {CX : CXT} {k : Nat} {f : Addr} {fd : FuncData} {ps : List Str} : FnOk P w K mg base CX k f fd ps (fun _ _ _ _ => False) := ⟨fun _ _ _ _ h => h.elim, fun _ _ _ _ _ _ _ _ _ _ _ _ _ h => h.elim⟩
theorem FnU.mono {P : Program} {w : World} {K : PySem.W.Frag} {mg : Str → Option Value} {base : Heap} {j k : Nat} {f : Addr} {fd : FuncData} {ps : List Str} {sp : Sp} (F : FnU P w K mg base j f fd ps sp) (h : j ≤ k) : FnU P w K mg base k f fd ps sp := ⟨F.len, fun A outer s H args us vs Q E hr => F.run A outer s H args us vs Q E (hr.mono h)⟩
/-- the part of H' that is new since H -/
def nw (H H' : Hp) : Hp := fun b => match H b with
  | none => H' b
  | some _ => none
theorem nw_to {H H' : Hp} {b : Addr} {o : HO} (h : H b = none) (e : H' b = some o) : nw H H' b = some o := by
  unfold nw
  rw [h]
  exact e
theorem nw_of {H H' : Hp} {b : Addr} {o : HO} (h : nw H H' b = some o) : H b = none ∧ H' b = some o := by
  unfold nw at h
  cases e : H b with
  | none =>
    rw [e] at h
    exact ⟨rfl, h⟩
  | some u =>
    rw [e] at h
    cases h
theorem nw_old {H H1 H2 : Hp} (k : ∀ b o, H b = some o → ∃ u, H1 b = some u) : Same (nw H1 H2) (nw H H2) := fun b o e => by
  obtain ⟨e1, e2⟩ := nw_of e
  refine nw_to ?_ e2
  cases q : H b with
  | none => rfl
  | some u =>
    obtain ⟨u', q'⟩ := k b u q
    rw [q'] at e1
    cases e1
theorem nw_hid {d s : Addr} {H H' : Hp} (h : Dr d s H) : Same (nw H H') (hid s H') := fun b o e => by
  obtain ⟨e1, e2⟩ := nw_of e
  exact hid_to e2 (h.ne e1)
theorem nw_same {H H' : Hp} : Same (nw H H') H' := fun _ _ e => (nw_of e).2
theorem alive {d s : Addr} {H H1 : Hp} (h : Dr d s H1) (k : Same (hid s H) (hid s H1)) : ∀ b o, H b = some o → ∃ u, H1 b = some u := fun b o e => by
  by_cases hb : b = s
  · subst hb
    exact h.s
  · exact ⟨o, hid_same _ _ (k _ _ (hid_to e hb))⟩
/-- what is new since H stays new and stays as it is -/
theorem nw_grow {d s : Addr} {H H1 H2 : Hp} (h : Dr d s H) (k : Same (hid s H1) (hid s H2)) : Same (nw H H1) (nw H H2) := fun b o e => by
  obtain ⟨e1, e2⟩ := nw_of e
  exact nw_to e1 (hid_same _ _ (k _ _ (hid_to e2 (h.ne e1))))
/-- what the end asks of the law -/
def sp_end (K : PySem.W.Frag) : Sp := fun vs H Q _ => ∃ (a : Addr) (ns : List Int), vs = [.ref a] ∧ SqL K H a (ns.map V.int) ∧ ns.length ≤ 63 ∧ ∀ H', Q (.bl true) H'
/-! ## Draws -/
local macro_rules | `(tactic| kct_strs) => `(tactic| first
  | assumption | exact upd_same | (refine upd_off (by assumption) ?_; kct_strs) | (refine upd_keep (by assumption) ?_; kct_strs))
local macro_rules | `(tactic| kbj_are) => `(tactic| first
  | with_reducible refine i_var (by with_unfolding_all rfl) ?_
  | with_reducible refine Stp.go ?_
  | with_reducible refine i_blV ?_
  | with_reducible refine i_ixL (sqL (by kct_strs)) (by with_unfolding_all rfl) ?_
  | with_reducible refine i_ixT (sqT (by kct_strs)) (by with_unfolding_all rfl) ?_
  | with_reducible refine i_setL (by kct_strs) (by with_unfolding_all rfl) ?_
  | with_reducible refine i_mul (by first | exact cmul_r (by omega) (by omega) | exact cmul_l (by omega) (by omega)) ?_
  | with_reducible refine i_div (by exact cdiv (by omega) (by omega)) ?_
  | with_reducible refine i_mod (by omega) ?_
  | with_reducible refine i_lenL (sqL (by kct_strs)) ?_
  | with_reducible refine i_lenT (sqT (by kct_strs)) ?_
  | with_reducible refine i_pow (by first | exact cpow10 (by omega) (by omega) | exact cpow2 (by omega) (by omega)) ?_
  | with_reducible refine i_shl (by first | exact cpow1 (by omega) (by omega) | exact cpow2 (by omega) (by omega)) ?_
  | with_reducible refine i_seqG (by with_unfolding_all rfl) ?_
  | with_reducible refine i_aug (by with_unfolding_all rfl) ?_
  | with_reducible refine i_gtup (sqT (by kct_strs)) (by with_unfolding_all rfl) ?_
  | with_reducible refine i_disp1 (fun p hp => ?_)
  | with_reducible refine ⟨sz (by simp), fun p hp => ?_⟩)
local macro_rules | `(tactic| fold_lay) => `(tactic| repeat kbj_are)
local macro_rules | `(tactic| fold_depth) => `(tactic| (with_reducible refine i_seq ?_; fold_lay))
/-! ### the promises of the draws -/
def sp_next_cell : Sp := fun vs H Q _ => ∃ (d s : Addr), vs = [.ref d] ∧ Dr d s H ∧ ∀ H', Dr d s H' → Same (hid s H) (hid s H') → Q .non H'
def sp_mixed : Sp := fun vs H Q _ => ∃ (e t m : Int), vs = [.int e, .int t, .int m] ∧ 0 < m ∧ ∀ v, 0 ≤ v → v < m → Q (.int v) H
/-- below 2 the draw is 0 -/
def sp_take : Sp := fun vs H Q _ => ∃ (d s : Addr) (m : Int), vs = [.ref d, .int m] ∧ Dr d s H ∧ m ≤ 10000000000000000000000000000000000000000000000000000000000000000000000 ∧
  ∀ v H', 0 ≤ v → (v < m ∨ v = 0) → Dr d s H' → Same (hid s H) (hid s H') → Q (.int v) H'
def N_l_next_cell : List Str := ["_law_draws_here", "_law_cells", "_law_state", "_law_cell"]
def t_l_next_cell (K : PySem.W.Frag) : TS := (tSeq (tAsg (tOp (rIxL K) (tVar 0) (tC (.int 0))) (gName 1))
  (tSeq (tAsg (tOp (rIxL K) (tVar 0) (tC (.int 1))) (gName 2))
  (tIfS (tTest (tOp oLt (tOp (rIxL K) (tVar 2) (tC (.int 0))) (tCB (rLen K) (tCons (tVar 1) tNil)))) (tSeq (tAsg (tCB rInt1 (tCons (tOp (rIxL K) (tVar 1) (tOp (rIxL K) (tVar 2) (tC (.int 0)))) tNil)) (gName 3))
  (tSeq (tAsg (tOp oAdd (tOp (rIxL K) (tVar 2) (tC (.int 0))) (tC (.int 1))) (gSub (tVar 2) (tC (.int 0)) rSetL))
  (tSeq (tAsg (tOp oMod (tCB rInt1 (tCons (tOp oAdd (tOp oAdd (tOp oMul (tOp (rIxL K) (tVar 2) (tC (.int 4))) (tC (.int 31))) (tOp oMod (tVar 3) (tC (.int 2147483647)))) (tC (.int 1))) tNil)) (tC (.int 2147483647))) (gSub (tVar 2) (tC (.int 4)) rSetL))
  (tIfS (tTest (tOp oGe (tVar 3) (tOp oPow (tC (.int 10)) (tC (.int 18))))) (tAsg (tVar 3) (gSub (tVar 2) (tC (.int 1)) rSetL)) (tAsg (tC (.int 2)) (gSub (tVar 2) (tC (.int 2)) rSetL)))))) tNext)))
theorem pure_next_cell {K : PySem.W.Frag} {vs : List V} {H : Hp} {Q : VK} {E : XK} (h : sp_next_cell vs H Q E) : t_l_next_cell K { nx := fun _ H' => Q .non H', rt := Q } (start N_l_next_cell vs) H := by
  obtain ⟨d, s, rfl, hD, k⟩ := h
  obtain ⟨c, cs, p, b, n, t, e, h1, h2, h3, h4, h5, h6, h7, h8⟩ := id hD
  have fin : ∀ (H' : Hp) (p' b' n' t' e' : Int), H' s = some (.lst [.int p', .int b', .int n', .int t', .int e']) → (∀ q, q ≠ s → H' q = H q) → 0 ≤ p' → 0 ≤ b' → Q .non H' := fun H' p' b' n' t' e' hs hk hp hb =>
    k H' ⟨c, cs, p', b', n', t', e', by rw [hk _ h4]; exact h1, by rw [hk _ h5]; exact h2, hs, h4, h5, hp, hb, h8⟩ fun q o hq => by
      obtain ⟨q1, q2⟩ := hid_of hq
      exact hid_to (by rw [hk _ q2]; exact q1) q2
  unfold t_l_next_cell
  fold_lay
  refine i_ifd (fun hlt => ?_) (fun hlt => ?_)
  · have hx : ∃ z, cs[p.toNat]? = some z := by
      rw [List.length_map] at hlt
      exact ⟨cs[p.toNat]'(by omega), List.getElem?_eq_getElem _⟩
    obtain ⟨z, hz⟩ := hx
    fold_lay
    refine i_ixL (sqL (by kct_strs)) (at_of (j := p.toNat) (by omega) (by rw [List.getElem?_map, hz]; rfl)) ?_
    fold_lay
    refine i_ifd (fun hge => ?_) (fun hge => ?_)
    · fold_lay
      refine fin _ (p + 1) z n t _ upd_same (fun q hq => by rw [upd_ne hq, upd_ne hq, upd_ne hq]) (by omega) ?_
      have : (0 : Int) ≤ 10 ^ (18 : Int).toNat := by decide
      omega
    · fold_lay
      exact fin _ (p + 1) b 2 t _ upd_same (fun q hq => by rw [upd_ne hq, upd_ne hq, upd_ne hq]) (by omega) h7
  · fold_lay
    exact fin _ p b n t e h3 (fun _ _ => rfl) h6 h7

def N_l_mixed : List Str := ["_law_seed", "_law_turn", "_law_many", "_law_value", "_law_k", "_law_first", "_law_second"]
def t_l_mixed (K : PySem.W.Frag) : TS := (tSeq (tAsg (tC (.int 0)) (gName 3))
  (tSeq (tFor (iRng1 (tCons (tC (.int 2)) tNil)) (gName 4) (tSeq (tAsg (tOp oMod (tCB rInt1 (tCons (tOp oMul (tOp oAdd (tOp oAdd (tVar 0) (tC (.int 7))) (tOp oMul (tOp oAdd (tOp oMul (tC (.int 2)) (tVar 1)) (tVar 4)) (tC (.int 1000003)))) (tC (.int 48271))) tNil)) (tC (.int 2147483647))) (gName 5))
  (tSeq (tAsg (tOp oMod (tCB rInt1 (tCons (tOp oAdd (tOp oAdd (tOp oMul (tVar 5) (tVar 5)) (tOp oMul (tOp oDiv (tVar 5) (tC (.int 3571))) (tC (.int 69621)))) (tVar 1)) tNil)) (tC (.int 2147483399))) (gName 6))
  (tAsg (tOp oAdd (tOp oMul (tVar 3) (tC (.int 126322553))) (tOp oDiv (tVar 6) (tC (.int 17)))) (gName 3)))))
  (tRet (tOp oMod (tCB rInt1 (tCons (tVar 3) tNil)) (tVar 2)))))
theorem pure_mixed {K : PySem.W.Frag} {vs : List V} {H : Hp} {Q : VK} {E : XK} (h : sp_mixed vs H Q E) : t_l_mixed K { nx := fun _ H' => Q .non H', rt := Q } (start N_l_mixed vs) H := by
  obtain ⟨e, t, m, rfl, hm, k⟩ := h
  unfold t_l_mixed
  fold_lay
  fold_depth
  refine f_rng1 (by omega) (by omega) (l_rng (fun i σ H' => H' = H ∧ ∃ (v : Int) (x1 x2 x3 : Option V), σ = [some (.int e), some (.int t), some (.int m), some (.int v), x1, x2, x3]) ⟨rfl, 0, none, none, none, rfl⟩ ?_ ?_)
  · rintro i σ H' hi ⟨rfl, v, x1, x2, x3, rfl⟩
    fold_lay
    exact ⟨rfl, _, _, _, _, rfl⟩
  · rintro σ H' ⟨rfl, v, x1, x2, x3, rfl⟩
    fold_lay
    exact k _ (Int.emod_nonneg _ (by omega)) (Int.emod_lt_of_pos _ hm)
theorem c_next_cell {d s : Addr} {H : Hp} {Q : VK} {E : XK} (hD : Dr d s H) (h : ∀ H', Dr d s H' → Same (hid s H) (hid s H') → Q .non H') : sp_next_cell [.ref d] H Q E := ⟨d, s, rfl, hD, h⟩
theorem c_take {d s : Addr} {m : Int} {H : Hp} {Q : VK} {E : XK} (hD : Dr d s H) (hm : m ≤ 10000000000000000000000000000000000000000000000000000000000000000000000) (h : ∀ v H', 0 ≤ v → (v < m ∨ v = 0) → Dr d s H' → Same (hid s H) (hid s H') → Q (.int v) H') : sp_take [.ref d, .int m] H Q E := ⟨d, s, m, rfl, hD, hm, h⟩
def N_l_take : List Str := ["_law_draws_here", "_law_many", "_law_state", "_law_value"]
def t_l_take (K : PySem.W.Frag) : TS := (tSeq (tIfS (tTest (tOp oLt (tVar 1) (tC (.int 2)))) (tRet (tC (.int 0))) tNext)
  (tSeq (tAsg (tOp (rIxL K) (tVar 0) (tC (.int 1))) (gName 2))
  (tSeq (tAsg (tOp oAdd (tOp (rIxL K) (tVar 2) (tC (.int 3))) (tC (.int 1))) (gSub (tVar 2) (tC (.int 3)) rSetL))
  (tSeq (tIfS (tAnd (tTest (tOp oLt (tOp (rIxL K) (tVar 2) (tC (.int 1))) (tC (.int 2)))) (tTest (tOp oLt (tOp (rIxL K) (tVar 2) (tC (.int 2))) (tC (.int 1))))) (tDrop (tCall sp_next_cell [] E0 (tCons (tVar 0) tNil))) tNext)
  (tSeq (tIfS (tTest (tOp oGt (tOp (rIxL K) (tVar 2) (tC (.int 1))) (tC (.int 1)))) (tSeq (tAsg (tOp oMod (tCB rInt1 (tCons (tOp (rIxL K) (tVar 2) (tC (.int 1))) tNil)) (tVar 1)) (gName 3))
  (tSeq (tAsg (tOp oDiv (tOp (rIxL K) (tVar 2) (tC (.int 1))) (tVar 1)) (gSub (tVar 2) (tC (.int 1)) rSetL))
  (tRet (tVar 3)))) tNext)
  (tSeq (tIfS (tTest (tOp oGt (tOp (rIxL K) (tVar 2) (tC (.int 2))) (tC (.int 0)))) (tAsg (tOp oSub (tOp (rIxL K) (tVar 2) (tC (.int 2))) (tC (.int 1))) (gSub (tVar 2) (tC (.int 2)) rSetL)) tNext)
  (tRet (tCall sp_mixed [] E0 (tCons (tOp (rIxL K) (tVar 2) (tC (.int 4))) (tCons (tOp (rIxL K) (tVar 2) (tC (.int 3))) (tCons (tVar 1) tNil)))))))))))
theorem pure_take {K : PySem.W.Frag} {vs : List V} {H : Hp} {Q : VK} {E : XK} (h : sp_take vs H Q E) : t_l_take K { nx := fun _ H' => Q .non H', rt := Q } (start N_l_take vs) H := by
  obtain ⟨d, s, m, rfl, hD, hm, k⟩ := h
  unfold t_l_take
  fold_depth
  refine i_ifd (fun h2 => ?_) (fun h2 => ?_)
  · fold_lay
    exact k 0 H (by omega) (.inr rfl) hD (Same.refl _)
  obtain ⟨c, cs, p, b, n, t, e, a1, a2, a3, a4, a5, a6, a7, a8⟩ := id hD
  have mk : ∀ (H' : Hp) (p' b' n' t' e' : Int), H' s = some (.lst [.int p', .int b', .int n', .int t', .int e']) → (∀ q, q ≠ s → H' q = H q) → 0 ≤ p' → 0 ≤ b' → Dr d s H' ∧ Same (hid s H) (hid s H') := fun H' p' b' n' t' e' hs hk hp hb =>
    ⟨⟨c, cs, p', b', n', t', e', by rw [hk _ a4]; exact a1, by rw [hk _ a5]; exact a2, hs, a4, a5, hp, hb, a8⟩, fun q o hq => by
      obtain ⟨q1, q2⟩ := hid_of hq
      exact hid_to (by rw [hk _ q2]; exact q1) q2⟩
  fold_lay
  refine i_cut (fun σ' H' => σ' = [some (.ref d), some (.int m), some (.ref s), none] ∧ Dr d s H' ∧ Same (hid s H) (hid s H')) ?_ (fun nx key => ?_)
  · rintro σ' H2 ⟨rfl, hD2, s2⟩
    obtain ⟨c, cs, p, b, n, t, e, b1, b2, b3, b4, b5, b6, b7, b8⟩ := id hD2
    fold_depth
    refine i_ifd (fun h3 => ?_) (fun h3 => ?_)
    · fold_lay
      refine k _ _ (Int.emod_nonneg _ (by omega)) (.inl (Int.emod_lt_of_pos _ (by omega))) ⟨c, cs, p, b / m, n, t, e, by kct_strs, by kct_strs, upd_same, b4, b5, b6, Int.ediv_nonneg b7 (by omega), b8⟩ ?_
      rw [hid_upd]
      exact s2
    fold_lay
    refine i_cut (fun σ' H' => σ' = [some (.ref d), some (.int m), some (.ref s), none] ∧ Dr d s H' ∧ Same (hid s H) (hid s H')) ?_ (fun nx key => ?_)
    · rintro σ' H3 ⟨rfl, hD3, s3⟩
      obtain ⟨c, cs, p, b, n, t, e, c1, c2, c3, c4, c5, c6, c7, c8⟩ := id hD3
      fold_lay
      exact ⟨_, _, _, rfl, by omega, fun v v0 v1 => k v H3 v0 (.inl v1) hD3 s3⟩
    · fold_lay
      refine i_ifd (fun h4 => ?_) (fun h4 => ?_)
      · fold_lay
        refine key _ _ ⟨rfl, ⟨c, cs, p, b, n - 1, t, e, by kct_strs, by kct_strs, upd_same, b4, b5, b6, b7, b8⟩, ?_⟩
        rw [hid_upd]
        exact s2
      · fold_lay
        exact key _ _ ⟨rfl, hD2, s2⟩
  · have mm := mk (upd H s (.lst [.int p, .int b, .int n, .int (t + 1), .int e])) p b n (t + 1) e upd_same (fun q hq => by rw [upd_ne hq]) a6 a7
    fold_lay
    refine i_ifd (fun h3 => ?_) (fun h3 => ?_)
    · fold_lay
      refine i_ifd (fun h4 => ?_) (fun h4 => ?_)
      · fold_lay
        exact c_next_cell mm.1 fun H' d1 d2 => key _ _ ⟨rfl, d1, mm.2.trans d2⟩
      · fold_lay
        exact key _ _ ⟨rfl, mm⟩
    · fold_lay
      exact key _ _ ⟨rfl, mm⟩
/-! ## Draws2 -/
/-! ### between, number, count, alignment, power, long -/
def sp_between : Sp := fun vs H Q _ => ∃ (d s : Addr) (lo hi : Int), vs = [.ref d, .int lo, .int hi] ∧ Dr d s H ∧ hi - lo ≤ 1000000000000000000000000000000000000000000000000000000000000000000000 ∧
  ∀ v H', lo ≤ v → (v ≤ hi ∨ v = lo) → Dr d s H' → Same (hid s H) (hid s H') → Q (.int v) H'
theorem c_between {d s : Addr} {lo hi : Int} {H : Hp} {Q : VK} {E : XK} (hD : Dr d s H) (hm : hi - lo ≤ 1000000000000000000000000000000000000000000000000000000000000000000000) (h : ∀ v H', lo ≤ v → (v ≤ hi ∨ v = lo) → Dr d s H' → Same (hid s H) (hid s H') → Q (.int v) H') : sp_between [.ref d, .int lo, .int hi] H Q E := ⟨d, s, lo, hi, rfl, hD, hm, h⟩
def N_l_between : List Str := ["_law_draws_here", "_law_low", "_law_high", "_law_kind"]
def t_l_between (K : PySem.W.Frag) : TS := (tSeq (tIfS (tTest (tOp oLe (tVar 2) (tVar 1))) (tRet (tVar 1)) tNext)
  (tSeq (tAsg (tCall sp_take [] E0 (tCons (tVar 0) (tCons (tC (.int 6)) tNil))) (gName 3))
  (tSeq (tIfS (tTest (tOp rEq (tVar 3) (tC (.int 0)))) (tRet (tVar 1)) tNext)
  (tSeq (tIfS (tTest (tOp rEq (tVar 3) (tC (.int 1)))) (tRet (tVar 2)) tNext)
  (tRet (tOp oAdd (tVar 1) (tCall sp_take [] E0 (tCons (tVar 0) (tCons (tOp oAdd (tOp oSub (tVar 2) (tVar 1)) (tC (.int 1))) tNil)))))))))
theorem pure_between {K : PySem.W.Frag} {vs : List V} {H : Hp} {Q : VK} {E : XK} (h : sp_between vs H Q E) : t_l_between K { nx := fun _ H' => Q .non H', rt := Q } (start N_l_between vs) H := by
  obtain ⟨d, s, lo, hi, rfl, hD, hm, k⟩ := h
  unfold t_l_between
  fold_depth
  refine i_ifd (fun h1 => ?_) (fun h1 => ?_)
  · fold_lay
    exact k _ _ (by omega) (.inr rfl) hD (Same.refl _)
  fold_lay
  refine c_take hD (by omega) fun v H1 v0 v1 hD1 s1 => ?_
  fold_lay; fold_depth
  refine i_ifd (fun h2 => ?_) (fun h2 => ?_)
  · fold_lay
    exact k _ _ (by omega) (.inr rfl) hD1 s1
  fold_lay; fold_depth
  refine i_ifd (fun h3 => ?_) (fun h3 => ?_)
  · fold_lay
    exact k _ _ (by omega) (.inl (by omega)) hD1 s1
  fold_lay
  refine c_take hD1 (by omega) fun w H2 w0 w1 hD2 s2 => ?_
  fold_lay
  exact k _ _ (by omega) (.inl (by omega)) hD2 (s1.trans s2)
def sp_alignment : Sp := fun vs H Q _ => ∃ (d s : Addr) (m : Int), vs = [.ref d, .int m] ∧ Dr d s H ∧ 0 ≤ m ∧ m ≤ 1000 ∧
  ∀ (k : Nat) H', (k : Int) ≤ m → Dr d s H' → Same (hid s H) (hid s H') → Q (.int (2 ^ k)) H'
theorem c_alignment {d s : Addr} {m : Int} {H : Hp} {Q : VK} {E : XK} (hD : Dr d s H) (h0 : 0 ≤ m) (h1 : m ≤ 1000) (h : ∀ (k : Nat) H', (k : Int) ≤ m → Dr d s H' → Same (hid s H) (hid s H') → Q (.int (2 ^ k)) H') : sp_alignment [.ref d, .int m] H Q E := ⟨d, s, m, rfl, hD, h0, h1, h⟩
theorem pow_succ2 (k : Nat) : (2 : Int) ^ k * 2 = 2 ^ (k + 1) := (Int.pow_succ 2 k).symm
def N_l_alignment : List Str := ["_law_draws_here", "_law_most", "_law_value", "_law_k"]
def t_l_alignment (K : PySem.W.Frag) : TS := (tSeq (tAsg (tC (.int 1)) (gName 2))
  (tSeq (tFor (iRng1 (tCons (tCall sp_between [] E0 (tCons (tVar 0) (tCons (tC (.int 0)) (tCons (tVar 1) tNil)))) tNil)) (gName 3) (tAsg (tOp oMul (tVar 2) (tC (.int 2))) (gName 2)))
  (tRet (tVar 2))))
theorem pure_alignment {K : PySem.W.Frag} {vs : List V} {H : Hp} {Q : VK} {E : XK} (h : sp_alignment vs H Q E) : t_l_alignment K { nx := fun _ H' => Q .non H', rt := Q } (start N_l_alignment vs) H := by
  obtain ⟨d, s, m, rfl, hD, h0, h1, k⟩ := h
  unfold t_l_alignment
  fold_lay; fold_depth
  refine c_between hD (by omega) fun v H1 v0 v1 hD1 s1 => ?_
  fold_lay
  refine f_rng1 (by omega) (by omega) (l_rng (fun i σ H' => H' = H1 ∧ ∃ x, σ = [some (.ref d), some (.int m), some (.int (2 ^ i)), x]) ⟨rfl, none, rfl⟩ ?_ ?_)
  · rintro i σ H' hi ⟨rfl, x, rfl⟩
    fold_lay
    rw [pow_succ2]
    exact ⟨rfl, _, rfl⟩
  · rintro σ H' ⟨rfl, x, rfl⟩
    fold_lay
    exact k _ _ (by omega) hD1 s1
def sp_power : Sp := fun vs H Q _ => ∃ (m : Int), vs = [.int m] ∧ 0 ≤ m ∧ m ≤ 100000 ∧ Q (.int (2 ^ m.toNat)) H
def N_l_power : List Str := ["_law_number_here", "_law_value", "_law_k"]
def t_l_power (K : PySem.W.Frag) : TS := (tSeq (tAsg (tC (.int 1)) (gName 1))
  (tSeq (tFor (iRng1 (tCons (tVar 0) tNil)) (gName 2) (tAsg (tOp oMul (tVar 1) (tC (.int 2))) (gName 1)))
  (tRet (tVar 1))))
theorem pure_power {K : PySem.W.Frag} {vs : List V} {H : Hp} {Q : VK} {E : XK} (h : sp_power vs H Q E) : t_l_power K { nx := fun _ H' => Q .non H', rt := Q } (start N_l_power vs) H := by
  obtain ⟨m, rfl, h0, h1, k⟩ := h
  unfold t_l_power
  fold_lay; fold_depth
  refine f_rng1 (by omega) (by omega) (l_rng (fun i σ H' => H' = H ∧ ∃ x, σ = [some (.int m), some (.int (2 ^ i)), x]) ⟨rfl, none, rfl⟩ ?_ ?_)
  · rintro i σ H' hi ⟨rfl, x, rfl⟩
    fold_lay
    rw [pow_succ2]
    exact ⟨rfl, _, rfl⟩
  · rintro σ H' ⟨rfl, x, rfl⟩
    fold_lay
    exact k
def sp_number : Sp := fun vs H Q _ => ∃ (d s : Addr) (lo hi : Int), vs = [.ref d, .int lo, .int hi] ∧ Dr d s H ∧ lo ≤ hi ∧ hi - lo ≤ 100000000000000000000000000000000000000000000000000000000000000000000 ∧
  ∀ v H', lo ≤ v → v ≤ hi → Dr d s H' → Same (hid s H) (hid s H') → Q (.int v) H'
theorem c_number {d s : Addr} {lo hi : Int} {H : Hp} {Q : VK} {E : XK} (hD : Dr d s H) (hl : lo ≤ hi) (hm : hi - lo ≤ 100000000000000000000000000000000000000000000000000000000000000000000) (h : ∀ v H', lo ≤ v → v ≤ hi → Dr d s H' → Same (hid s H) (hid s H') → Q (.int v) H') : sp_number [.ref d, .int lo, .int hi] H Q E := ⟨d, s, lo, hi, rfl, hD, hl, hm, h⟩
theorem two_pow_pos (k : Nat) : (0 : Int) < 2 ^ k := Int.pow_pos (by decide)
def N_l_number : List Str := ["_law_draws_here", "_law_low", "_law_high", "_law_kind"]
def t_l_number (K : PySem.W.Frag) : TS := (tSeq (tIfS (tTest (tOp oLt (tOp oSub (tVar 2) (tVar 1)) (tC (.int 16)))) (tRet (tCall sp_between [] E0 (tCons (tVar 0) (tCons (tVar 1) (tCons (tVar 2) tNil))))) tNext)
  (tSeq (tAsg (tCall sp_take [] E0 (tCons (tVar 0) (tCons (tC (.int 8)) tNil))) (gName 3))
  (tSeq (tIfS (tTest (tOp oLt (tVar 3) (tC (.int 4)))) (tRet (tOp (rIxL K) (tLst (tCons (tVar 1) (tCons (tVar 2) (tCons (tOp oAdd (tVar 1) (tC (.int 1))) (tCons (tOp oSub (tVar 2) (tC (.int 1))) tNil))))) (tVar 3))) tNext)
  (tSeq (tIfS (tTest (tOp oLt (tVar 3) (tC (.int 6)))) (tRet (tOp oAdd (tVar 1) (tCall sp_take [] E0 (tCons (tVar 0) (tCons (tOp oAdd (tCB rMin2 (tCons (tOp oSub (tVar 2) (tVar 1)) (tCons (tC (.int 40)) tNil))) (tC (.int 1))) tNil))))) tNext)
  (tSeq (tIfS (tTest (tOp rEq (tVar 3) (tC (.int 6)))) (tRet (tCB rMax2 (tCons (tVar 1) (tCons (tCB rMin2 (tCons (tVar 2) (tCons (tOp oSub (tOp oAdd (tCall sp_alignment [] E0 (tCons (tVar 0) (tCons (tC (.int 30)) tNil))) (tCall sp_take [] E0 (tCons (tVar 0) (tCons (tC (.int 3)) tNil)))) (tC (.int 1))) tNil))) tNil)))) tNext)
  (tRet (tOp oAdd (tVar 1) (tCall sp_take [] E0 (tCons (tVar 0) (tCons (tOp oAdd (tOp oSub (tVar 2) (tVar 1)) (tC (.int 1))) tNil))))))))))
theorem pure_number {K : PySem.W.Frag} {vs : List V} {H : Hp} {Q : VK} {E : XK} (h : sp_number vs H Q E) : t_l_number K { nx := fun _ H' => Q .non H', rt := Q } (start N_l_number vs) H := by
  obtain ⟨d, s, lo, hi, rfl, hD, hl, hm, k⟩ := h
  unfold t_l_number
  fold_depth
  refine i_ifd (fun h1 => ?_) (fun h1 => ?_)
  · fold_lay
    exact c_between hD (by omega) fun v H1 v0 v1 hD1 s1 => k _ _ v0 (by omega) hD1 s1
  fold_lay
  refine c_take hD (by omega) fun v H1 v0 v1 hD1 s1 => ?_
  fold_lay; fold_depth
  refine i_ifd (fun h2 => ?_) (fun h2 => ?_)
  · fold_lay
    rename_i p hp
    have fin : ∀ x, lo ≤ x → x ≤ hi → Q (.int x) (upd H1 p (.lst [.int lo, .int hi, .int (lo + 1), .int (hi - 1)])) := fun x x0 x1 => k _ _ x0 x1 (hD1.same (same_new hp)) (s1.trans (hid_mono (same_new hp)))
    have hv : v = 0 ∨ v = 1 ∨ v = 2 ∨ v = 3 := by omega
    rcases hv with rfl | rfl | rfl | rfl
    · fold_lay; exact fin _ (by omega) (by omega)
    · fold_lay; exact fin _ (by omega) (by omega)
    · fold_lay; exact fin _ (by omega) (by omega)
    · fold_lay; exact fin _ (by omega) (by omega)
  fold_lay; fold_depth
  refine i_ifd (fun h3 => ?_) (fun h3 => ?_)
  · fold_lay
    refine c_take hD1 (by split <;> omega) fun w H2 w0 w1 hD2 s2 => ?_
    fold_lay
    refine k _ _ (by omega) ?_ hD2 (s1.trans s2)
    split at w1 <;> omega
  fold_lay; fold_depth
  refine i_ifd (fun h4 => ?_) (fun h4 => ?_)
  · fold_lay
    refine c_alignment hD1 (by omega) (by omega) fun j H2 j1 hD2 s2 => ?_
    fold_lay
    refine c_take hD2 (by omega) fun w H3 w0 w1 hD3 s3 => ?_
    fold_lay
    have hp := two_pow_pos j
    generalize (2 : Int) ^ j = z at hp
    refine k _ _ ?_ ?_ hD3 ((s1.trans s2).trans s3)
    · split
      · omega
      · omega
    · split
      · split <;> omega
      · omega
  fold_lay
  refine c_take hD1 (by omega) fun w H2 w0 w1 hD2 s2 => ?_
  fold_lay
  exact k _ _ (by omega) (by omega) hD2 (s1.trans s2)
def sp_count : Sp := fun vs H Q _ => ∃ (d s : Addr) (lo hi : Int), vs = [.ref d, .int lo, .int hi] ∧ Dr d s H ∧ 0 ≤ lo ∧ lo ≤ hi ∧ hi ≤ 100000000000000000000000000000000000000000000000000000000000000000000 ∧
  ∀ v H', 0 ≤ v → v ≤ hi → Dr d s H' → Same (hid s H) (hid s H') → Q (.int v) H'
theorem c_count {d s : Addr} {lo hi : Int} {H : Hp} {Q : VK} {E : XK} (hD : Dr d s H) (h0 : 0 ≤ lo) (hl : lo ≤ hi) (hm : hi ≤ 100000000000000000000000000000000000000000000000000000000000000000000) (h : ∀ v H', 0 ≤ v → v ≤ hi → Dr d s H' → Same (hid s H) (hid s H') → Q (.int v) H') : sp_count [.ref d, .int lo, .int hi] H Q E := ⟨d, s, lo, hi, rfl, hD, h0, hl, hm, h⟩
def N_l_count : List Str := ["_law_draws_here", "_law_small", "_law_great"]
def t_l_count (K : PySem.W.Frag) : TS := (tSeq (tIfS (tTest (tOp rEq (tCall sp_take [] E0 (tCons (tVar 0) (tCons (tC (.int 8)) tNil))) (tC (.int 7)))) (tRet (tCall sp_between [] E0 (tCons (tVar 0) (tCons (tVar 1) (tCons (tVar 2) tNil))))) tNext)
  (tRet (tCall sp_between [] E0 (tCons (tVar 0) (tCons (tC (.int 0)) (tCons (tVar 1) tNil))))))
theorem pure_count {K : PySem.W.Frag} {vs : List V} {H : Hp} {Q : VK} {E : XK} (h : sp_count vs H Q E) : t_l_count K { nx := fun _ H' => Q .non H', rt := Q } (start N_l_count vs) H := by
  obtain ⟨d, s, lo, hi, rfl, hD, h0, hl, hm, k⟩ := h
  unfold t_l_count
  fold_depth
  refine c_take hD (by omega) fun v H1 v0 v1 hD1 s1 => ?_
  fold_lay
  refine i_ifd (fun h1 => ?_) (fun h1 => ?_)
  · fold_lay
    exact c_between hD1 (by omega) fun v H2 v0 v1 hD2 s2 => k _ _ (by omega) (by omega) hD2 (s1.trans s2)
  · fold_lay
    exact c_between hD1 (by omega) fun v H2 v0 v1 hD2 s2 => k _ _ (by omega) (by omega) hD2 (s1.trans s2)
/-! ## Draws3 -/
/-! ### what is out of a range -/
def lng : Int := 10 ^ 999
theorem lng_big : 10000000000000000000000000000000000000000000000000000000000000000000000 < lng := by decide +kernel
theorem ten_lt (n : Nat) : ((10 : Int) ^ n).natAbs < 2 ^ (4 * n + 1) := by
  rw [Int.natAbs_pow]
  have h : (10 : Int).natAbs ^ n ≤ (2 ^ 4) ^ n := Nat.pow_le_pow_left (by decide) n
  rw [← Nat.pow_mul] at h
  exact Nat.lt_of_le_of_lt h (Nat.pow_lt_pow_right (by decide) (by omega))
def sp_long : Sp := fun vs H Q _ => vs = [] ∧ Q (.int lng) H
def N_l_long : List Str := ["_law_value", "_law_k"]
def t_l_long (K : PySem.W.Frag) : TS := (tSeq (tAsg (tOp oPow (tC (.int 10)) (tC (.int 39))) (gName 0))
  (tSeq (tFor (iRng1 (tCons (tC (.int 15)) tNil)) (gName 1) (tAsg (tOp oMulW (tVar 0) (tOp oPow (tC (.int 10)) (tC (.int 64)))) (gName 0)))
  (tRet (tVar 0))))
theorem pure_long {K : PySem.W.Frag} {vs : List V} {H : Hp} {Q : VK} {E : XK} (h : sp_long vs H Q E) : t_l_long K { nx := fun _ H' => Q .non H', rt := Q } (start N_l_long vs) H := by
  obtain ⟨rfl, k⟩ := h
  unfold t_l_long
  fold_lay; fold_depth
  refine f_rng1 (by omega) (by omega) (l_rng (fun i σ H' => H' = H ∧ ∃ x, σ = [some (.int (10 ^ (39 + 64 * i))), x]) ⟨rfl, none, rfl⟩ ?_ ?_)
  · rintro i σ H' hi ⟨rfl, x, rfl⟩
    have hi : i < 15 := hi
    fold_lay
    refine i_mulW (wide_mul (ten_lt _) (ten_lt _) (by omega) (by omega) ?_) ?_
    · show 4 * (39 + 64 * i) + 1 + (4 * 64 + 1) ≤ 1000000
      omega
    · fold_lay
      refine ⟨rfl, some (.int (0 + (i : Int))), ?_⟩
      have e : (10 : Int) ^ (39 + 64 * i) * 10 ^ (64 : Int).toNat = 10 ^ (39 + 64 * (i + 1)) := by
        rw [← Int.pow_add]
        rfl
      rw [e]
      rfl
  · rintro σ H' ⟨rfl, x, rfl⟩
    fold_lay
    exact k
def sp_not_integer : Sp := fun vs H Q _ => ∃ (d s : Addr), vs = [.ref d] ∧ Dr d s H ∧
  ∀ v dt H', At (nw H H') v dt → dt.isI = false → dt.dep ≤ 1 → Dr d s H' → Same (hid s H) (hid s H') → Q v H'
theorem c_not_integer {d s : Addr} {H : Hp} {Q : VK} {E : XK} (hD : Dr d s H) (h : ∀ v dt H', At (nw H H') v dt → dt.isI = false → dt.dep ≤ 1 → Dr d s H' → Same (hid s H) (hid s H') → Q v H') : sp_not_integer [.ref d] H Q E := ⟨d, s, rfl, hD, h⟩
def N_l_not_integer : List Str := ["_law_draws_here"]
def t_l_not_integer (K : PySem.W.Frag) : TS := (tRet (tOp (rIxL K) (tLst (tCons (tC (.bl true)) (tCons (tC (.bl false)) (tCons (tC .non) (tCons (tC (.str "")) (tCons (tC (.str "1")) (tCons (tC (.str "0")) (tCons (tLst tNil) (tCons (tTup tNil) (tCons (tLst (tCons (tC (.int 1)) tNil)) (tCons (tTup (tCons (tC (.int 0)) tNil)) (tCons (tDisp [((tC (.str "a")), (tC (.int 1)))]) tNil)))))))))))) (tCall sp_take [] E0 (tCons (tVar 0) (tCons (tC (.int 11)) tNil)))))
theorem pure_not_integer {K : PySem.W.Frag} {vs : List V} {H : Hp} {Q : VK} {E : XK} (h : sp_not_integer vs H Q E) : t_l_not_integer K { nx := fun _ H' => Q .non H', rt := Q } (start N_l_not_integer vs) H := by
  obtain ⟨d, s, rfl, hD, k⟩ := h
  unfold t_l_not_integer
  fold_lay
  rename_i p1 h1 p2 h2 p3 h3 p4 h4 p5 h5 p6 h6
  have s1 := same_new (o := .lst []) h1
  have s2 := s1.trans (same_new (o := .tup []) h2)
  have s3 := s2.trans (same_new (o := .lst [.int 1]) h3)
  have s4 := s3.trans (same_new (o := .tup [.int 0]) h4)
  have s5 := s4.trans (same_new (o := .dK [(Sum.inr "a", .int 1)]) h5)
  have n1 := hD.ne h1
  have n2 := (hD.same s1).ne h2
  have n3 := (hD.same s2).ne h3
  have n4 := (hD.same s3).ne h4
  have n5 := (hD.same s4).ne h5
  have s6 := s5.trans (same_new (o := .lst [.bl true, .bl false, .non, .str "", .str "1", .str "0", .ref p1, .ref p2, .ref p3, .ref p4, .ref p5]) h6)
  refine c_take (hD.same s6) (by omega) fun v H7 v0 v1 hD7 s7 => ?_
  have st : Same (hid s H) (hid s H7) := (hid_mono s6).trans s7
  have kp0 : ∀ q o, upd (upd (upd (upd (upd (upd H p1 (.lst [])) p2 (.tup [])) p3 (.lst [.int 1])) p4 (.tup [.int 0])) p5 (.dK [(Sum.inr "a", .int 1)])) p6 (.lst [.bl true, .bl false, .non, .str "", .str "1", .str "0", .ref p1, .ref p2, .ref p3, .ref p4, .ref p5]) q = some o → q ≠ s → hid s H7 q = some o := fun q o hq nq => s7 _ _ (hid_to hq nq)
  have kp : ∀ q o, upd (upd (upd (upd (upd (upd H p1 (.lst [])) p2 (.tup [])) p3 (.lst [.int 1])) p4 (.tup [.int 0])) p5 (.dK [(Sum.inr "a", .int 1)])) p6 (.lst [.bl true, .bl false, .non, .str "", .str "1", .str "0", .ref p1, .ref p2, .ref p3, .ref p4, .ref p5]) q = some o → q ≠ s → H q = none → nw H H7 q = some o := fun q o hq nq hn => nw_to hn (hid_same _ _ (kp0 q o hq nq))
  have a6 : H7 p6 = some (.lst [.bl true, .bl false, .non, .str "", .str "1", .str "0", .ref p1, .ref p2, .ref p3, .ref p4, .ref p5]) := hid_same _ _ (kp0 p6 _ upd_same ((hD.same s5).ne h6))
  have hv : v = 0 ∨ v = 1 ∨ v = 2 ∨ v = 3 ∨ v = 4 ∨ v = 5 ∨ v = 6 ∨ v = 7 ∨ v = 8 ∨ v = 9 ∨ v = 10 := by omega
  rcases hv with rfl | rfl | rfl | rfl | rfl | rfl | rfl | rfl | rfl | rfl | rfl
  · fold_lay; exact k _ _ _ (.bl true) rfl (by decide) hD7 st
  · fold_lay; exact k _ _ _ (.bl false) rfl (by decide) hD7 st
  · fold_lay; exact k _ _ _ .non rfl (by decide) hD7 st
  · fold_lay; exact k _ _ _ (.str _) rfl (by decide) hD7 st
  · fold_lay; exact k _ _ _ (.str _) rfl (by decide) hD7 st
  · fold_lay; exact k _ _ _ (.str _) rfl (by decide) hD7 st
  · fold_lay; exact k _ _ _ (.lst (kp p1 _ (by kct_strs) n1 (h1)) .nil) rfl (by decide) hD7 st
  · fold_lay; exact k _ _ _ (.tup (kp p2 _ (by kct_strs) n2 (s1.free h2)) .nil) rfl (by decide) hD7 st
  · fold_lay; exact k _ _ _ (.lst (kp p3 _ (by kct_strs) n3 (s2.free h3)) (.cons (.int 1) .nil)) rfl (by decide) hD7 st
  · fold_lay; exact k _ _ _ (.tup (kp p4 _ (by kct_strs) n4 (s3.free h4)) (.cons (.int 0) .nil)) rfl (by decide) hD7 st
  · fold_lay; exact k _ _ _ (.dic (kp p5 _ (by kct_strs) n5 (s4.free h5)) (.cons (.int 1) .nil)) rfl (by decide) hD7 st

def sp_not_within : Sp := fun vs H Q _ => ∃ (d s : Addr) (lo hi : Int), vs = [.ref d, .int lo, .int hi] ∧ Dr d s H ∧ -1000000000000 ≤ lo ∧ lo ≤ hi ∧ hi ≤ 1000000000000 ∧
  ∀ v dt H', At (nw H H') v dt → ¬ dt.inR lo hi → dt.dep ≤ 1 → Dr d s H' → Same (hid s H) (hid s H') → Q v H'
theorem c_not_within {d s : Addr} {lo hi : Int} {H : Hp} {Q : VK} {E : XK} (hD : Dr d s H) (h1 : -1000000000000 ≤ lo) (h2 : lo ≤ hi) (h3 : hi ≤ 1000000000000)
    (h : ∀ v dt H', At (nw H H') v dt → ¬ dt.inR lo hi → dt.dep ≤ 1 → Dr d s H' → Same (hid s H) (hid s H') → Q v H') : sp_not_within [.ref d, .int lo, .int hi] H Q E := ⟨d, s, lo, hi, rfl, hD, h1, h2, h3, h⟩
theorem out_int {i lo hi : Int} (h : i < lo ∨ hi < i) : ¬ (Dt.int i).inR lo hi := fun z => by
  obtain ⟨z1, z2⟩ := z
  omega
theorem ten30 : (10 : Int) ^ (30 : Int).toNat = 1000000000000000000000000000000 := by decide +kernel
def N_l_not_within : List Str := ["_law_draws_here", "_law_low", "_law_high", "_law_kind"]
def t_l_not_within (K : PySem.W.Frag) : TS := (tSeq (tAsg (tCall sp_take [] E0 (tCons (tVar 0) (tCons (tC (.int 7)) tNil))) (gName 3))
  (tSeq (tIfS (tTest (tOp oLt (tVar 3) (tC (.int 2)))) (tRet (tOp (rIxL K) (tLst (tCons (tOp oSub (tVar 1) (tC (.int 1))) (tCons (tOp oAdd (tVar 2) (tC (.int 1))) tNil))) (tVar 3))) tNext)
  (tSeq (tIfS (tTest (tOp rEq (tVar 3) (tC (.int 2)))) (tRet (tOp oAdd (tOp oAdd (tVar 2) (tC (.int 1))) (tCall sp_take [] E0 (tCons (tVar 0) (tCons (tOp oPow (tC (.int 10)) (tC (.int 30))) tNil))))) tNext)
  (tSeq (tIfS (tTest (tOp rEq (tVar 3) (tC (.int 3)))) (tRet (tOp oSub (tOp oSub (tVar 1) (tC (.int 1))) (tCall sp_take [] E0 (tCons (tVar 0) (tCons (tOp oPow (tC (.int 10)) (tC (.int 30))) tNil))))) tNext)
  (tSeq (tIfS (tTest (tOp rEq (tVar 3) (tC (.int 4)))) (tRet (tOp (rIxL K) (tLst (tCons (tCall sp_long [] E0 tNil) (tCons (tUn oNeg (tCall sp_long [] E0 tNil)) tNil))) (tCall sp_take [] E0 (tCons (tVar 0) (tCons (tC (.int 2)) tNil))))) tNext)
  (tRet (tCall sp_not_integer [] E0 (tCons (tVar 0) tNil))))))))
theorem pure_not_within {K : PySem.W.Frag} {vs : List V} {H : Hp} {Q : VK} {E : XK} (h : sp_not_within vs H Q E) : t_l_not_within K { nx := fun _ H' => Q .non H', rt := Q } (start N_l_not_within vs) H := by
  obtain ⟨d, s, lo, hi, rfl, hD, b1, b2, b3, k⟩ := h
  have kI : ∀ (i : Int) H', (i < lo ∨ hi < i) → Dr d s H' → Same (hid s H) (hid s H') → Q (.int i) H' := fun i H' hi' hD' hs' => k _ (.int i) _ (.int i) (out_int hi') (Nat.zero_le _) hD' hs'
  unfold t_l_not_within
  fold_lay
  refine c_take hD (by omega) fun v H1 v0 v1 hD1 s1 => ?_
  fold_lay; fold_depth
  refine i_ifd (fun h2 => ?_) (fun h2 => ?_)
  · fold_lay
    rename_i p hp
    have st : Same (hid s H) (hid s (upd H1 p (.lst [.int (lo - 1), .int (hi + 1)]))) := s1.trans (hid_mono (same_new hp))
    have dt := hD1.same (same_new (o := .lst [.int (lo - 1), .int (hi + 1)]) hp)
    have hv : v = 0 ∨ v = 1 := by omega
    rcases hv with rfl | rfl
    · fold_lay; exact kI _ _ (by omega) dt st
    · fold_lay; exact kI _ _ (by omega) dt st
  fold_lay; fold_depth
  refine i_ifd (fun h3 => ?_) (fun h3 => ?_)
  · fold_lay
    rw [ten30]
    refine c_take hD1 (by omega) fun w H2 w0 w1 hD2 s2 => ?_
    fold_lay
    exact kI _ _ (by omega) hD2 (s1.trans s2)
  fold_lay; fold_depth
  refine i_ifd (fun h4 => ?_) (fun h4 => ?_)
  · fold_lay
    rw [ten30]
    refine c_take hD1 (by omega) fun w H2 w0 w1 hD2 s2 => ?_
    fold_lay
    exact kI _ _ (by omega) hD2 (s1.trans s2)
  fold_lay; fold_depth
  refine i_ifd (fun h5 => ?_) (fun h5 => ?_)
  · fold_lay
    refine ⟨rfl, ?_⟩
    fold_lay
    refine ⟨rfl, ?_⟩
    fold_lay
    rename_i p hp
    have hb := lng_big
    generalize lng = z at hb
    have st : Same (hid s H) (hid s (upd H1 p (.lst [.int z, .int (-z)]))) := s1.trans (hid_mono (same_new hp))
    have dt := hD1.same (same_new (o := .lst [.int z, .int (-z)]) hp)
    refine c_take dt (by omega) fun w H2 w0 w1 hD2 s2 => ?_
    have a2 : H2 p = some (.lst [.int z, .int (-z)]) := hid_same _ _ (s2 _ _ (hid_to upd_same (hD1.ne hp)))
    have hv : w = 0 ∨ w = 1 := by omega
    rcases hv with rfl | rfl
    · fold_lay; exact kI _ _ (by omega) hD2 (st.trans s2)
    · fold_lay; exact kI _ _ (by omega) hD2 (st.trans s2)
  fold_lay
  exact c_not_integer hD1 fun v dt H2 a1 a2 a3 hD2 s2 => k _ _ _ (a1.mono (nw_old (alive hD1 s1))) (Dt.inR_of a2 _ _) a3 hD2 (s1.trans s2)
def sp_among (K : PySem.W.Frag) : Sp := fun vs H Q _ => ∃ (d s r : Addr) (xs : List V), vs = [.ref d, .ref r] ∧ Dr d s H ∧ H r = some (.lst xs) ∧ r ≠ s ∧ 0 < xs.length ∧ xs.length ≤ 100000 ∧
  ∀ v H', v ∈ xs → Dr d s H' → Same (hid s H) (hid s H') → Q v H'
theorem c_among {K : PySem.W.Frag} {d s r : Addr} {xs : List V} {H : Hp} {Q : VK} {E : XK} (hD : Dr d s H) (hr : H r = some (.lst xs)) (n : r ≠ s) (h0 : 0 < xs.length) (h1 : xs.length ≤ 100000)
    (h : ∀ v H', v ∈ xs → Dr d s H' → Same (hid s H) (hid s H') → Q v H') : sp_among K [.ref d, .ref r] H Q E := ⟨d, s, r, xs, rfl, hD, hr, n, h0, h1, h⟩
def N_l_among : List Str := ["_law_draws_here", "_law_row"]
def t_l_among (K : PySem.W.Frag) : TS := (tRet (tOp (rIxL K) (tVar 1) (tCall sp_take [] E0 (tCons (tVar 0) (tCons (tCB (rLen K) (tCons (tVar 1) tNil)) tNil)))))
theorem pure_among {K : PySem.W.Frag} {vs : List V} {H : Hp} {Q : VK} {E : XK} (h : sp_among K vs H Q E) : t_l_among K { nx := fun _ H' => Q .non H', rt := Q } (start N_l_among vs) H := by
  obtain ⟨d, s, r, xs, rfl, hD, hr, n, h0, h1, k⟩ := h
  unfold t_l_among
  fold_lay
  refine c_take hD (by omega) fun v H1 v0 v1 hD1 s1 => ?_
  have a1 : H1 r = some (.lst xs) := hid_same _ _ (s1 _ _ (hid_to hr n))
  refine i_amongL (sqL a1) v0 (by omega) (fun w hw => ?_)
  exact k _ _ (List.mem_of_getElem? hw) hD1 s1
def sp_not_alignment : Sp := fun vs H Q _ => ∃ (d s : Addr) (m : Int), vs = [.ref d, .int m] ∧ Dr d s H ∧ 1 ≤ m ∧ m ≤ 1000000000000 ∧
  ∀ v dt H', At (nw H H') v dt → ¬ dt.isAl m → dt.dep ≤ 1 → Dr d s H' → Same (hid s H) (hid s H') → Q v H'
theorem c_not_alignment {d s : Addr} {m : Int} {H : Hp} {Q : VK} {E : XK} (hD : Dr d s H) (h1 : 1 ≤ m) (h2 : m ≤ 1000000000000)
    (h : ∀ v dt H', At (nw H H') v dt → ¬ dt.isAl m → dt.dep ≤ 1 → Dr d s H' → Same (hid s H) (hid s H') → Q v H') : sp_not_alignment [.ref d, .int m] H Q E := ⟨d, s, m, rfl, hD, h1, h2, h⟩
theorem al_int {i m : Int} (h : i < 1 ∨ m < i) : ¬ (Dt.int i).isAl m := fun z => by
  obtain ⟨⟨k, z1⟩, z2⟩ := z
  have := two_pow_pos k
  omega
theorem al_odd {i m : Int} (h : i % 2 = 1) (h1 : i ≠ 1) : ¬ (Dt.int i).isAl m := fun z => by
  obtain ⟨⟨k, z1⟩, z2⟩ := z
  cases k with
  | zero => exact h1 z1
  | succ k =>
    rw [Int.pow_succ] at z1
    omega
theorem al_half {i m : Int} (h : ¬ (Dt.int i).isAl m) (h0 : 1 ≤ i) : ¬ (Dt.int (2 * i)).isAl m := fun z => by
  obtain ⟨⟨k, z1⟩, z2⟩ := z
  cases k with
  | zero => simp at z1; omega
  | succ k =>
    rw [Int.pow_succ] at z1
    exact h ⟨⟨k, by omega⟩, by omega⟩
def N_l_not_alignment : List Str := ["_law_draws_here", "_law_most", "_law_kind"]
def t_l_not_alignment (K : PySem.W.Frag) : TS := (tSeq (tAsg (tCall sp_take [] E0 (tCons (tVar 0) (tCons (tC (.int 8)) tNil))) (gName 2))
  (tSeq (tIfS (tTest (tOp oLt (tVar 2) (tC (.int 6)))) (tRet (tOp (rIxL K) (tLst (tCons (tC (.int 0)) (tCons (tUn oNeg (tC (.int 1))) (tCons (tUn oNeg (tC (.int 2))) (tCons (tC (.int 3)) (tCons (tOp oAdd (tVar 1) (tVar 1)) (tCons (tOp oAdd (tOp oAdd (tVar 1) (tVar 1)) (tC (.int 1))) tNil))))))) (tVar 2))) tNext)
  (tSeq (tIfS (tTest (tOp rEq (tVar 2) (tC (.int 6)))) (tRet (tCall (sp_among K) [] E0 (tCons (tVar 0) (tCons (tLst (tCons (tC (.int 6)) (tCons (tC (.int 12)) (tCons (tOp oPow (tC (.int 10)) (tC (.int 30))) (tCons (tCall sp_long [] E0 tNil) (tCons (tUn oNeg (tVar 1)) (tCons (tOp oMul (tVar 1) (tC (.int 3))) tNil))))))) tNil)))) tNext)
  (tRet (tCall sp_not_integer [] E0 (tCons (tVar 0) tNil))))))
theorem pure_not_alignment {K : PySem.W.Frag} {vs : List V} {H : Hp} {Q : VK} {E : XK} (h : sp_not_alignment vs H Q E) : t_l_not_alignment K { nx := fun _ H' => Q .non H', rt := Q } (start N_l_not_alignment vs) H := by
  obtain ⟨d, s, m, rfl, hD, b1, b2, k⟩ := h
  have kI : ∀ (i : Int) H', ¬ (Dt.int i).isAl m → Dr d s H' → Same (hid s H) (hid s H') → Q (.int i) H' := fun i H' hi' hD' hs' => k _ (.int i) _ (.int i) hi' (Nat.zero_le _) hD' hs'
  unfold t_l_not_alignment
  fold_lay
  refine c_take hD (by omega) fun v H1 v0 v1 hD1 s1 => ?_
  fold_lay; fold_depth
  refine i_ifd (fun h2 => ?_) (fun h2 => ?_)
  · fold_lay
    rename_i p hp
    have st : Same (hid s H) (hid s (upd H1 p (.lst [.int 0, .int (-1), .int (-2), .int 3, .int (m + m), .int (m + m + 1)]))) := s1.trans (hid_mono (same_new hp))
    have dt := hD1.same (same_new (o := .lst [.int 0, .int (-1), .int (-2), .int 3, .int (m + m), .int (m + m + 1)]) hp)
    have hv : v = 0 ∨ v = 1 ∨ v = 2 ∨ v = 3 ∨ v = 4 ∨ v = 5 := by omega
    rcases hv with rfl | rfl | rfl | rfl | rfl | rfl
    · fold_lay; exact kI _ _ (al_int (by omega)) dt st
    · fold_lay; exact kI _ _ (al_int (by omega)) dt st
    · fold_lay; exact kI _ _ (al_int (by omega)) dt st
    · fold_lay; exact kI _ _ (al_odd (by decide) (by decide)) dt st
    · fold_lay; exact kI _ _ (al_int (by omega)) dt st
    · fold_lay; exact kI _ _ (al_int (by omega)) dt st
  fold_lay; fold_depth
  refine i_ifd (fun h3 => ?_) (fun h3 => ?_)
  · fold_lay
    refine ⟨rfl, ?_⟩
    fold_lay
    rename_i p hp
    have hb := lng_big
    generalize lng = z at hb
    rw [ten30]
    have st : Same (hid s H) (hid s (upd H1 p (.lst [.int 6, .int 12, .int 1000000000000000000000000000000, .int z, .int (-m), .int (m * 3)]))) := s1.trans (hid_mono (same_new hp))
    have dt := hD1.same (same_new (o := .lst [.int 6, .int 12, .int 1000000000000000000000000000000, .int z, .int (-m), .int (m * 3)]) hp)
    refine c_among dt upd_same (hD1.ne hp) (by simp) (by simp) fun w H2 hw hD2 s2 => ?_
    have a3 : ¬ (Dt.int 3).isAl m := al_odd (by decide) (by decide)
    simp only [List.mem_cons, List.not_mem_nil, or_false] at hw
    rcases hw with rfl | rfl | rfl | rfl | rfl | rfl
    · exact kI _ _ (al_half a3 (by decide)) hD2 (st.trans s2)
    · exact kI _ _ (al_half (al_half a3 (by decide)) (by decide)) hD2 (st.trans s2)
    · exact kI _ _ (al_int (by omega)) hD2 (st.trans s2)
    · exact kI _ _ (al_int (by omega)) hD2 (st.trans s2)
    · exact kI _ _ (al_int (by omega)) hD2 (st.trans s2)
    · exact kI _ _ (al_int (by omega)) hD2 (st.trans s2)
  fold_lay
  exact c_not_integer hD1 fun v dt H2 a1 a2 a3 hD2 s2 => k _ _ _ (a1.mono (nw_old (alive hD1 s1))) (Dt.isAl_of a2 _) a3 hD2 (s1.trans s2)
def sp_draws (K : PySem.W.Frag) : Sp := fun vs H Q _ => ∃ (a : Addr) (ns : List Int), vs = [.ref a] ∧ SqL K H a (ns.map V.int) ∧ ns.length ≤ 10000 ∧
  ∀ d s H', Dr d s H' → Same H H' → H d = none → H s = none → Q (.ref d) H'
def N_l_draws : List Str := ["_law_script", "_law_cell"]
def t_l_draws (K : PySem.W.Frag) : TS := (tRet (tLst (tCons (tLc (iList K (tVar 0)) (gName 1) tYes (tCB rInt1 (tCons (tVar 1) tNil)) [1]) (tCons (tLst (tCons (tC (.int 0)) (tCons (tC (.int 0)) (tCons (tC (.int 0)) (tCons (tC (.int 0)) (tCons (tC (.int 11)) tNil)))))) tNil))))
theorem pure_draws {K : PySem.W.Frag} {vs : List V} {H : Hp} {Q : VK} {E : XK} (h : sp_draws K vs H Q E) : t_l_draws K { nx := fun _ H' => Q .non H', rt := Q } (start N_l_draws vs) H := by
  obtain ⟨a, ns, rfl, ha, hl, k⟩ := h
  unfold t_l_draws
  fold_lay
  refine c_lst ha (m_lst (xs := ns.map V.int) (fun D i H' => Same H H' ∧ H D = none ∧ H' D = some (.lst ((ns.take i).map V.int))) ?_ ?_ ?_ ?_)
  · exact fun D hD => ⟨same_new hD, hD, upd_same⟩
  · exact fun D i H' _ h => h.1.seq ha
  · rintro D i x H' hx ⟨h1, h2, h3⟩
    obtain ⟨z, hz, rfl⟩ := getI hx
    fold_lay
    refine ⟨rfl, ?_⟩
    fold_lay
    refine ⟨_, h3, szl (by simp; omega), ?_, h2, ?_⟩
    · exact fun b o e => upd_off (ne_of_none e h2) (h1 b o e)
    · rw [upd_same, take_more hz, List.map_append]
      rfl
  · rintro D H' ⟨h1, h2, h3⟩
    rw [List.length_map, List.take_length] at h3
    fold_lay
    rename_i p hp q hq
    have nD : D ≠ p := ne_of_none h3 hp
    have np : p ≠ q := fun z => by
      rw [← z, upd_same] at hq
      cases hq
    refine k q p _ ⟨D, ns, 0, 0, 0, 0, 11, upd_same, by kct_strs, by kct_strs, Ne.symm np, nD, by omega, by omega, by omega⟩ ?_ ?_ ?_
    · exact (h1.trans (same_new hp)).trans (same_new hq)
    · exact (h1.trans (same_new hp)).free hq
    · exact h1.free hp
/-! ## Basics -/
/-! ### basics.py -/
/-- where the classes of the refusals stand -/
structure Cl where
  (k_StoreError k_BadValue k_Broken k_Unknown k_NotHeld k_Fault k_NoRoom k_Cut k_BadLine : Addr)
def vI : V → Bool
  | .int _ => true
  | _ => false
def vR (lo hi : Int) : V → Bool
  | .int i => decide (lo ≤ i) && decide (i ≤ hi)
  | _ => false
def sp_is_whole (K : PySem.W.Frag) : Sp := fun vs H Q _ => ∃ (v : V) (n : String), vs = [v] ∧ Ty0 H v n ∧ Q (.bl (vI v)) H
theorem c_is_whole {K : PySem.W.Frag} {v : V} {n : String} {H : Hp} {Q : VK} {E : XK} (h : Ty0 H v n) (q : Q (.bl (vI v)) H) : sp_is_whole K [v] H Q E := ⟨v, n, rfl, h, q⟩
def N_p_is_whole : List Str := ["value"]
def t_p_is_whole (K : PySem.W.Frag) : TS := (tRet (tAndV (tCB (rIsi K) (tCons (tVar 0) (tCons (tC (.ty "int")) tNil))) (tNotV (tCB (rIsi K) (tCons (tVar 0) (tCons (tC (.ty "bool")) tNil))))))
theorem pure_is_whole {K : PySem.W.Frag} {vs : List V} {H : Hp} {Q : VK} {E : XK} (h : sp_is_whole K vs H Q E) : t_p_is_whole K { nx := fun _ H' => Q .non H', rt := Q } (start N_p_is_whole vs) H := by
  obtain ⟨v, n, rfl, ht, q⟩ := h
  unfold t_p_is_whole
  fold_lay
  cases id ht with
  | int i =>
    refine i_isi ht (b := true) (by decide +kernel) ?_
    fold_lay
    refine i_isi ht (b := false) (by decide +kernel) ?_
    fold_lay
    exact q
  | bl b =>
    refine i_isi ht (b := true) (by decide +kernel) ?_
    fold_lay
    refine i_isi ht (b := true) (by decide +kernel) ?_
    fold_lay
    exact q
  | non => refine i_isi ht (b := false) (by decide +kernel) ?_; fold_lay; exact q
  | str x => refine i_isi ht (b := false) (by decide +kernel) ?_; fold_lay; exact q
  | lst h => refine i_isi ht (b := false) (by decide +kernel) ?_; fold_lay; exact q
  | tup h => refine i_isi ht (b := false) (by decide +kernel) ?_; fold_lay; exact q
  | dic h => refine i_isi ht (b := false) (by decide +kernel) ?_; fold_lay; exact q
def sp_whole_between (K : PySem.W.Frag) : Sp := fun vs H Q _ => ∃ (v : V) (n : String) (lo hi : Int), vs = [v, .int lo, .int hi] ∧ Ty0 H v n ∧ Q (.bl (vR lo hi v)) H
theorem c_whole_between {K : PySem.W.Frag} {v : V} {n : String} {lo hi : Int} {H : Hp} {Q : VK} {E : XK} (h : Ty0 H v n) (q : Q (.bl (vR lo hi v)) H) : sp_whole_between K [v, .int lo, .int hi] H Q E := ⟨v, n, lo, hi, rfl, h, q⟩
theorem vI_int {v : V} (h : vI v = true) : ∃ i, v = .int i := by
  cases v <;> first | exact ⟨_, rfl⟩ | cases h
theorem vR_no {v : V} {lo hi : Int} (h : vI v = false) : vR lo hi v = false := by
  cases v <;> first | rfl | cases h
def N_p_whole_between : List Str := ["value", "low", "high"]
def t_p_whole_between (K : PySem.W.Frag) : TS := (tRet (tAndV (tCall (sp_is_whole K) [] E0 (tCons (tVar 0) tNil)) (tChain oLe oLe (tVar 1) (tVar 0) (tVar 2))))
theorem pure_whole_between {K : PySem.W.Frag} {vs : List V} {H : Hp} {Q : VK} {E : XK} (h : sp_whole_between K vs H Q E) : t_p_whole_between K { nx := fun _ H' => Q .non H', rt := Q } (start N_p_whole_between vs) H := by
  obtain ⟨v, n, lo, hi, rfl, ht, q⟩ := h
  unfold t_p_whole_between
  fold_lay
  refine c_is_whole ht ?_
  fold_lay
  refine i_ifb (fun h => ?_) (fun h => ?_)
  · obtain ⟨i, rfl⟩ := vI_int h
    fold_lay
    refine i_ifd (fun h1 => ?_) (fun h1 => ?_)
    · fold_lay
      simpa [vR, h1] using q
    · simpa [vR, h1] using q
  · rw [vR_no h] at q
    exact q
def vP : V → Bool
  | .int i => decide (1 ≤ i) && decide (Builtin.bitAnd i (i - 1) = 0)
  | _ => false
theorem vP_no {v : V} (h : vI v = false) : vP v = false := by
  cases v <;> first | rfl | cases h
theorem pow_iff {i : Int} : (1 ≤ i ∧ Builtin.bitAnd i (i - 1) = 0) ↔ ∃ k : Nat, i = 2 ^ k := by
  constructor
  · rintro ⟨h1, h2⟩
    have e1 : i = (i.toNat : Int) := by omega
    have e2 : (i - 1).toNat = i.toNat - 1 := by omega
    rw [bitAnd_pp (by omega) (by omega), e2] at h2
    have h3 : i.toNat &&& (i.toNat - 1) = 0 := by exact_mod_cast h2
    obtain ⟨k, hk⟩ := (Nat.and_sub_one_eq_zero_iff_isPowerOfTwo (by omega)).mp h3
    refine ⟨k, ?_⟩
    rw [e1, hk]
    exact Int.natCast_pow 2 k
  · rintro ⟨k, rfl⟩
    have hp := two_pow_pos k
    refine ⟨by omega, ?_⟩
    have e0 : ((2 : Int) ^ k).toNat = 2 ^ k := by
      have : (2 : Int) ^ k = ((2 ^ k : Nat) : Int) := (Int.natCast_pow 2 k).symm
      rw [this]
      rfl
    have e2 : ((2 : Int) ^ k - 1).toNat = 2 ^ k - 1 := by omega
    rw [bitAnd_pp (by omega) (by omega), e2, e0, (Nat.and_sub_one_eq_zero_iff_isPowerOfTwo (by have := Nat.two_pow_pos k; omega)).mpr ⟨k, rfl⟩]
    rfl
theorem vP_iff {i : Int} : vP (.int i) = true ↔ ∃ k : Nat, i = 2 ^ k := by
  rw [← pow_iff]
  simp [vP]
def sp_is_power (K : PySem.W.Frag) : Sp := fun vs H Q _ => ∃ (v : V) (n : String), vs = [v] ∧ Ty0 H v n ∧ Q (.bl (vP v)) H
theorem c_is_power {K : PySem.W.Frag} {v : V} {n : String} {H : Hp} {Q : VK} {E : XK} (h : Ty0 H v n) (q : Q (.bl (vP v)) H) : sp_is_power K [v] H Q E := ⟨v, n, rfl, h, q⟩
def N_p_is_power : List Str := ["value"]
def t_p_is_power (K : PySem.W.Frag) : TS := (tRet (tAndV (tCall (sp_is_whole K) [] E0 (tCons (tVar 0) tNil)) (tAndV (tOp oGe (tVar 0) (tC (.int 1))) (tOp rEq (tOp oAnd (tVar 0) (tOp oSub (tVar 0) (tC (.int 1)))) (tC (.int 0))))))
theorem pure_is_power {K : PySem.W.Frag} {vs : List V} {H : Hp} {Q : VK} {E : XK} (h : sp_is_power K vs H Q E) : t_p_is_power K { nx := fun _ H' => Q .non H', rt := Q } (start N_p_is_power vs) H := by
  obtain ⟨v, n, rfl, ht, q⟩ := h
  unfold t_p_is_power
  fold_lay
  refine c_is_whole ht ?_
  fold_lay
  refine i_ifb (fun h => ?_) (fun h => ?_)
  · obtain ⟨i, rfl⟩ := vI_int h
    fold_lay
    refine i_ifd (fun h1 => ?_) (fun h1 => ?_)
    · fold_lay
      simpa [vP, h1] using q
    · simpa [vP, h1] using q
  · rw [vP_no h] at q
    exact q
def vA (m : Int) : V → Bool
  | .int i => vP (.int i) && decide (i ≤ m)
  | _ => false
theorem vA_iff {i m : Int} : vA m (.int i) = true ↔ (Dt.int i).isAl m := by
  show (vP (.int i) && decide (i ≤ m)) = true ↔ _
  rw [Bool.and_eq_true, vP_iff, decide_eq_true_iff]
  rfl
def sp_is_align (K : PySem.W.Frag) : Sp := fun vs H Q _ => ∃ (v : V) (n : String) (m : Int), vs = [v, .int m] ∧ Ty0 H v n ∧ Q (.bl (vA m v)) H
theorem c_is_align {K : PySem.W.Frag} {v : V} {n : String} {m : Int} {H : Hp} {Q : VK} {E : XK} (h : Ty0 H v n) (q : Q (.bl (vA m v)) H) : sp_is_align K [v, .int m] H Q E := ⟨v, n, m, rfl, h, q⟩
theorem vP_int {v : V} (h : vP v = true) : ∃ i, v = .int i := by
  cases v <;> first | exact ⟨_, rfl⟩ | cases h
theorem vA_no {v : V} {m : Int} (h : vP v = false) : vA m v = false := by
  cases v <;> first | rfl | (show (vP _ && _) = false; rw [h]; rfl)
def N_p_is_align : List Str := ["value", "most"]
def t_p_is_align (K : PySem.W.Frag) : TS := (tRet (tAndV (tCall (sp_is_power K) [] E0 (tCons (tVar 0) tNil)) (tOp oLe (tVar 0) (tVar 1))))
theorem pure_is_align {K : PySem.W.Frag} {vs : List V} {H : Hp} {Q : VK} {E : XK} (h : sp_is_align K vs H Q E) : t_p_is_align K { nx := fun _ H' => Q .non H', rt := Q } (start N_p_is_align vs) H := by
  obtain ⟨v, n, m, rfl, ht, q⟩ := h
  unfold t_p_is_align
  fold_lay
  refine c_is_power ht ?_
  fold_lay
  refine i_ifb (fun h => ?_) (fun h => ?_)
  · obtain ⟨i, rfl⟩ := vP_int h
    fold_lay
    simpa [vA, h] using q
  · rw [vA_no h] at q
    exact q
/-! ### a refusal: its class, its fields -/
structure BvC (K : PySem.W.Frag) (C : Addr) : Prop where
  ox : OexC K C
  np : PySem.W.findIn K (.ref C) "parameter" = some none
  nt : PySem.W.findIn K (.ref C) "told" = some none
/-- a refusal's dict at d: BadValue(p) -/
def BadAt (H : Hp) (d : Addr) (v : V) : Prop := ∃ t1 t2, H d = some (.xd [("told", .ref t2), ("parameter", v)]) ∧ H t2 = some (.tup [.str "BadValue", .ref t1]) ∧ H t1 = some (.tup [v])
def sp_init_BadValue (K : PySem.W.Frag) (C : Addr) : Sp := fun vs H Q _ => ∃ (e : Addr) (v : V), vs = [.ref e, v] ∧ H e = some (exo e C none) ∧ BvC K C ∧
  ∀ (d t1 t2 : Addr) H', H' e = some (exo e C (some d)) → H' d = some (exd d [("told", .ref t2), ("parameter", v)]) → H' t1 = some (.tup [v]) → H' t2 = some (.tup [.str "BadValue", .ref t1]) → H d = none → (∀ b o, b ≠ e → H b = some o → H' b = some o) → Q .non H'
def N_c_BadValue_init : List Str := ["self", "parameter"]
def t_c_BadValue_init (K : PySem.W.Frag) : TS := (tSeq (tOst K "parameter" (tVar 0) (tVar 1))
  (tOst K "told" (tVar 0) (tTup (tCons (tC (.str "BadValue")) (tCons (tTup (tCons (tVar 1) tNil)) tNil)))))
theorem pure_init_BadValue {K : PySem.W.Frag} {C : Addr} {vs : List V} {H : Hp} {Q : VK} {E : XK} (h : sp_init_BadValue K C vs H Q E) : t_c_BadValue_init K { nx := fun _ H' => Q .non H', rt := Q } (start N_c_BadValue_init vs) H := by
  obtain ⟨e, v, rfl, he, hC, k⟩ := h
  unfold t_c_BadValue_init
  refine i_seq ?_
  refine ⟨v, rfl, .ref e, rfl, e, C, rfl, hC.ox, hC.np, .inl ⟨he, fun d hd ne => ?_⟩⟩
  have h1 : upd (upd H d (exd d [("parameter", v)])) e (exo e C (some d)) d = some (exd d [("parameter", v)]) := by rw [upd_ne ne, upd_same]
  refine ⟨v, rfl, sz (by simp), fun t1 ht1 => ?_⟩
  refine ⟨sz (by simp), fun t2 ht2 => ?_⟩
  have n1 : d ≠ t1 := ne_of_none h1 ht1
  have n3 : e ≠ t1 := ne_of_none upd_same ht1
  have ht2' := ht2
  have nt : t2 ≠ t1 := fun z => by rw [z, upd_same] at ht2'; cases ht2'
  have n2 : d ≠ t2 := ne_of_none (upd_off n1 h1) ht2
  have n4 : e ≠ t2 := ne_of_none (upd_off n3 upd_same) ht2
  refine ⟨.ref e, rfl, e, C, rfl, hC.ox, hC.nt, .inr ⟨d, [("parameter", v)], ?_, ?_, by show 1 ≤ 900; decide, ?_⟩⟩
  · exact upd_off n4 (upd_off n3 upd_same)
  · exact upd_off n2 (upd_off n1 h1)
  · refine k d t1 t2 _ ?_ upd_same ?_ ?_ hd ?_
    · exact upd_off (Ne.symm ne) (upd_off n4 (upd_off n3 upd_same))
    · exact upd_off (Ne.symm n1) (upd_off (Ne.symm nt) upd_same)
    · exact upd_off (Ne.symm n2) upd_same
    · intro b o nb hb
      have nd : b ≠ d := ne_of_none hb hd
      have h2 : upd (upd H d (exd d [("parameter", v)])) e (exo e C (some d)) b = some o := upd_off nb (upd_off nd hb)
      have n5 : b ≠ t1 := ne_of_none h2 ht1
      have h3 := upd_off (o := .tup [v]) n5 h2
      exact upd_off nd (upd_off (ne_of_none h3 ht2) h3)
/-- raise BadValue(e): what is asked of e's value -/
def RzB (K : PySem.W.Frag) (C : Addr) (W : WX) (σ : St) (v : V) (H1 : Hp) : Prop := [v].length ≤ 1000 ∧ ∀ a, H1 a = none → sp_init_BadValue K C (.ref a :: ([v] ++ [])) (upd H1 a (exo a C none))
  (fun u H2 => u = .non ∧ ∃ (d : Addr) (fs : List (Str × V)), H2 a = some (exo a C (some d)) ∧ H2 d = some (exd d fs) ∧ H1 d = none ∧ W (.ref C) (some d) σ (upd (del H2 a) d (.xd fs))) (fun _ _ _ => False)
theorem i_rz {K : PySem.W.Frag} {C : Addr} {te : TE} {W : WX} {D : Ends} {σ : St} {H : Hp} (h : te σ H fun v H1 => RzB K C W σ v H1) : tRz (tMkO C (sp_init_BadValue K C) [] (tCons te tNil)) W D σ H := h
instance s_rz {K : PySem.W.Frag} {C : Addr} {te : TE} {W : WX} {D : Ends} {σ : St} {H : Hp} : Stp (tRz (tMkO C (sp_init_BadValue K C) [] (tCons te tNil)) W D σ H) (te σ H fun v H1 => RzB K C W σ v H1) := ⟨i_rz⟩
theorem c_bad {K : PySem.W.Frag} {C : Addr} {W : WX} {σ : St} {v : V} {H1 : Hp} (hC : BvC K C) (h : ∀ d H', BadAt H' d v → Same H1 H' → W (.ref C) (some d) σ H') : RzB K C W σ v H1 := by
  refine ⟨by show 1 ≤ 1000; decide, fun a ha => ⟨a, v, rfl, upd_same, hC, fun d t1 t2 H2 h1 h2 h3 h4 h5 h6 => ⟨rfl, d, _, h1, h2, ?_, ?_⟩⟩⟩
  · by_cases e : d = a
    · rw [e, upd_same] at h5
      cases h5
    · rw [upd_ne e] at h5
      exact h5
  · have nda : d ≠ a := fun e => by
      rw [e, upd_same] at h5
      cases h5
    have hd1 : H1 d = none := by
      rw [upd_ne nda] at h5
      exact h5
    have n1 : t1 ≠ d := fun e => by
      rw [e, h2] at h3
      cases h3
    have n2 : t2 ≠ d := fun e => by
      rw [e, h2] at h4
      cases h4
    have m1 : t1 ≠ a := fun e => by
      rw [e, h1] at h3
      cases h3
    have m2 : t2 ≠ a := fun e => by
      rw [e, h1] at h4
      cases h4
    refine h d _ ⟨t1, t2, upd_same, ?_, ?_⟩ (fun b o hb => ?_)
    · rw [upd_ne n2, del_ne m2]
      exact h4
    · rw [upd_ne n1, del_ne m1]
      exact h3
    · have nb : b ≠ a := ne_of_none hb ha
      rw [upd_ne (ne_of_none hb hd1), del_ne nb]
      exact h6 b o nb (upd_off nb hb)
def sp_align_up : Sp := fun vs H Q _ => ∃ (n m : Int), vs = [.int n, .int m] ∧ 0 ≤ n ∧ n ≤ 1000000000 ∧ (∃ k : Nat, m = 2 ^ k) ∧ m ≤ 1073741824 ∧ Q (.int ((n + m - 1) / m * m)) H
theorem c_align_up {n m : Int} {H : Hp} {Q : VK} {E : XK} (h0 : 0 ≤ n) (h1 : n ≤ 1000000000) (h2 : ∃ k : Nat, m = 2 ^ k) (h3 : m ≤ 1073741824) (q : Q (.int ((n + m - 1) / m * m)) H) : sp_align_up [.int n, .int m] H Q E := ⟨n, m, rfl, h0, h1, h2, h3, q⟩
theorem vR_yes {lo hi i : Int} (h1 : lo ≤ i) (h2 : i ≤ hi) : vR lo hi (.int i) = true := by simp [vR, h1, h2]
theorem vA_yes {m i : Int} (h1 : ∃ k : Nat, i = 2 ^ k) (h2 : i ≤ m) : vA m (.int i) = true := vA_iff.mpr ⟨h1, h2⟩
def N_p_align_up : List Str := ["number", "align"]
def t_p_align_up (K : PySem.W.Frag) : TS := (tSeq (tIfS (tNot (tB (tCall (sp_whole_between K) [] E0 (tCons (tVar 0) (tCons (tC (.int 0)) (tCons (tC (.int 1000000000)) tNil)))))) tNever tNext)
  (tSeq (tIfS (tNot (tB (tCall (sp_is_align K) [] E0 (tCons (tVar 1) (tCons (tC (.int 1073741824)) tNil))))) tNever tNext)
  (tRet (tOp oMul (tOp oDiv (tOp oSub (tOp oAdd (tVar 0) (tVar 1)) (tC (.int 1))) (tVar 1)) (tVar 1)))))
theorem pure_align_up {K : PySem.W.Frag} {vs : List V} {H : Hp} {Q : VK} {E : XK} (h : sp_align_up vs H Q E) : t_p_align_up K { nx := fun _ H' => Q .non H', rt := Q } (start N_p_align_up vs) H := by
  obtain ⟨n, m, rfl, h0, h1, h2, h3, q⟩ := h
  unfold t_p_align_up
  fold_depth
  refine c_whole_between (.int _) ?_
  rw [vR_yes h0 h1]
  fold_lay; fold_depth
  refine c_is_align (.int _) ?_
  rw [vA_yes h2 h3]
  fold_lay
  obtain ⟨k, hk⟩ := h2
  have hp := two_pow_pos k
  refine i_div (cdiv (by omega) (by omega)) ?_
  fold_lay
  exact q
/-! ### marks.py -/
def sp_check_number (K : PySem.W.Frag) (c : Cl) : Sp := fun vs H Q E => ∃ (v : V) (n : String) (lo hi : Int) (p : Str), vs = [v, .int lo, .int hi, .str p] ∧ Ty0 H v n ∧ BvC K c.k_BadValue ∧
  (vR lo hi v = true → Q .non H) ∧ (vR lo hi v = false → ∀ d H', BadAt H' d (.str p) → Same H H' → E (.ref c.k_BadValue) (some d) H')
theorem c_check_number {K : PySem.W.Frag} {c : Cl} {v : V} {n : String} {lo hi : Int} {p : Str} {H : Hp} {Q : VK} {E : XK} (h : Ty0 H v n) (hC : BvC K c.k_BadValue) (h1 : vR lo hi v = true → Q .non H) (h2 : vR lo hi v = false → ∀ d H', BadAt H' d (.str p) → Same H H' → E (.ref c.k_BadValue) (some d) H') :
    sp_check_number K c [v, .int lo, .int hi, .str p] H Q E := ⟨v, n, lo, hi, p, rfl, h, hC, h1, h2⟩
def N_p_check_number : List Str := ["value", "low", "high", "parameter"]
def t_p_check_number (K : PySem.W.Frag) (c : Cl) (E : XK) : TS := (tIfS (tOr (tNot (tB (tCall (sp_is_whole K) [] E0 (tCons (tVar 0) tNil)))) (tOr (tTest (tOp oLt (tVar 0) (tVar 1))) (tTest (tOp oGt (tVar 0) (tVar 2))))) (tRz (tMkO c.k_BadValue (sp_init_BadValue K c.k_BadValue) [] (tCons (tVar 3) tNil)) (fun cls d _ H => E cls d H)) tNext)
theorem pure_check_number {K : PySem.W.Frag} {c : Cl} {vs : List V} {H : Hp} {Q : VK} {E : XK} (h : sp_check_number K c vs H Q E) : t_p_check_number K c E { nx := fun _ H' => Q .non H', rt := Q } (start N_p_check_number vs) H := by
  obtain ⟨v, n, lo, hi, p, rfl, ht, hC, k1, k2⟩ := h
  unfold t_p_check_number
  fold_lay
  refine c_is_whole ht ?_
  fold_lay
  refine i_ifb (fun h => ?_) (fun h => ?_)
  · have h : vI v = false := by simpa using h
    fold_lay
    exact c_bad hC (k2 (vR_no h))
  · have h : vI v = true := by simpa using h
    obtain ⟨i, rfl⟩ := vI_int h
    fold_lay
    refine i_ifd (fun h1 => ?_) (fun h1 => ?_)
    · fold_lay
      exact c_bad hC (k2 (by simp [vR]; omega))
    · fold_lay
      refine i_ifd (fun h2 => ?_) (fun h2 => ?_)
      · fold_lay
        exact c_bad hC (k2 (by simp [vR]; omega))
      · fold_lay
        exact k1 (vR_yes (by omega) (by omega))
def sp_check_align (K : PySem.W.Frag) (c : Cl) : Sp := fun vs H Q E => ∃ (v : V) (n : String), vs = [v] ∧ Ty0 H v n ∧ BvC K c.k_BadValue ∧
  (vA 4096 v = true → Q .non H) ∧ (vA 4096 v = false → ∀ d H', BadAt H' d (.str "align") → Same H H' → E (.ref c.k_BadValue) (some d) H')
theorem c_check_align {K : PySem.W.Frag} {c : Cl} {v : V} {n : String} {H : Hp} {Q : VK} {E : XK} (h : Ty0 H v n) (hC : BvC K c.k_BadValue) (h1 : vA 4096 v = true → Q .non H) (h2 : vA 4096 v = false → ∀ d H', BadAt H' d (.str "align") → Same H H' → E (.ref c.k_BadValue) (some d) H') :
    sp_check_align K c [v] H Q E := ⟨v, n, rfl, h, hC, h1, h2⟩
def N_p_check_align : List Str := ["value"]
def t_p_check_align (K : PySem.W.Frag) (c : Cl) (E : XK) : TS := (tIfS (tOr (tNot (tB (tCall (sp_is_power K) [] E0 (tCons (tVar 0) tNil)))) (tTest (tOp oGt (tVar 0) (tC (.int 4096))))) (tRz (tMkO c.k_BadValue (sp_init_BadValue K c.k_BadValue) [] (tCons (tC (.str "align")) tNil)) (fun cls d _ H => E cls d H)) tNext)
theorem pure_check_align {K : PySem.W.Frag} {c : Cl} {vs : List V} {H : Hp} {Q : VK} {E : XK} (h : sp_check_align K c vs H Q E) : t_p_check_align K c E { nx := fun _ H' => Q .non H', rt := Q } (start N_p_check_align vs) H := by
  obtain ⟨v, n, rfl, ht, hC, k1, k2⟩ := h
  unfold t_p_check_align
  fold_lay
  refine c_is_power ht ?_
  fold_lay
  refine i_ifb (fun h => ?_) (fun h => ?_)
  · have h : vP v = false := by simpa using h
    fold_lay
    exact c_bad hC (k2 (vA_no h))
  · have h : vP v = true := by simpa using h
    obtain ⟨i, rfl⟩ := vP_int h
    fold_lay
    refine i_ifd (fun h1 => ?_) (fun h1 => ?_)
    · fold_lay
      refine c_bad hC (k2 ?_)
      show (vP (.int i) && decide (i ≤ 4096)) = false
      rw [decide_eq_false (by omega), Bool.and_false]
    · fold_lay
      refine k1 ?_
      show (vP (.int i) && decide (i ≤ 4096)) = true
      rw [decide_eq_true (by omega), h]
      rfl
/-! ## Alike -/
/-! ### alike: two data that are one -/
mutual
def Dt.flat : Dt → Bool
  | .lst l => decide (l.length ≤ 10000) && Dt.flatL l
  | .tup l => decide (l.length ≤ 10000) && Dt.flatL l
  | .dic _ => false
  | _ => true
def Dt.flatL : List Dt → Bool
  | [] => true
  | d :: r => d.flat && Dt.flatL r
end
theorem flatL_get : ∀ {l : List Dt} {i : Nat} {d : Dt}, Dt.flatL l = true → l[i]? = some d → d.flat = true
  | [], _, _, _, h => by simp at h
  | x :: r, 0, d, h, e => by
    simp at e
    subst e
    exact (Bool.and_eq_true_iff.mp (by simpa [Dt.flatL] using h)).1
  | x :: r, i + 1, d, h, e => flatL_get (l := r) (i := i) (Bool.and_eq_true_iff.mp (by simpa [Dt.flatL] using h)).2 (by simpa using e)
theorem depL_get : ∀ {l : List Dt} {i : Nat} {d : Dt}, l[i]? = some d → d.dep ≤ Dt.depL l
  | [], _, _, h => by simp at h
  | x :: r, 0, d, e => by
    simp at e
    subst e
    simp only [Dt.depL]
    omega
  | x :: r, i + 1, d, e => by
    have := depL_get (l := r) (i := i) (d := d) (by simpa using e)
    simp only [Dt.depL]
    omega
def sp_alike : Nat → Sp
  | 0 => fun _ _ _ _ => False
  | n + 1 => fun vs H Q _ => ∃ (va vb : V) (d : Dt), vs = [va, vb] ∧ At H va d ∧ At H vb d ∧ d.dep ≤ n ∧ d.flat = true ∧ ∀ H', Same H H' → Q (.bl true) H'
theorem c_alike {n : Nat} {va vb : V} {d : Dt} {H : Hp} {Q : VK} {E : XK} (h1 : At H va d) (h2 : At H vb d) (h3 : d.dep ≤ n) (h4 : d.flat = true) (h : ∀ H', Same H H' → Q (.bl true) H') : sp_alike (n + 1) [va, vb] H Q E := ⟨va, vb, d, rfl, h1, h2, h3, h4, h⟩
theorem i_neB {a b : Bool} {H : Hp} {Q : VK} (q : Q (.bl (a != b)) H) : rNe (.bl a) (.bl b) H Q := ⟨rfl, by
  have e : (!decide (V.bl a = V.bl b)) = (a != b) := by cases a <;> cases b <;> rfl
  rw [e]
  exact q⟩
instance s_neB {a b : Bool} {H : Hp} {Q : VK} : Stp (rNe (.bl a) (.bl b) H Q) (Q (.bl (a != b)) H) := ⟨i_neB⟩
theorem i_eqB {a b : Bool} {H : Hp} {Q : VK} (q : Q (.bl (a == b)) H) : rEq (.bl a) (.bl b) H Q := ⟨rfl, by
  have e : decide (V.bl a = V.bl b) = (a == b) := by cases a <;> cases b <;> rfl
  rw [e]
  exact q⟩
instance s_eqB {a b : Bool} {H : Hp} {Q : VK} : Stp (rEq (.bl a) (.bl b) H Q) (Q (.bl (a == b)) H) := ⟨i_eqB⟩
theorem i_ixSL {K : PySem.W.Frag} {H : Hp} {Q : VK} {p : Addr} {xs : List V} {i : Int} {v : V} (h : SqL K H p xs) (e : atI xs i = some v) (q : Q v H) : rIx K (.ref p) (.int i) H Q := .inl (i_ixL h e q)
theorem i_ixST {K : PySem.W.Frag} {H : Hp} {Q : VK} {p : Addr} {xs : List V} {i : Int} {v : V} (h : SqT K H p xs) (e : atI xs i = some v) (q : Q v H) : rIx K (.ref p) (.int i) H Q := .inr (.inl (i_ixT h e q))
theorem i_all {K : PySem.W.Frag} {H : Hp} {Q : VK} {a : Addr} {m : Nat} (h : H a = some (.lst (List.replicate m (.bl true)))) (q : Q (.bl true) H) : rAll K [.ref a] H Q := by
  refine ⟨a, List.replicate m true, rfl, sqL (by rw [List.map_replicate]; exact h), ?_⟩
  rw [List.all_replicate]
  cases m <;> exact q
theorem nz {x : V} (h : x ≠ .non) : ¬ (x = .non) := h
def N_l_alike : List Str := ["_law_actual", "_law_due_here", "_law_k"]
def t_l_alike (K : PySem.W.Frag) (n : Nat) : TS := (tSeq (tIfS (tOr (tTest (tOp oIsN (tVar 1) (tC .non))) (tTest (tOp oIsN (tVar 0) (tC .non)))) (tRet (tAndV (tOp oIsN (tVar 1) (tC .non)) (tOp oIsN (tVar 0) (tC .non)))) tNext)
  (tSeq (tIfS (tOr (tB (tCB (rIsi K) (tCons (tVar 1) (tCons (tC (.ty "list")) tNil)))) (tB (tCB (rIsi K) (tCons (tVar 1) (tCons (tC (.ty "tuple")) tNil))))) (tSeq (tIfS (tOr (tTest (tOp rNe (tCB (rIsi K) (tCons (tVar 0) (tCons (tC (.ty "list")) tNil))) (tCB (rIsi K) (tCons (tVar 1) (tCons (tC (.ty "list")) tNil))))) (tTest (tOp rNe (tCB (rIsi K) (tCons (tVar 0) (tCons (tC (.ty "tuple")) tNil))) (tCB (rIsi K) (tCons (tVar 1) (tCons (tC (.ty "tuple")) tNil)))))) (tRet (tC (.bl false))) tNext)
  (tRet (tAndV (tOp rEq (tCB (rLen K) (tCons (tVar 0) tNil)) (tCB (rLen K) (tCons (tVar 1) tNil))) (tCB (rAll K) (tCons (tLc (iRng1 (tCons (tCB (rLen K) (tCons (tVar 1) tNil)) tNil)) (gName 2) tYes (tCall (sp_alike n) [] E0 (tCons (tOp (rIx K) (tVar 0) (tVar 2)) (tCons (tOp (rIx K) (tVar 1) (tVar 2)) tNil))) [2]) tNil))))) tNext)
  (tSeq (tIfS (tTest (tOp rNe (tCB (rIsi K) (tCons (tVar 1) (tCons (tC (.ty "bool")) tNil))) (tCB (rIsi K) (tCons (tVar 0) (tCons (tC (.ty "bool")) tNil))))) (tRet (tC (.bl false))) tNext)
  (tSeq (tIfS (tB (tCB (rIsi K) (tCons (tVar 1) (tCons (tC (.ty "int")) tNil)))) (tRet (tAndV (tCB (rIsi K) (tCons (tVar 0) (tCons (tC (.ty "int")) tNil))) (tOp rEq (tVar 0) (tVar 1)))) tNext)
  (tRet (tAndV (tCB (rIsi K) (tCons (tVar 0) (tCons (tC (.ty "str")) tNil))) (tOp rEq (tVar 0) (tVar 1))))))))
/-- the walk over two rows that hold the same data -/
theorem alike_row {K : PySem.W.Frag} {n : Nat} {a b : Addr} {xs ys : List V} {ds : List Dt} {H : Hp} {Q : VK} {x : Option V} (A : ∀ H', Same H H' → ∀ (i : Int) v (Q' : VK), atI xs i = some v → Q' v H' → rIx K (.ref a) (.int i) H' Q') (B : ∀ H', Same H H' → ∀ (i : Int) v (Q' : VK), atI ys i = some v → Q' v H' → rIx K (.ref b) (.int i) H' Q')
    (h1 : Ats H xs ds) (h2 : Ats H ys ds) (hl : ds.length ≤ 10000) (hd : Dt.depL ds + 1 ≤ n) (hf : Dt.flatL ds = true) (k : ∀ D H', Same H H' → H' D = some (.lst (List.replicate ds.length (.bl true))) → Q (.ref D) H') :
    LcW (Itr 0 ds.length) (gName 2) tYes (tCall (sp_alike n) [] E0 (tCons (tOp (rIx K) (tVar 0) (tVar 2)) (tCons (tOp (rIx K) (tVar 1) (tVar 2)) tNil))) [2] [some (.ref a), some (.ref b), x] H Q := by
  refine m_rng (fun D i H' => Same H H' ∧ H D = none ∧ H' D = some (.lst (List.replicate i (.bl true)))) ?_ ?_ ?_
  · exact fun D hD => ⟨same_new hD, hD, upd_same⟩
  · rintro D i H' hi ⟨s1, s2, s3⟩
    obtain ⟨d, hd'⟩ : ∃ d, ds[i]? = some d := ⟨_, List.getElem?_eq_getElem hi⟩
    obtain ⟨va, ea, ha⟩ := h1.get hd'
    obtain ⟨vb, eb, hb⟩ := h2.get hd'
    fold_lay
    refine ⟨rfl, ?_⟩
    fold_lay
    refine A H' s1 _ va _ (at_of (j := i) (by omega) ea) ?_
    fold_lay
    refine B H' s1 _ vb _ (at_of (j := i) (by omega) eb) ?_
    fold_lay
    cases n with
    | zero => omega
    | succ m =>
      have hdd := depL_get hd'
      refine c_alike (ha.mono s1) (hb.mono s1) (by omega) (flatL_get hf hd') fun H2 s4 => ?_
      refine ⟨_, s4 _ _ s3, szl (by rw [List.length_replicate]; omega), ?_, s2, ?_⟩
      · exact fun c o e => upd_off (ne_of_none e s2) (s4 _ _ (s1 _ _ e))
      · rw [upd_same, List.replicate_succ']
  · rintro D H' ⟨s1, s2, s3⟩
    exact k D H' s1 s3
theorem pure_alike {K : PySem.W.Frag} {n : Nat} {vs : List V} {H : Hp} {Q : VK} {E : XK} (h : sp_alike (n + 1) vs H Q E) : t_l_alike K n { nx := fun _ H' => Q .non H', rt := Q } (start N_l_alike vs) H := by
  obtain ⟨va, vb, d, rfl, h1, h2, h3, h4, k⟩ := h
  unfold t_l_alike
  fold_depth
  cases h1 with
  | non =>
    cases h2
    refine i_yes rfl ?_
    fold_lay
    refine i_yes rfl ?_
    fold_lay
    exact k H (Same.refl H)
  | bl b =>
    cases h2
    refine i_no (nz (by simp)) ?_
    fold_lay
    refine i_no (nz (by simp)) ?_
    fold_lay; fold_depth
    refine i_isi (.bl b) (b := false) (by decide +kernel) ?_
    fold_lay
    refine i_isi (.bl b) (b := false) (by decide +kernel) ?_
    fold_lay; fold_depth
    refine i_isi (.bl b) (b := true) (by decide +kernel) ?_
    fold_lay
    refine i_isi (.bl b) (b := true) (by decide +kernel) ?_
    fold_lay
    refine i_ifF ?_
    fold_lay; fold_depth
    refine i_isi (.bl b) (b := true) (by decide +kernel) ?_
    fold_lay
    refine i_isi (.bl b) (b := true) (by decide +kernel) ?_
    fold_lay
    rw [beq_self_eq_true]
    exact k H (Same.refl H)
  | int i =>
    cases h2
    refine i_no (nz (by simp)) ?_
    fold_lay
    refine i_no (nz (by simp)) ?_
    fold_lay; fold_depth
    refine i_isi (.int i) (b := false) (by decide +kernel) ?_
    fold_lay
    refine i_isi (.int i) (b := false) (by decide +kernel) ?_
    fold_lay; fold_depth
    refine i_isi (.int i) (b := false) (by decide +kernel) ?_
    fold_lay
    refine i_isi (.int i) (b := false) (by decide +kernel) ?_
    fold_lay
    refine i_ifF ?_
    fold_lay; fold_depth
    refine i_isi (.int i) (b := true) (by decide +kernel) ?_
    fold_lay
    refine i_isi (.int i) (b := true) (by decide +kernel) ?_
    fold_lay
    rw [decide_eq_true rfl]
    exact k H (Same.refl H)
  | str x =>
    cases h2
    refine i_no (nz (by simp)) ?_
    fold_lay
    refine i_no (nz (by simp)) ?_
    fold_lay; fold_depth
    refine i_isi (.str x) (b := false) (by decide +kernel) ?_
    fold_lay
    refine i_isi (.str x) (b := false) (by decide +kernel) ?_
    fold_lay; fold_depth
    refine i_isi (.str x) (b := false) (by decide +kernel) ?_
    fold_lay
    refine i_isi (.str x) (b := false) (by decide +kernel) ?_
    fold_lay
    refine i_ifF ?_
    fold_lay; fold_depth
    refine i_isi (.str x) (b := false) (by decide +kernel) ?_
    fold_lay
    refine i_isi (.str x) (b := true) (by decide +kernel) ?_
    fold_lay
    rw [decide_eq_true rfl]
    exact k H (Same.refl H)
  | @lst a xs ds ea ha =>
    cases h2 with
    | @lst b ys _ eb hb =>
      refine i_no (nz (by simp)) ?_
      fold_lay
      refine i_no (nz (by simp)) ?_
      fold_lay; fold_depth
      refine i_isi (.lst eb) (b := true) (by decide +kernel) ?_
      fold_lay; fold_depth
      refine i_isi (.lst ea) (b := true) (by decide +kernel) ?_
      fold_lay
      refine i_isi (.lst eb) (b := true) (by decide +kernel) ?_
      fold_lay
      refine i_ifF ?_
      fold_lay
      refine i_isi (.lst ea) (b := false) (by decide +kernel) ?_
      fold_lay
      refine i_isi (.lst eb) (b := false) (by decide +kernel) ?_
      fold_lay
      refine i_ifF ?_
      fold_lay
      have l1 := ha.length
      have l2 := hb.length
      rw [decide_eq_true (by omega)]
      have h4' : (decide (ds.length ≤ 10000) && Dt.flatL ds) = true := by simpa only [Dt.flat] using h4
      obtain ⟨f1, f2⟩ := Bool.and_eq_true_iff.mp h4'
      have f1 := of_decide_eq_true f1
      have h3' : Dt.depL ds + 1 ≤ n := by simpa only [Dt.dep] using h3
      fold_lay
      refine c_rng1 (by omega) (by omega) ?_
      rw [show (ys.length : Int).toNat = ds.length by omega]
      refine alike_row (fun H' s i v Q' e q => i_ixSL (sqL (s _ _ ea)) e q) (fun H' s i v Q' e q => i_ixSL (sqL (s _ _ eb)) e q) ha hb f1 h3' f2 fun D H' s1 hD => ?_
      fold_lay
      exact i_all hD (k H' s1)
  | @tup a xs ds ea ha =>
    cases h2 with
    | @tup b ys _ eb hb =>
      refine i_no (nz (by simp)) ?_
      fold_lay
      refine i_no (nz (by simp)) ?_
      fold_lay; fold_depth
      refine i_isi (.tup eb) (b := false) (by decide +kernel) ?_
      fold_lay
      refine i_isi (.tup eb) (b := true) (by decide +kernel) ?_
      fold_lay; fold_depth
      refine i_isi (.tup ea) (b := false) (by decide +kernel) ?_
      fold_lay
      refine i_isi (.tup eb) (b := false) (by decide +kernel) ?_
      fold_lay
      refine i_ifF ?_
      fold_lay
      refine i_isi (.tup ea) (b := true) (by decide +kernel) ?_
      fold_lay
      refine i_isi (.tup eb) (b := true) (by decide +kernel) ?_
      fold_lay
      refine i_ifF ?_
      fold_lay
      have l1 := ha.length
      have l2 := hb.length
      rw [decide_eq_true (by omega)]
      have h4' : (decide (ds.length ≤ 10000) && Dt.flatL ds) = true := by simpa only [Dt.flat] using h4
      obtain ⟨f1, f2⟩ := Bool.and_eq_true_iff.mp h4'
      have f1 := of_decide_eq_true f1
      have h3' : Dt.depL ds + 1 ≤ n := by simpa only [Dt.dep] using h3
      fold_lay
      refine c_rng1 (by omega) (by omega) ?_
      rw [show (ys.length : Int).toNat = ds.length by omega]
      refine alike_row (fun H' s i v Q' e q => i_ixST (sqT (s _ _ ea)) e q) (fun H' s i v Q' e q => i_ixST (sqT (s _ _ eb)) e q) ha hb f1 h3' f2 fun D H' s1 hD => ?_
      fold_lay
      exact i_all hD (k H' s1)
  | dic h hs => cases h4
/-! ## K46a -/
/-! ### serves: the place, by sums and by a walk -/
def up (n m : Int) : Int := (n + m - 1) / m * m
def fst46 (p m : Int) : Int := if up (p + 1) m = p + 1 then p + 1 else up (p + 4) m
def srv (p n z m : Int) : Option Int := if fst46 p m + z + 1 ≤ p + n then some (fst46 p m) else none
def ov : Option Int → V
  | none => .non
  | some i => .int i
theorem up_spec {n m : Int} (hm : 0 < m) : n ≤ up n m ∧ up n m % m = 0 ∧ ∀ q, n ≤ q → q % m = 0 → up n m ≤ q := by
  unfold up
  have e := Int.mul_ediv_add_emod (n + m - 1) m
  have h0 := Int.emod_nonneg (n + m - 1) (by omega : m ≠ 0)
  have h1 := Int.emod_lt_of_pos (n + m - 1) hm
  generalize hr : (n + m - 1) % m = r at *
  generalize hq : (n + m - 1) / m = k at *
  have ec : k * m = m * k := Int.mul_comm _ _
  refine ⟨by omega, Int.mul_emod_left _ _, fun q hq1 hq2 => ?_⟩
  obtain ⟨j, hj⟩ := Int.dvd_of_emod_eq_zero hq2
  subst hj
  rw [ec]
  refine Int.mul_le_mul_of_nonneg_left ?_ (by omega)
  refine Int.lt_add_one_iff.mp ?_
  refine Int.lt_of_mul_lt_mul_left (a := m) ?_ (by omega)
  rw [Int.mul_add, Int.mul_one]
  omega
theorem up_eq {n m : Int} (hm : 0 < m) : up n m = n ↔ n % m = 0 := by
  have h := up_spec (n := n) hm
  constructor
  · intro e
    rw [← e]
    exact h.2.1
  · intro e
    have := h.2.2 n (by omega) e
    omega
theorem fst_spec {p m : Int} (hm : 0 < m) : (p + 1 ≤ fst46 p m) ∧ fst46 p m % m = 0 ∧ (fst46 p m = p + 1 ∨ p + 4 ≤ fst46 p m) ∧ ∀ q, p + 1 ≤ q → q % m = 0 → (q = p + 1 ∨ p + 4 ≤ q) → fst46 p m ≤ q := by
  unfold fst46
  have h1 := up_spec (n := p + 1) hm
  have h4 := up_spec (n := p + 4) hm
  split
  · rename_i e
    refine ⟨by omega, ?_, .inl rfl, fun q a b c => a⟩
    exact (up_eq hm).mp e
  · rename_i e
    refine ⟨by omega, h4.2.1, .inr (by omega), fun q a b c => ?_⟩
    rcases c with c | c
    · exact absurd ((up_eq hm).mpr (c ▸ b)) e
    · exact h4.2.2 q c b
def sp_serves_at : Sp := fun vs H Q _ => ∃ (p n z m : Int), vs = [.int p, .int n, .int z, .int m] ∧ 0 < m ∧ -1000000 ≤ p ∧ p ≤ 1000000 ∧ -1000000 ≤ n ∧ n ≤ 1000000 ∧ -1000000 ≤ z ∧ z ≤ 1000000 ∧ Q (ov (srv p n z m)) H
def N_l_serves_at : List Str := ["_law_p", "_law_n", "_law_size", "_law_alignment_here", "_law_q"]
def t_l_serves_at (K : PySem.W.Frag) : TS := (tSeq (tFor (iRng2 (tCons (tOp oAdd (tVar 0) (tC (.int 1))) (tCons (tOp oSub (tOp oAdd (tVar 0) (tVar 1)) (tVar 2)) tNil))) (gName 4) (tIfS (tAnd (tTest (tOp rEq (tOp oMod (tCB rInt1 (tCons (tVar 4) tNil)) (tVar 3)) (tC (.int 0)))) (tOr (tTest (tOp rEq (tVar 4) (tOp oAdd (tVar 0) (tC (.int 1))))) (tTest (tOp oGe (tVar 4) (tOp oAdd (tVar 0) (tC (.int 4))))))) (tRet (tVar 4)) tNext))
  (tRet (tC .non)))
theorem pure_serves_at {K : PySem.W.Frag} {vs : List V} {H : Hp} {Q : VK} {E : XK} (h : sp_serves_at vs H Q E) : t_l_serves_at K { nx := fun _ H' => Q .non H', rt := Q } (start N_l_serves_at vs) H := by
  obtain ⟨p, n, z, m, rfl, hm, b1, b2, b3, b4, b5, b6, k⟩ := h
  have F := fst_spec (p := p) hm
  unfold t_l_serves_at
  fold_depth
  refine f_rng2 (by omega) (by omega) (by omega) (by omega) (l_rng (fun i σ H' => H' = H ∧ (p + 1 + i ≤ fst46 p m) ∧ ∃ x, σ = [some (.int p), some (.int n), some (.int z), some (.int m), x]) ⟨rfl, by omega, none, rfl⟩ ?_ ?_)
  · rintro i σ H' hi ⟨rfl, hf, x, rfl⟩
    have go : ∀ q : Int, q = p + 1 + i → ¬ (q % m = 0 ∧ (q = p + 1 ∨ p + 4 ≤ q)) → p + 1 + ((i + 1 : Nat) : Int) ≤ fst46 p m := fun q hq hn => by
      by_cases e : fst46 p m = p + 1 + i
      · exact absurd ⟨by rw [hq, ← e]; exact F.2.1, by rw [hq, ← e]; exact F.2.2.1⟩ hn
      · omega
    have stop : ∀ q : Int, q = p + 1 + i → q % m = 0 → (q = p + 1 ∨ p + 4 ≤ q) → Q (.int q) H' := fun q hq h1 h2 => by
      have e : fst46 p m = q := by
        have := F.2.2.2 q (by omega) h1 h2
        omega
      have : srv p n z m = some q := by
        unfold srv
        rw [e, if_pos (by omega)]
      rw [this] at k
      exact k
    fold_lay
    refine i_ifd (fun h1 => ?_) (fun h1 => ?_)
    · fold_lay
      refine i_ifd (fun h2 => ?_) (fun h2 => ?_)
      · fold_lay
        exact stop _ rfl h1 (.inl h2)
      · fold_lay
        refine i_ifd (fun h3 => ?_) (fun h3 => ?_)
        · fold_lay
          exact stop _ rfl h1 (.inr h3)
        · fold_lay
          exact ⟨rfl, go _ rfl (fun z => by omega), _, rfl⟩
    · fold_lay
      exact ⟨rfl, go _ rfl (fun z => h1 z.1), _, rfl⟩
  · rintro σ H' ⟨rfl, hf, x, rfl⟩
    fold_lay
    have : srv p n z m = none := by
      unfold srv
      rw [if_neg (by omega)]
    rw [this] at k
    exact k
def sp_serving_place : Sp := fun vs H Q _ => ∃ (p n z m : Int), vs = [.int p, .int n, .int z, .int m] ∧ 0 ≤ p ∧ p ≤ 1000000 ∧ (∃ k : Nat, m = 2 ^ k) ∧ m ≤ 4096 ∧ Q (ov (srv p n z m)) H
def N_p_serving_place : List Str := ["place", "count", "size", "align", "first"]
def t_p_serving_place (K : PySem.W.Frag) : TS := (tSeq (tAsg (tCall sp_align_up [] E0 (tCons (tOp oAdd (tVar 0) (tC (.int 1))) (tCons (tVar 3) tNil))) (gName 4))
  (tSeq (tIfS (tTest (tOp rNe (tVar 4) (tOp oAdd (tVar 0) (tC (.int 1))))) (tAsg (tCall sp_align_up [] E0 (tCons (tOp oAdd (tOp oAdd (tVar 0) (tC (.int 1))) (tC (.int 3))) (tCons (tVar 3) tNil))) (gName 4)) tNext)
  (tSeq (tIfS (tTest (tOp oLe (tOp oAdd (tOp oAdd (tVar 4) (tVar 2)) (tC (.int 1))) (tOp oAdd (tVar 0) (tVar 1)))) (tRet (tVar 4)) tNext)
  (tRet (tC .non)))))
theorem pure_serving_place {K : PySem.W.Frag} {vs : List V} {H : Hp} {Q : VK} {E : XK} (h : sp_serving_place vs H Q E) : t_p_serving_place K { nx := fun _ H' => Q .non H', rt := Q } (start N_p_serving_place vs) H := by
  obtain ⟨p, n, z, m, rfl, b1, b2, b3, b4, k⟩ := h
  have fin : ∀ f : Int, f = fst46 p m → (tSeq (tIfS (tTest (tOp oLe (tOp oAdd (tOp oAdd (tVar 4) (tVar 2)) (tC (.int 1))) (tOp oAdd (tVar 0) (tVar 1)))) (tRet (tVar 4)) tNext) (tRet (tC .non))) { nx := fun _ H' => Q .non H', rt := Q } [some (.int p), some (.int n), some (.int z), some (.int m), some (.int f)] H := fun f hf => by
    fold_depth
    refine i_ifd (fun h1 => ?_) (fun h1 => ?_)
    · fold_lay
      have : srv p n z m = some f := by
        unfold srv
        rw [← hf, if_pos h1]
      rw [this] at k
      exact k
    · fold_lay
      have : srv p n z m = none := by
        unfold srv
        rw [← hf, if_neg h1]
      rw [this] at k
      exact k
  unfold t_p_serving_place
  fold_lay
  refine c_align_up (by omega) (by omega) b3 (by omega) ?_
  fold_lay
  refine i_cut (fun σ' H' => H' = H ∧ σ' = [some (.int p), some (.int n), some (.int z), some (.int m), some (.int (fst46 p m))]) ?_ (fun nx key => ?_)
  · rintro σ' H' ⟨rfl, rfl⟩
    exact fin _ rfl
  · fold_lay
    refine i_ifn (fun h1 => ?_) (fun h1 => ?_)
    · fold_lay
      refine c_align_up (by omega) (by omega) b3 (by omega) ?_
      fold_lay
      refine key _ _ ⟨rfl, ?_⟩
      have e : fst46 p m = up (p + 4) m := if_neg h1
      have e2 : p + 1 + 3 = p + 4 := by omega
      rw [e, e2]
      rfl
    · fold_lay
      refine key _ _ ⟨rfl, ?_⟩
      have e : fst46 p m = p + 1 := if_pos h1
      rw [e]
      have e3 : (p + 1 + m - 1) / m * m = p + 1 := h1
      rw [e3]
      rfl
/-- the first wrong argument -/
def bad46 (v1 v2 v3 v4 : V) : Option Str := if vR 0 16383 v1 = false then some "p" else if vR 3 16384 v2 = false then some "n" else if vR 1 16384 v3 = false then some "size" else if vA 4096 v4 = false then some "align" else none
def sp_serves (K : PySem.W.Frag) (c : Cl) : Sp := fun vs H Q E => ∃ (v1 v2 v3 v4 : V) (n1 n2 n3 n4 : String), vs = [v1, v2, v3, v4] ∧ Ty0 H v1 n1 ∧ Ty0 H v2 n2 ∧ Ty0 H v3 n3 ∧ Ty0 H v4 n4 ∧ BvC K c.k_BadValue ∧
  (∀ s, bad46 v1 v2 v3 v4 = some s → ∀ d H', BadAt H' d (.str s) → Same H H' → E (.ref c.k_BadValue) (some d) H') ∧
  (bad46 v1 v2 v3 v4 = none → ∀ p n z m, v1 = .int p → v2 = .int n → v3 = .int z → v4 = .int m → Q (ov (srv p n z m)) H)
theorem vR_int {v : V} {lo hi : Int} (h : vR lo hi v = true) : ∃ i, v = .int i ∧ lo ≤ i ∧ i ≤ hi := by
  cases v <;> first | exact ⟨_, rfl, by simpa [vR] using h⟩ | cases h
theorem vA_int {v : V} {m : Int} (h : vA m v = true) : ∃ i, v = .int i ∧ (∃ k : Nat, i = 2 ^ k) ∧ i ≤ m := by
  cases v <;> first | exact ⟨_, rfl, vA_iff.mp h⟩ | cases h
def N_p_serves : List Str := ["p", "n", "size", "align"]
def t_p_serves (K : PySem.W.Frag) (c : Cl) (E : XK) : TS := (tSeq (tDrop (tCall (sp_check_number K c) [] E (tCons (tVar 0) (tCons (tC (.int 0)) (tCons (tOp oSub (tC (.int 16384)) (tC (.int 1))) (tCons (tC (.str "p")) tNil))))))
  (tSeq (tDrop (tCall (sp_check_number K c) [] E (tCons (tVar 1) (tCons (tC (.int 3)) (tCons (tC (.int 16384)) (tCons (tC (.str "n")) tNil))))))
  (tSeq (tDrop (tCall (sp_check_number K c) [] E (tCons (tVar 2) (tCons (tC (.int 1)) (tCons (tC (.int 16384)) (tCons (tC (.str "size")) tNil))))))
  (tSeq (tDrop (tCall (sp_check_align K c) [] E (tCons (tVar 3) tNil)))
  (tRet (tCall sp_serving_place [] E0 (tCons (tVar 0) (tCons (tVar 1) (tCons (tVar 2) (tCons (tVar 3) tNil))))))))))
theorem pure_serves {K : PySem.W.Frag} {c : Cl} {vs : List V} {H : Hp} {Q : VK} {E : XK} (h : sp_serves K c vs H Q E) : t_p_serves K c E { nx := fun _ H' => Q .non H', rt := Q } (start N_p_serves vs) H := by
  obtain ⟨v1, v2, v3, v4, n1, n2, n3, n4, rfl, t1, t2, t3, t4, hC, kE, kQ⟩ := h
  unfold t_p_serves
  fold_lay
  rw [show (16384 : Int) - 1 = 16383 from rfl]
  refine c_check_number t1 hC (fun h1 => ?_) (fun h1 => kE _ (by simp [bad46, h1]))
  fold_lay
  refine c_check_number t2 hC (fun h2 => ?_) (fun h2 => kE _ (by simp [bad46, h1, h2]))
  fold_lay
  refine c_check_number t3 hC (fun h3 => ?_) (fun h3 => kE _ (by simp [bad46, h1, h2, h3]))
  fold_lay
  refine c_check_align t4 hC (fun h4 => ?_) (fun h4 => kE _ (by simp [bad46, h1, h2, h3, h4]))
  fold_lay
  have kk := kQ (by simp [bad46, h1, h2, h3, h4])
  obtain ⟨p, rfl, p1, p2⟩ := vR_int h1
  obtain ⟨n, rfl, _⟩ := vR_int h2
  obtain ⟨z, rfl, _⟩ := vR_int h3
  obtain ⟨m, rfl, m1, m2⟩ := vA_int h4
  exact ⟨p, n, z, m, rfl, p1, by omega, m1, m2, kk p n z m rfl rfl rfl rfl⟩
/-! ## K46b -/
/-! ### refusals told -/
structure RfC (K : PySem.W.Frag) (c : Cl) : Prop where
  bv : BvC K c.k_BadValue
  ex : ExcC K c.k_BadValue
  xf : XfC K c.k_BadValue
  i1 : PySem.W.kitOne K (.ref c.k_BadValue) (.ref c.k_BadValue) = some true
  i2 : PySem.W.kitOne K (.ref c.k_BadValue) (.ref c.k_Broken) = some false
  i3 : PySem.W.kitOne K (.ref c.k_BadValue) (.ref c.k_Unknown) = some false
  i4 : PySem.W.kitOne K (.ref c.k_BadValue) (.ref c.k_NotHeld) = some false
  i5 : PySem.W.kitOne K (.ref c.k_BadValue) (.ref c.k_Fault) = some false
  i6 : PySem.W.kitOne K (.ref c.k_BadValue) (.ref c.k_NoRoom) = some false
  i7 : PySem.W.kitOne K (.ref c.k_BadValue) (.ref c.k_Cut) = some false
  i8 : PySem.W.kitOne K (.ref c.k_BadValue) (.ref c.k_BadLine) = some false
  ht : PySem.W.exmOne K (.ref c.k_BadValue) (.ref c.k_StoreError) = some true
theorem i_isX {K : PySem.W.Frag} {H : Hp} {Q : VK} {a D dd C : Addr} {fs : List (Str × V)} {b : Bool} (ha : H a = some (exi a (.ref D) (some dd))) (hd : H dd = some (.xd fs)) (hD : ExcC K D) (e : PySem.W.kitOne K (.ref D) (.ref C) = some b) (q : Q (.bl b) H) : rIsX K [.ref a, .ref C] H Q :=
  ⟨a, D, dd, fs, .ref C, .ref C, b, rfl, .own C, ha, hd, hD, e, q⟩
theorem i_xt {K : PySem.W.Frag} {σ : St} {H : Hp} {Q : VK} {f : Str} {te : TE} (h : te σ H fun x H1 => ∃ (a C dd : Addr) (fs : List (Str × V)) (v : V), x = .ref a ∧ H1 a = some (exi a (.ref C) (some dd)) ∧ XfC K C ∧ PySem.W.findIn K (.ref C) f = some none ∧ H1 dd = some (.xd fs) ∧ fs.lookup f = some v ∧ Q v H1) : tXt K f te σ H Q := h
instance s_xt {K : PySem.W.Frag} {σ : St} {H : Hp} {Q : VK} {f : Str} {te : TE} : Stp (tXt K f te σ H Q) (te σ H fun x H1 => ∃ (a C dd : Addr) (fs : List (Str × V)) (v : V), x = .ref a ∧ H1 a = some (exi a (.ref C) (some dd)) ∧ XfC K C ∧ PySem.W.findIn K (.ref C) f = some none ∧ H1 dd = some (.xd fs) ∧ fs.lookup f = some v ∧ Q v H1) := ⟨i_xt⟩
theorem i_cat {H : Hp} {Q : VK} {l b : Addr} {xs zs : List V} (h1 : H l = some (.lst xs)) (h2 : H b = some (.lst zs)) (hz : xs.length + zs.length ≤ 100000) (q : ∀ p, H p = none → Q (.ref p) (upd H p (.lst (xs ++ zs)))) : rCat (.ref l) (.ref b) H Q := ⟨l, b, xs, zs, rfl, rfl, h1, h2, sz hz, q⟩
def refD (s : Str) : Dt := .tup [.lst [.bl true, .bl false, .bl false, .bl false, .bl false, .bl false, .bl false, .bl false], .tup [.str "BadValue", .tup [.str s]]]
def sp_refusal (K : PySem.W.Frag) (c : Cl) : Sp := fun vs H Q _ => ∃ (e d : Addr) (s : Str), vs = [.ref e] ∧ H e = some (exi e (.ref c.k_BadValue) (some d)) ∧ BadAt H d (.str s) ∧ RfC K c ∧ ∀ v H', At H' v (refD s) → Same H H' → Q v H'
theorem lk_told {s : V} {t : Addr} : List.lookup ("told" : Str) [("told", V.ref t), ("parameter", s)] = some (V.ref t) := by
  have e : (("told" : Str) == ("told" : Str)) = true := beq_self_eq_true _
  simp only [List.lookup, e]
def N_l_refusal : List Str := ["_law_e", "_law_kinds"]
def t_l_refusal (K : PySem.W.Frag) (c : Cl) : TS := (tSeq (tAsg (tLst (tCons (tCB (rIsX K) (tCons (tVar 0) (tCons (tC (.ref c.k_BadValue)) tNil))) (tCons (tCB (rIsX K) (tCons (tVar 0) (tCons (tC (.ref c.k_Broken)) tNil))) (tCons (tCB (rIsX K) (tCons (tVar 0) (tCons (tC (.ref c.k_Unknown)) tNil))) (tCons (tCB (rIsX K) (tCons (tVar 0) (tCons (tC (.ref c.k_NotHeld)) tNil))) tNil))))) (gName 1))
  (tSeq (tAsg (tOp rCat (tVar 1) (tLst (tCons (tCB (rIsX K) (tCons (tVar 0) (tCons (tC (.ref c.k_Fault)) tNil))) (tCons (tCB (rIsX K) (tCons (tVar 0) (tCons (tC (.ref c.k_NoRoom)) tNil))) (tCons (tCB (rIsX K) (tCons (tVar 0) (tCons (tC (.ref c.k_Cut)) tNil))) (tCons (tCB (rIsX K) (tCons (tVar 0) (tCons (tC (.ref c.k_BadLine)) tNil))) tNil)))))) (gName 1))
  (tRet (tTup (tCons (tVar 1) (tCons (tXt K "told" (tVar 0)) tNil))))))
theorem pure_refusal {K : PySem.W.Frag} {c : Cl} {vs : List V} {H : Hp} {Q : VK} {E : XK} (h : sp_refusal K c vs H Q E) : t_l_refusal K c { nx := fun _ H' => Q .non H', rt := Q } (start N_l_refusal vs) H := by
  obtain ⟨e, d, s, rfl, he, ⟨t1, t2, hd, h2, h1⟩, R, k⟩ := h
  unfold t_l_refusal
  fold_lay
  refine i_isX he hd R.ex R.i1 ?_
  fold_lay
  refine i_isX he hd R.ex R.i2 ?_
  fold_lay
  refine i_isX he hd R.ex R.i3 ?_
  fold_lay
  refine i_isX he hd R.ex R.i4 ?_
  fold_lay
  rename_i p1 hp1
  have he1 := upd_keep (o := .lst [.bl true, .bl false, .bl false, .bl false]) hp1 he
  have hd1 := upd_keep (o := .lst [.bl true, .bl false, .bl false, .bl false]) hp1 hd
  refine i_isX he1 hd1 R.ex R.i5 ?_
  fold_lay
  refine i_isX he1 hd1 R.ex R.i6 ?_
  fold_lay
  refine i_isX he1 hd1 R.ex R.i7 ?_
  fold_lay
  refine i_isX he1 hd1 R.ex R.i8 ?_
  fold_lay
  rename_i p2 hp2
  refine i_cat (upd_keep hp2 upd_same) upd_same (by simp) fun p3 hp3 => ?_
  fold_lay
  have s1 := same_new (o := .lst [.bl true, .bl false, .bl false, .bl false]) hp1
  have s2 := s1.trans (same_new (o := .lst [.bl false, .bl false, .bl false, .bl false]) hp2)
  have s3 := s2.trans (same_new (o := .lst ([.bl true, .bl false, .bl false, .bl false] ++ [.bl false, .bl false, .bl false, .bl false])) hp3)
  refine ⟨e, c.k_BadValue, d, _, .ref t2, rfl, s3 _ _ he, R.xf, R.bv.nt, s3 _ _ hd, lk_told, ?_⟩
  fold_lay
  rename_i p4 hp4
  refine k _ _ (.tup upd_same (.cons (.lst (upd_keep hp4 upd_same) ?_) (.cons (.tup (upd_keep hp4 (s3 _ _ h2)) (.cons (.str _) (.cons (.tup (upd_keep hp4 (s3 _ _ h1)) (.cons (.str _) .nil)) .nil))) .nil))) (s3.trans (same_new hp4))
  exact .cons (.bl _) (.cons (.bl _) (.cons (.bl _) (.cons (.bl _) (.cons (.bl _) (.cons (.bl _) (.cons (.bl _) (.cons (.bl _) .nil)))))))
def titles : List Str := ["BadValue", "Broken", "Unknown", "NotHeld", "Fault", "NoRoom", "Cut", "BadLine"]
theorem Ats_bls {H : Hp} : ∀ l : List Bool, Ats H (l.map V.bl) (l.map Dt.bl)
  | [] => .nil
  | b :: r => .cons (.bl b) (Ats_bls r)
def sp_refused46 : Sp := fun vs H Q _ => ∃ (v : V) (fd : Dt), vs = [.str "BadValue", v] ∧ At H v fd ∧ ∀ w H', At H' w (.tup [.lst [.bl true, .bl false, .bl false, .bl false, .bl false, .bl false, .bl false, .bl false], .tup [.str "BadValue", fd]]) → Same H H' → Q w H'
theorem c_refused46 {v : V} {fd : Dt} {H : Hp} {Q : VK} {E : XK} (h : At H v fd) (k : ∀ w H', At H' w (.tup [.lst [.bl true, .bl false, .bl false, .bl false, .bl false, .bl false, .bl false, .bl false], .tup [.str "BadValue", fd]]) → Same H H' → Q w H') : sp_refused46 [.str "BadValue", v] H Q E := ⟨v, fd, rfl, h, k⟩
def N_l_refused : List Str := ["_law_title", "_law_fields", "_law_titles", "_law_one"]
def t_l_refused (K : PySem.W.Frag) : TS := (tSeq (tAsg (tLst (tCons (tC (.str "BadValue")) (tCons (tC (.str "Broken")) (tCons (tC (.str "Unknown")) (tCons (tC (.str "NotHeld")) (tCons (tC (.str "Fault")) (tCons (tC (.str "NoRoom")) (tCons (tC (.str "Cut")) (tCons (tC (.str "BadLine")) tNil))))))))) (gName 2))
  (tRet (tTup (tCons (tLc (iList K (tVar 2)) (gName 3) tYes (tOp rEq (tVar 3) (tVar 0)) [3]) (tCons (tTup (tCons (tVar 0) (tCons (tVar 1) tNil))) tNil)))))
theorem getS {l : List Str} {i : Nat} {y : V} (hi : (l.map V.str)[i]? = some y) : ∃ z, l[i]? = some z ∧ y = V.str z := by
  rw [List.getElem?_map, Option.map_eq_some_iff] at hi
  exact hi.elim fun z h => ⟨z, h.1, h.2.symm⟩
theorem titles_are : titles.map (fun s : Str => decide (s = ("BadValue" : Str))) = [true, false, false, false, false, false, false, false] := by decide +kernel
theorem pure_refused {K : PySem.W.Frag} {vs : List V} {H : Hp} {Q : VK} {E : XK} (h : sp_refused46 vs H Q E) : t_l_refused K { nx := fun _ H' => Q .non H', rt := Q } (start N_l_refused vs) H := by
  obtain ⟨v, fd, rfl, hv, k⟩ := h
  unfold t_l_refused
  fold_lay
  rename_i p hp
  have s1 : Same H (upd H p (.lst (titles.map V.str))) := same_new hp
  refine c_lst (xs := titles.map V.str) (sqL upd_same) (m_lst (xs := titles.map V.str) (fun D i H' => Same (upd H p (.lst (titles.map V.str))) H' ∧ upd H p (.lst (titles.map V.str)) D = none ∧ H' D = some (.lst (((titles.take i).map (fun s : Str => decide (s = ("BadValue" : Str)))).map V.bl))) ?_ ?_ ?_ ?_)
  · exact fun D hD => ⟨same_new hD, hD, upd_same⟩
  · exact fun D i H' _ h => sqL (h.1 _ _ upd_same)
  · rintro D i x H' hx ⟨a1, a2, a3⟩
    obtain ⟨z, hz, rfl⟩ := getS hx
    fold_lay
    refine ⟨rfl, ?_⟩
    fold_lay
    refine ⟨_, a3, szl (by have : titles.length = 8 := rfl; simp; omega), ?_, a2, ?_⟩
    · exact fun b o e => upd_off (ne_of_none e a2) (a1 b o e)
    · rw [upd_same, take_more hz, List.map_append, List.map_append]
      rfl
  · rintro D H' ⟨a1, a2, a3⟩
    rw [List.length_map, List.take_length, titles_are] at a3
    fold_lay
    rename_i q hq r hr
    refine k _ _ (.tup upd_same (.cons (.lst (upd_keep hr (upd_keep hq a3)) (Ats_bls _)) (.cons (.tup (upd_keep hr upd_same) (.cons (.str _) (.cons (hv.mono ?_) .nil))) .nil))) ?_
    · exact ((s1.trans a1).trans (same_new hq)).trans (same_new hr)
    · exact ((s1.trans a1).trans (same_new hq)).trans (same_new hr)
/-! ## K46c -/
/-! ### asked and due -/
theorem i_callS {sp : Sp} {E : St → XK} {t : TA} {σ : St} {H : Hp} {Q : VK} (h : t σ H fun vs H1 => sp vs H1 Q (E σ)) : tCallS sp E t σ H Q := h
instance s_callS {sp : Sp} {E : St → XK} {t : TA} {σ : St} {H : Hp} {Q : VK} : Stp (tCallS sp E t σ H Q) (t σ H fun vs H1 => sp vs H1 Q (E σ)) := ⟨i_callS⟩
theorem i_try {K : PySem.W.Frag} {c : Value} {i : Nat} {tb : WX → TS} {ts : TS} {Wout : WX} {D : Ends} {σ : St} {H : Hp} (h : tb (wAsT K c i ts Wout D) D σ H) : tTryT K c i tb ts Wout D σ H := h
instance s_try {K : PySem.W.Frag} {c : Value} {i : Nat} {tb : WX → TS} {ts : TS} {Wout : WX} {D : Ends} {σ : St} {H : Hp} : Stp (tTryT K c i tb ts Wout D σ H) (tb (wAsT K c i ts Wout D) D σ H) := ⟨i_try⟩
def odt : Option Int → Dt
  | none => .non
  | some i => .int i
theorem At_ov {H : Hp} (o : Option Int) : At H (ov o) (odt o) := by
  cases o with
  | none => exact .non
  | some i => exact .int i
/-- a row of four, a tuple or a list -/
def Four (H : Hp) (a : Addr) (v1 v2 v3 v4 : V) : Prop := H a = some (.tup [v1, v2, v3, v4]) ∨ H a = some (.lst [v1, v2, v3, v4])
theorem i_four {K : PySem.W.Frag} {H : Hp} {Q : VK} {a : Addr} {v1 v2 v3 v4 v : V} {i : Int} (h : Four H a v1 v2 v3 v4) (e : atI [v1, v2, v3, v4] i = some v) (q : Q v H) : rIx K (.ref a) (.int i) H Q := by
  rcases h with h | h
  · exact i_ixST (sqT h) e q
  · exact i_ixSL (sqL h) e q
def sp_asked46 (K : PySem.W.Frag) (c : Cl) : Sp := fun vs H Q _ => ∃ (a : Addr) (v1 v2 v3 v4 : V) (n1 n2 n3 n4 : String), vs = [.ref a] ∧ Four H a v1 v2 v3 v4 ∧ Ty0 H v1 n1 ∧ Ty0 H v2 n2 ∧ Ty0 H v3 n3 ∧ Ty0 H v4 n4 ∧ RfC K c ∧
  (∀ s, bad46 v1 v2 v3 v4 = some s → ∀ v H', At H' v (refD s) → Same H H' → Q v H') ∧
  (bad46 v1 v2 v3 v4 = none → ∀ p n z m, v1 = .int p → v2 = .int n → v3 = .int z → v4 = .int m → ∀ v H', At H' v (.tup [.str "done", odt (srv p n z m)]) → Same H H' → Q v H')
def N_l_asked : List Str := ["_law_ask", "_law_e"]
def t_l_asked (K : PySem.W.Frag) (c : Cl) : TS := (tTryT K (.ref c.k_StoreError) 1 (fun W => (tRet (tTup (tCons (tC (.str "done")) (tCons (tCallS (sp_serves K c) (WE W) (tCons (tOp (rIx K) (tVar 0) (tC (.int 0))) (tCons (tOp (rIx K) (tVar 0) (tC (.int 1))) (tCons (tOp (rIx K) (tVar 0) (tC (.int 2))) (tCons (tOp (rIx K) (tVar 0) (tC (.int 3))) tNil))))) tNil))))) (tRet (tCall (sp_refusal K c) [] E0 (tCons (tVar 1) tNil))) (fun _ _ _ _ => False))
theorem pure_asked {K : PySem.W.Frag} {c : Cl} {vs : List V} {H : Hp} {Q : VK} {E : XK} (h : sp_asked46 K c vs H Q E) : t_l_asked K c { nx := fun _ H' => Q .non H', rt := Q } (start N_l_asked vs) H := by
  obtain ⟨a, v1, v2, v3, v4, n1, n2, n3, n4, rfl, ha, t1, t2, t3, t4, R, kE, kQ⟩ := h
  unfold t_l_asked
  fold_lay
  refine i_four ha rfl ?_
  fold_lay
  refine i_four ha rfl ?_
  fold_lay
  refine i_four ha rfl ?_
  fold_lay
  refine i_four ha rfl ?_
  fold_lay
  refine ⟨v1, v2, v3, v4, n1, n2, n3, n4, rfl, t1, t2, t3, t4, R.bv, fun s hs d H' hB hS => ?_, fun hn p n z m e1 e2 e3 e4 => ?_⟩
  · refine ⟨true, R.ht, (fun q => nomatch q), fun _ e he => ?_⟩
    fold_lay
    obtain ⟨u1, u2, b1, b2, b3⟩ := hB
    refine ⟨e, d, s, rfl, upd_same, ⟨u1, u2, upd_keep he b1, upd_keep he b2, upd_keep he b3⟩, R, fun v H2 hv h2 => ?_⟩
    exact kE s hs v H2 hv ((hS.trans (same_new he)).trans h2)
  · fold_lay
    rename_i q hq
    exact kQ hn p n z m e1 e2 e3 e4 _ _ (.tup upd_same (.cons (.str _) (.cons (At_ov _) .nil))) (same_new hq)
abbrev IntsAt (H : Hp) (a : Addr) (p n z m : Int) : Prop := H a = some (.tup [.int p, .int n, .int z, .int m])
/-- what is due of four ints -/
def resD (p n z m : Int) : Dt := match bad46 (.int p) (.int n) (.int z) (.int m) with
  | some s => refD s
  | none => .tup [.str "done", odt (srv p n z m)]
def sv : Option Str → V
  | none => .non
  | some s => .str s
theorem vR_no' {lo hi i : Int} (h : i < lo ∨ hi < i) : vR lo hi (.int i) = false := by
  simp [vR]
  omega
def sp_first_bad : Sp := fun vs H Q _ => ∃ (a : Addr) (p n z m : Int), vs = [.ref a] ∧ IntsAt H a p n z m ∧ (∃ k : Nat, m = 2 ^ k) ∧ Q (sv (bad46 (.int p) (.int n) (.int z) (.int m))) H
def N_l_first_bad : List Str := ["_law_ask"]
def t_l_first_bad (K : PySem.W.Frag) : TS := (tSeq (tIfS (tNot (tTest (tChain oLe oLe (tC (.int 0)) (tOp (rIxT K) (tVar 0) (tC (.int 0))) (tC (.int 16383))))) (tRet (tC (.str "p"))) tNext)
  (tSeq (tIfS (tNot (tTest (tChain oLe oLe (tC (.int 3)) (tOp (rIxT K) (tVar 0) (tC (.int 1))) (tC (.int 16384))))) (tRet (tC (.str "n"))) tNext)
  (tSeq (tIfS (tNot (tTest (tChain oLe oLe (tC (.int 1)) (tOp (rIxT K) (tVar 0) (tC (.int 2))) (tC (.int 16384))))) (tRet (tC (.str "size"))) tNext)
  (tSeq (tIfS (tTest (tOp oGt (tOp (rIxT K) (tVar 0) (tC (.int 3))) (tC (.int 4096)))) (tRet (tC (.str "align"))) tNext)
  (tRet (tC .non))))))
theorem pure_first_bad {K : PySem.W.Frag} {vs : List V} {H : Hp} {Q : VK} {E : XK} (h : sp_first_bad vs H Q E) : t_l_first_bad K { nx := fun _ H' => Q .non H', rt := Q } (start N_l_first_bad vs) H := by
  obtain ⟨a, p, n, z, m, rfl, ha, hm, k⟩ := h
  have ha : H a = some (.tup [.int p, .int n, .int z, .int m]) := ha
  unfold t_l_first_bad
  fold_depth
  have k1 : vR 0 16383 (.int p) = false → Q (.str "p") H := fun h => by simpa [bad46, h, sv] using k
  refine i_ifd (fun h1 => ?_) (fun h1 => ?_)
  rotate_left
  · fold_lay
    exact k1 (vR_no' (by omega))
  fold_lay
  refine i_ifn (fun h2 => ?_) (fun h2 => ?_)
  · fold_lay
    exact k1 (vR_no' (by omega))
  have w1 := vR_yes h1 h2
  fold_lay; fold_depth
  have k2 : vR 3 16384 (.int n) = false → Q (.str "n") H := fun h => by simpa [bad46, w1, h, sv] using k
  refine i_ifd (fun h3 => ?_) (fun h3 => ?_)
  rotate_left
  · fold_lay
    exact k2 (vR_no' (by omega))
  fold_lay
  refine i_ifn (fun h4 => ?_) (fun h4 => ?_)
  · fold_lay
    exact k2 (vR_no' (by omega))
  have w2 := vR_yes h3 h4
  fold_lay; fold_depth
  have k3 : vR 1 16384 (.int z) = false → Q (.str "size") H := fun h => by simpa [bad46, w1, w2, h, sv] using k
  refine i_ifd (fun h5 => ?_) (fun h5 => ?_)
  rotate_left
  · fold_lay
    exact k3 (vR_no' (by omega))
  fold_lay
  refine i_ifn (fun h6 => ?_) (fun h6 => ?_)
  · fold_lay
    exact k3 (vR_no' (by omega))
  have w3 := vR_yes h5 h6
  fold_lay; fold_depth
  refine i_ifd (fun h7 => ?_) (fun h7 => ?_)
  · fold_lay
    have w4 : vA 4096 (.int m) = false := by
      rw [← Bool.not_eq_true]
      intro q
      have := (vA_iff.mp q).2
      omega
    simpa [bad46, w1, w2, w3, w4, sv] using k
  · fold_lay
    have w4 : vA 4096 (.int m) = true := vA_yes hm (by omega)
    simpa [bad46, w1, w2, w3, w4, sv] using k
def sp_due46 : Sp := fun vs H Q _ => ∃ (a : Addr) (p n z m : Int), vs = [.ref a] ∧ IntsAt H a p n z m ∧ (∃ k : Nat, m = 2 ^ k) ∧ -100000 ≤ p ∧ p ≤ 100000 ∧ -100000 ≤ n ∧ n ≤ 100000 ∧ -100000 ≤ z ∧ z ≤ 100000 ∧ ∀ v H', At H' v (resD p n z m) → Same H H' → Q v H'
def N_l_due : List Str := ["_law_ask", "_law_bad"]
def t_l_due (K : PySem.W.Frag) : TS := (tSeq (tAsg (tCall sp_first_bad [] E0 (tCons (tVar 0) tNil)) (gName 1))
  (tSeq (tIfS (tTest (tOp oNotN (tVar 1) (tC .non))) (tRet (tCall sp_refused46 [] E0 (tCons (tC (.str "BadValue")) (tCons (tTup (tCons (tVar 1) tNil)) tNil)))) tNext)
  (tRet (tTup (tCons (tC (.str "done")) (tCons (tCall sp_serves_at [] E0 (tCons (tOp (rIxT K) (tVar 0) (tC (.int 0))) (tCons (tOp (rIxT K) (tVar 0) (tC (.int 1))) (tCons (tOp (rIxT K) (tVar 0) (tC (.int 2))) (tCons (tOp (rIxT K) (tVar 0) (tC (.int 3))) tNil))))) tNil))))))
theorem pure_due {K : PySem.W.Frag} {vs : List V} {H : Hp} {Q : VK} {E : XK} (h : sp_due46 vs H Q E) : t_l_due K { nx := fun _ H' => Q .non H', rt := Q } (start N_l_due vs) H := by
  obtain ⟨a, p, n, z, m, rfl, ha, hm, b1, b2, b3, b4, b5, b6, k⟩ := h
  have ha' : H a = some (.tup [.int p, .int n, .int z, .int m]) := ha
  unfold t_l_due
  fold_lay
  refine ⟨a, p, n, z, m, rfl, ha, hm, ?_⟩
  unfold resD at k
  cases hb : bad46 (.int p) (.int n) (.int z) (.int m) with
  | some s =>
    rw [hb] at k
    fold_lay; fold_depth
    refine i_ifn (fun _ => ?_) (fun q => nomatch q)
    fold_lay
    rename_i q hq
    exact c_refused46 (fd := .tup [.str s]) (.tup upd_same (.cons (.str s) .nil)) fun w H' hw hs => k w H' hw ((same_new hq).trans hs)
  | none =>
    rw [hb] at k
    fold_lay; fold_depth
    refine i_ifn (fun q => (q rfl).elim) (fun _ => ?_)
    fold_lay
    obtain ⟨j, hj⟩ := hm
    have hp := two_pow_pos j
    refine ⟨p, n, z, m, rfl, by omega, by omega, by omega, by omega, by omega, by omega, by omega, ?_⟩
    fold_lay
    rename_i q hq
    exact k _ _ (.tup upd_same (.cons (.str _) (.cons (At_ov _) .nil))) (same_new hq)
/-! ## K46d -/
/-! ### the asks -/
structure Ask (p n z m : Int) : Prop where
  p1 : -100000 ≤ p
  p2 : p ≤ 100000
  n1 : -100000 ≤ n
  n2 : n ≤ 100000
  z1 : -100000 ≤ z
  z2 : z ≤ 100000
  m1 : ∃ k : Nat, m = 2 ^ k
structure Ask0 (p n z m : Int) : Prop where
  p1 : 0 ≤ p
  p2 : p ≤ 16383
  n1 : 3 ≤ n
  n2 : n ≤ 16384
  z1 : 1 ≤ z
  z2 : z ≤ n
  m1 : ∃ k : Nat, m = 2 ^ k
  m2 : m ≤ 4096
def sp_near : Sp := fun vs H Q _ => ∃ (a : Addr) (p n z m : Int), vs = [.ref a] ∧ IntsAt H a p n z m ∧ Ask0 p n z m ∧
  ∀ l (ws : List V) H', H' l = some (.lst ws) → (∀ v ∈ ws, ∃ b p n z m, v = .ref b ∧ IntsAt H' b p n z m ∧ Ask p n z m) → Same H H' → H l = none → Q (.ref l) H'
def N_l_near : List Str := ["_law_ask", "_law_p", "_law_n", "_law_size", "_law_alignment_here", "_law_row"]
def t_l_near (K : PySem.W.Frag) : TS := (tSeq (tAsg (tVar 0) (gTup K 4 (gCons (gName 1) (gCons (gName 2) (gCons (gName 3) (gCons (gName 4) gNil))))))
  (tSeq (tAsg (tLst (tCons (tTup (tCons (tVar 1) (tCons (tVar 2) (tCons (tOp oAdd (tVar 3) (tC (.int 1))) (tCons (tVar 4) tNil))))) (tCons (tTup (tCons (tVar 1) (tCons (tVar 2) (tCons (tOp oSub (tVar 3) (tC (.int 1))) (tCons (tVar 4) tNil))))) (tCons (tTup (tCons (tVar 1) (tCons (tOp oAdd (tVar 2) (tC (.int 1))) (tCons (tVar 3) (tCons (tVar 4) tNil))))) tNil)))) (gName 5))
  (tSeq (tAsg (tOp rCat (tVar 5) (tLst (tCons (tTup (tCons (tVar 1) (tCons (tOp oSub (tVar 2) (tC (.int 1))) (tCons (tVar 3) (tCons (tVar 4) tNil))))) (tCons (tTup (tCons (tOp oAdd (tVar 1) (tC (.int 1))) (tCons (tVar 2) (tCons (tVar 3) (tCons (tVar 4) tNil))))) (tCons (tTup (tCons (tOp oSub (tVar 1) (tC (.int 1))) (tCons (tVar 2) (tCons (tVar 3) (tCons (tVar 4) tNil))))) tNil))))) (gName 5))
  (tRet (tOp rCat (tVar 5) (tLst (tCons (tTup (tCons (tVar 1) (tCons (tVar 2) (tCons (tVar 3) (tCons (tOp oMul (tC (.int 2)) (tVar 4)) tNil))))) (tCons (tTup (tCons (tVar 1) (tCons (tVar 2) (tCons (tCB rMax2 (tCons (tC (.int 1)) (tCons (tOp oSub (tVar 2) (tC (.int 2))) tNil))) (tCons (tC (.int 1)) tNil))))) (tCons (tVar 0) tNil)))))))))
theorem pow_dbl {m : Int} (h : ∃ k : Nat, m = 2 ^ k) : ∃ k : Nat, 2 * m = 2 ^ k := by
  obtain ⟨k, rfl⟩ := h
  exact ⟨k + 1, by rw [Int.pow_succ]; omega⟩
theorem pure_near {K : PySem.W.Frag} {vs : List V} {H : Hp} {Q : VK} {E : XK} (h : sp_near vs H Q E) : t_l_near K { nx := fun _ H' => Q .non H', rt := Q } (start N_l_near vs) H := by
  obtain ⟨a, p, n, z, m, rfl, ha, hA, k⟩ := h
  have ha' : H a = some (.tup [.int p, .int n, .int z, .int m]) := ha
  obtain ⟨p1, p2, n1, n2, z1, z2, m1, m2⟩ := hA
  unfold t_l_near
  fold_lay
  rename_i q1 h1 q2 h2 q3 h3 l1 g1 q4 h4 q5 h5 q6 h6 l2 g2
  refine i_cat (by kct_strs) (by kct_strs) (by simp) fun l3 g3 => ?_
  fold_lay
  rename_i q7 h7 q8 h8 l4 g4
  refine i_cat (by kct_strs) (by kct_strs) (by simp) fun l5 g5 => ?_
  have s1 := same_new (o := .tup [.int p, .int n, .int (z + 1), .int m]) h1
  have s2 := s1.trans (same_new (o := .tup [.int p, .int n, .int (z - 1), .int m]) h2)
  have s3 := s2.trans (same_new (o := .tup [.int p, .int (n + 1), .int z, .int m]) h3)
  have s4 := s3.trans (same_new (o := .lst [.ref q1, .ref q2, .ref q3]) g1)
  have s5 := s4.trans (same_new (o := .tup [.int p, .int (n - 1), .int z, .int m]) h4)
  have s6 := s5.trans (same_new (o := .tup [.int (p + 1), .int n, .int z, .int m]) h5)
  have s7 := s6.trans (same_new (o := .tup [.int (p - 1), .int n, .int z, .int m]) h6)
  have s8 := s7.trans (same_new (o := .lst [.ref q4, .ref q5, .ref q6]) g2)
  have s9 := s8.trans (same_new (o := .lst ([.ref q1, .ref q2, .ref q3] ++ [.ref q4, .ref q5, .ref q6])) g3)
  have s10 := s9.trans (same_new (o := .tup [.int p, .int n, .int z, .int (2 * m)]) h7)
  have s11 := s10.trans (same_new (o := .tup [.int p, .int n, .int (if n - 2 > 1 then n - 2 else 1), .int 1]) h8)
  have s12 := s11.trans (same_new (o := .lst [.ref q7, .ref q8, .ref a]) g4)
  have s13 := s12.trans (same_new (o := .lst ([.ref q1, .ref q2, .ref q3] ++ [.ref q4, .ref q5, .ref q6] ++ [.ref q7, .ref q8, .ref a])) g5)
  refine k l5 _ _ upd_same (fun v hv => ?_) s13 (s12.free g5)
  simp only [List.mem_append, List.mem_cons, List.not_mem_nil, or_false] at hv
  rcases hv with ((rfl | rfl | rfl) | (rfl | rfl | rfl)) | (rfl | rfl | rfl)
  · exact ⟨q1, p, n, (z + 1), m, rfl, by kct_strs, ⟨by omega, by omega, by omega, by omega, by omega, by omega, m1⟩⟩
  · exact ⟨q2, p, n, (z - 1), m, rfl, by kct_strs, ⟨by omega, by omega, by omega, by omega, by omega, by omega, m1⟩⟩
  · exact ⟨q3, p, (n + 1), z, m, rfl, by kct_strs, ⟨by omega, by omega, by omega, by omega, by omega, by omega, m1⟩⟩
  · exact ⟨q4, p, (n - 1), z, m, rfl, by kct_strs, ⟨by omega, by omega, by omega, by omega, by omega, by omega, m1⟩⟩
  · exact ⟨q5, (p + 1), n, z, m, rfl, by kct_strs, ⟨by omega, by omega, by omega, by omega, by omega, by omega, m1⟩⟩
  · exact ⟨q6, (p - 1), n, z, m, rfl, by kct_strs, ⟨by omega, by omega, by omega, by omega, by omega, by omega, m1⟩⟩
  · exact ⟨q7, p, n, z, (2 * m), rfl, by kct_strs, ⟨by omega, by omega, by omega, by omega, by omega, by omega, pow_dbl m1⟩⟩
  · exact ⟨q8, p, n, (if n - 2 > 1 then n - 2 else 1), 1, rfl, by kct_strs, ⟨by omega, by omega, by omega, by omega, by split <;> omega, by split <;> omega, ⟨0, rfl⟩⟩⟩
  · exact ⟨a, p, n, z, m, rfl, s13 _ _ ha', ⟨by omega, by omega, by omega, by omega, by omega, by omega, m1⟩⟩
theorem pow2_le {j k : Nat} (h : j ≤ k) : (2 : Int) ^ j ≤ 2 ^ k := by
  have := Nat.pow_le_pow_right (n := 2) (by decide) h
  exact_mod_cast this
def sp_serves_ask : Sp := fun vs H Q _ => ∃ (d s : Addr), vs = [.ref d] ∧ Dr d s H ∧ ∀ a p n z m H', IntsAt H' a p n z m → H a = none → Ask0 p n z m → Dr d s H' → Same (hid s H) (hid s H') → Q (.ref a) H'
theorem c_serves_ask {d s : Addr} {H : Hp} {Q : VK} {E : XK} (hD : Dr d s H) (k : ∀ a p n z m H', IntsAt H' a p n z m → H a = none → Ask0 p n z m → Dr d s H' → Same (hid s H) (hid s H') → Q (.ref a) H') : sp_serves_ask [.ref d] H Q E := ⟨d, s, rfl, hD, k⟩
theorem dead {d s b : Addr} {H H1 : Hp} (h : Dr d s H1) (k : Same (hid s H) (hid s H1)) (e : H1 b = none) : H b = none := by
  cases q : H b with
  | none => rfl
  | some o =>
    obtain ⟨u, hu⟩ := alive h k b o q
    rw [hu] at e
    cases e
/-- a drawn item of a row that was just written -/
theorem i_pick {K : PySem.W.Frag} {H1 H2 : Hp} {Q : VK} {p s : Addr} {xs : List V} {i : Int} (hs : Same (hid s H1) (hid s H2)) (hp : H1 p = some (.lst xs)) (n : p ≠ s) (h0 : 0 ≤ i) (h1 : i < xs.length) (q : ∀ v ∈ xs, Q v H2) : rIxL K (.ref p) (.int i) H2 Q :=
  i_amongL (sqL (hid_same _ _ (hs _ _ (hid_to hp n)))) h0 h1 fun v hv => q v (List.mem_of_getElem? hv)
def N_l_serves_ask : List Str := ["_law_draws_here", "_law_p", "_law_n", "_law_size"]
def t_l_serves_ask (K : PySem.W.Frag) : TS := (tSeq (tAsg (tOp (rIxL K) (tLst (tCons (tC (.int 0)) (tCons (tCall sp_take [] E0 (tCons (tVar 0) (tCons (tC (.int 40)) tNil))) (tCons (tCall sp_number [] E0 (tCons (tVar 0) (tCons (tC (.int 0)) (tCons (tC (.int 16383)) tNil)))) tNil)))) (tCall sp_take [] E0 (tCons (tVar 0) (tCons (tC (.int 3)) tNil)))) (gName 1))
  (tSeq (tAsg (tCall sp_between [] E0 (tCons (tVar 0) (tCons (tC (.int 3)) (tCons (tC (.int 40)) tNil)))) (gName 2))
  (tSeq (tIfS (tTest (tOp rEq (tCall sp_take [] E0 (tCons (tVar 0) (tCons (tC (.int 24)) tNil))) (tC (.int 23)))) (tAsg (tCall sp_number [] E0 (tCons (tVar 0) (tCons (tC (.int 3)) (tCons (tC (.int 16384)) tNil)))) (gName 2)) tNext)
  (tSeq (tAsg (tOp (rIxL K) (tLst (tCons (tC (.int 1)) (tCons (tCB rMax2 (tCons (tC (.int 1)) (tCons (tOp oSub (tVar 2) (tC (.int 2))) tNil))) (tCons (tCall sp_between [] E0 (tCons (tVar 0) (tCons (tC (.int 1)) (tCons (tVar 2) tNil)))) (tCons (tCall sp_between [] E0 (tCons (tVar 0) (tCons (tC (.int 1)) (tCons (tVar 2) tNil)))) tNil))))) (tCall sp_take [] E0 (tCons (tVar 0) (tCons (tC (.int 4)) tNil)))) (gName 3))
  (tRet (tTup (tCons (tVar 1) (tCons (tVar 2) (tCons (tVar 3) (tCons (tOp (rIxL K) (tLst (tCons (tC (.int 1)) (tCons (tC (.int 2)) (tCons (tC (.int 4)) (tCons (tC (.int 8)) (tCons (tCall sp_alignment [] E0 (tCons (tVar 0) (tCons (tC (.int 12)) tNil))) tNil)))))) (tCall sp_take [] E0 (tCons (tVar 0) (tCons (tC (.int 5)) tNil)))) tNil))))))))))
theorem pure_serves_ask {K : PySem.W.Frag} {vs : List V} {H : Hp} {Q : VK} {E : XK} (h : sp_serves_ask vs H Q E) : t_l_serves_ask K { nx := fun _ H' => Q .non H', rt := Q } (start N_l_serves_ask vs) H := by
  obtain ⟨d, s, rfl, hD, k⟩ := h
  unfold t_l_serves_ask
  fold_lay
  refine c_take hD (by omega) fun x1 H1 x10 x11 hD1 s1 => ?_
  fold_lay
  refine c_number hD1 (by omega) (by omega) fun x2 H2 x20 x21 hD2 s2 => ?_
  fold_lay
  rename_i l1 g1
  refine c_take (hD2.same (same_new g1)) (by omega) fun i1 H3 i10 i11 hD3 s3 => ?_
  refine i_pick s3 upd_same (hD2.ne g1) i10 (by show i1 < 3; omega) fun pv hpv => ?_
  obtain ⟨p, rfl, p1, p2⟩ : ∃ p, pv = .int p ∧ 0 ≤ p ∧ p ≤ 16383 := by
    simp only [List.mem_cons, List.not_mem_nil, or_false] at hpv
    rcases hpv with rfl | rfl | rfl
    · exact ⟨_, rfl, by omega, by omega⟩
    · exact ⟨_, rfl, by omega, by omega⟩
    · exact ⟨_, rfl, by omega, by omega⟩
  have st3 : Same (hid s H) (hid s H3) := ((s1.trans s2).trans (hid_mono (same_new g1))).trans s3
  fold_lay
  refine c_between hD3 (by omega) fun n0 H4 n00 n01 hD4 s4 => ?_
  fold_lay
  refine i_cut (fun σ' H' => ∃ n, 3 ≤ n ∧ n ≤ 16384 ∧ σ' = [some (.ref d), some (.int p), some (.int n), none] ∧ Dr d s H' ∧ Same (hid s H) (hid s H')) ?_ (fun nx key => ?_)
  rotate_left
  · fold_lay
    refine c_take hD4 (by omega) fun i2 H5 i20 i21 hD5 s5 => ?_
    fold_lay
    refine i_ifd (fun h1 => ?_) (fun h1 => ?_)
    · fold_lay
      refine c_number hD5 (by omega) (by omega) fun n1 H6 n10 n11 hD6 s6 => ?_
      fold_lay
      exact key _ _ ⟨n1, n10, n11, rfl, hD6, ((st3.trans s4).trans s5).trans s6⟩
    · fold_lay
      exact key _ _ ⟨n0, n00, by omega, rfl, hD5, (st3.trans s4).trans s5⟩
  · rintro σ' H6 ⟨n, n1, n2, rfl, hD6, s6⟩
    fold_lay
    refine c_between hD6 (by omega) fun z1 H7 z10 z11 hD7 s7 => ?_
    fold_lay
    refine c_between hD7 (by omega) fun z2 H8 z20 z21 hD8 s8 => ?_
    fold_lay
    rename_i l2 g2
    refine c_take (hD8.same (same_new g2)) (by omega) fun i3 H9 i30 i31 hD9 s9 => ?_
    refine i_pick s9 upd_same (hD8.ne g2) i30 (by show i3 < 4; omega) fun zv hzv => ?_
    obtain ⟨z, rfl, za, zb⟩ : ∃ z, zv = .int z ∧ 1 ≤ z ∧ z ≤ n := by
      simp only [List.mem_cons, List.not_mem_nil, or_false] at hzv
      rcases hzv with rfl | rfl | rfl | rfl
      · exact ⟨_, rfl, by omega, by omega⟩
      · exact ⟨_, rfl, by split <;> omega, by split <;> omega⟩
      · exact ⟨_, rfl, by omega, by omega⟩
      · exact ⟨_, rfl, by omega, by omega⟩
    have st9 : Same (hid s H) (hid s H9) := (((s6.trans s7).trans s8).trans (hid_mono (same_new g2))).trans s9
    fold_lay
    refine c_alignment hD9 (by omega) (by omega) fun j H10 j1 hD10 s10 => ?_
    fold_lay
    rename_i l3 g3
    refine c_take (hD10.same (same_new g3)) (by omega) fun i4 H11 i40 i41 hD11 s11 => ?_
    refine i_pick s11 upd_same (hD10.ne g3) i40 (by show i4 < 5; omega) fun mv hmv => ?_
    obtain ⟨m, rfl, ma, mb⟩ : ∃ m, mv = .int m ∧ (∃ k : Nat, m = 2 ^ k) ∧ m ≤ 4096 := by
      simp only [List.mem_cons, List.not_mem_nil, or_false] at hmv
      rcases hmv with rfl | rfl | rfl | rfl | rfl
      · exact ⟨_, rfl, ⟨0, rfl⟩, by omega⟩
      · exact ⟨_, rfl, ⟨1, rfl⟩, by omega⟩
      · exact ⟨_, rfl, ⟨2, rfl⟩, by omega⟩
      · exact ⟨_, rfl, ⟨3, rfl⟩, by omega⟩
      · refine ⟨_, rfl, ⟨j, rfl⟩, ?_⟩
        have h1 : (2 : Int) ^ j ≤ 2 ^ 12 := pow2_le (by omega)
        exact Int.le_trans h1 (by decide)
    have st11 : Same (hid s H) (hid s H11) := ((st9.trans s10).trans (hid_mono (same_new g3))).trans s11
    fold_lay
    rename_i l4 g4
    exact k l4 p n z m _ upd_same (dead hD11 st11 g4) ⟨p1, p2, n1, n2, za, zb, ma, mb⟩ (hD11.same (same_new g4)) (st11.trans (hid_mono (same_new g4)))
/-! ## K46e -/
/-! ### refuses -/
def gd : Nat → V → Bool
  | 0, v => vR 0 16383 v
  | 1, v => vR 3 16384 v
  | 2, v => vR 1 16384 v
  | _, v => vA 4096 v
def nm46 : Nat → Str
  | 0 => "p"
  | 1 => "n"
  | 2 => "size"
  | _ => "align"
/-- the places below L are right, the one at L is wrong -/
def Low (L : Nat) (xs : List V) : Prop := (∀ j, j < L → j < 4 → gd j (xs.getD j .non) = true) ∧ (L < 4 → gd L (xs.getD L .non) = false)
theorem getD_set {xs : List V} {a j : Nat} {v : V} (ha : a < xs.length) : (xs.set a v).getD j .non = if a = j then v else xs.getD j .non := by
  rw [List.getD_eq_getElem?_getD, List.getElem?_set, List.getD_eq_getElem?_getD]
  split
  · rename_i h
    subst h
    simp
  · rfl
theorem Low.set {L a : Nat} {xs : List V} {v : V} (h : Low L xs) (hl : xs.length = 4) (ha : a < 4) (hv : gd a v = false) : Low (min L a) (xs.set a v) := by
  obtain ⟨h1, h2⟩ := h
  refine ⟨fun j hj hj4 => ?_, fun hm => ?_⟩
  · rw [getD_set (by omega), if_neg (by omega)]
    exact h1 j (by omega) hj4
  · rw [getD_set (by omega)]
    by_cases e : a ≤ L
    · have e2 : min L a = a := by omega
      rw [e2, if_pos rfl]
      exact hv
    · have e2 : min L a = L := by omega
      rw [e2, if_neg (by omega)]
      exact h2 (by omega)
theorem Low.bad {L : Nat} {v0 v1 v2 v3 : V} (h : Low L [v0, v1, v2, v3]) (hL : L < 4) : bad46 v0 v1 v2 v3 = some (nm46 L) := by
  obtain ⟨h1, h2⟩ := h
  have h2 := h2 hL
  match L, hL with
  | 0, _ =>
    have h2 : vR 0 16383 v0 = false := h2
    simp [bad46, h2, nm46]
  | 1, _ =>
    have a0 : vR 0 16383 v0 = true := h1 0 (by omega) (by omega)
    have h2 : vR 3 16384 v1 = false := h2
    simp [bad46, a0, h2, nm46]
  | 2, _ =>
    have a0 : vR 0 16383 v0 = true := h1 0 (by omega) (by omega)
    have a1 : vR 3 16384 v1 = true := h1 1 (by omega) (by omega)
    have h2 : vR 1 16384 v2 = false := h2
    simp [bad46, a0, a1, h2, nm46]
  | 3, _ =>
    have a0 : vR 0 16383 v0 = true := h1 0 (by omega) (by omega)
    have a1 : vR 3 16384 v1 = true := h1 1 (by omega) (by omega)
    have a2 : vR 1 16384 v2 = true := h1 2 (by omega) (by omega)
    have h2 : vA 4096 v3 = false := h2
    simp [bad46, a0, a1, a2, h2, nm46]
theorem gd_in {H : Hp} {v : V} {dt : Dt} {lo hi : Int} (h : At H v dt) (hn : ¬ dt.inR lo hi) : vR lo hi v = false := by
  cases h <;> first | rfl | (simp only [vR]; rw [← Bool.not_eq_true]; intro q; simp at q; exact hn ⟨q.1, q.2⟩)
theorem gd_al {H : Hp} {v : V} {dt : Dt} {m : Int} (h : At H v dt) (hn : ¬ dt.isAl m) : vA m v = false := by
  cases h <;> first | rfl | (rw [← Bool.not_eq_true]; intro q; exact hn (vA_iff.mp q))
theorem hid2_upd {r s : Addr} {H : Hp} {o : HO} (n : r ≠ s) : hid r (hid s (upd H r o)) = hid r (hid s H) := by
  funext b
  unfold hid
  by_cases h : b = r
  · rw [if_pos h, if_pos h]
  · rw [if_neg h, if_neg h, upd_ne h]
/-- an object that is new since G may change: the draws stand -/
theorem Dr.upd {d s r : Addr} {G H : Hp} {o : HO} (hG : Dr d s G) (hr : G r = none) (sm : Same (hid s G) (hid s H)) (hD : Dr d s H) : Dr d s (L2.upd H r o) := by
  obtain ⟨c0, cs0, p0, b0, q0, t0, e0, g1, g2, g3, g4, g5, g6⟩ := hG
  obtain ⟨c, cs, p, b, q, t, e, h1, h2, h3, h4, h5, h6⟩ := hD
  have k1 := (hid_of (sm _ _ (hid_to g1 g4))).1
  rw [h1] at k1
  have ec : c = c0 := by
    have z := Option.some.inj k1
    injection z with z
    injection z with z1 z2
    injection z1
  subst ec
  exact ⟨c, cs, p, b, q, t, e, upd_off (ne_of_none g1 hr) h1, upd_off (ne_of_none g2 hr) h2, upd_off (ne_of_none g3 hr) h3, h4, h5, h6⟩
/-- what stands in the row while it is spoilt -/
structure Row46 (d s r : Addr) (G : Hp) (L : Nat) (H : Hp) (xs : List V) : Prop where
  dr : Dr d s H
  ro : H r = some (.lst xs)
  le : xs.length = 4
  lo : Low L xs
  ty : ∀ v ∈ xs, ∃ n, Ty0 (hid r (hid s H)) v n
  sm : Same (hid s G) (hid s H)
theorem Row46.grow {d s r : Addr} {G H H' : Hp} {L : Nat} {xs : List V} (R : Row46 d s r G L H xs) (n : r ≠ s) (hD : Dr d s H') (k : Same (hid s H) (hid s H')) : Row46 d s r G L H' xs :=
  ⟨hD, hid_same _ _ (k _ _ (hid_to R.ro n)), R.le, R.lo, fun v hv => by
    obtain ⟨m, hm⟩ := R.ty v hv
    exact ⟨m, hm.mono (hid_mono k)⟩, R.sm.trans k⟩
theorem nw_hid2 {d s r : Addr} {H H' : Hp} {o : HO} (h : Dr d s H) (hr : H r = some o) : Same (nw H H') (hid r (hid s H')) := fun b u e => by
  obtain ⟨e1, e2⟩ := nw_of e
  refine hid_to (hid_to e2 (h.ne e1)) fun z => ?_
  rw [z, hr] at e1
  cases e1
theorem Row46.put {d s r : Addr} {G H H' : Hp} {L a : Nat} {xs : List V} {v : V} {dt : Dt} (R : Row46 d s r G L H xs) (n : r ≠ s) (hDG : Dr d s G) (hG : G r = none) (hD : Dr d s H') (k : Same (hid s H) (hid s H')) (hv : At (nw H H') v dt) (ha : a < 4) (hg : gd a v = false) :
    Row46 d s r G (min L a) (upd H' r (.lst (xs.set a v))) (xs.set a v) := by
  have R' := R.grow n hD k
  refine ⟨?_, upd_same, by rw [List.length_set]; exact R.le, R.lo.set R.le ha hg, fun w hw => ?_, fun b o e => ?_⟩
  · exact hDG.upd hG R'.sm R'.dr
  · rw [hid2_upd n]
    rcases List.mem_or_eq_of_mem_set hw with h | h
    · exact R'.ty w h
    · subst h
      exact ⟨_, (hv.mono (nw_hid2 R.dr R.ro)).ty⟩
  · have e1 := R'.sm b o e
    obtain ⟨e2, e3⟩ := hid_of e
    obtain ⟨e4, e5⟩ := hid_of e1
    refine hid_to (upd_off (fun z => ?_) e4) e5
    rw [z, hG] at e2
    cases e2

def sp_refuses46 (K : PySem.W.Frag) (c : Cl) : Sp := fun vs H Q _ => ∃ (d s : Addr), vs = [.ref d] ∧ Dr d s H ∧ RfC K c ∧ ∀ H', Dr d s H' → Same (hid s H) (hid s H') → Q (.bl true) H'
theorem i_listT {K : PySem.W.Frag} {H : Hp} {Q : VK} {p : Addr} {ys : List V} (h : H p = some (.tup ys)) (q : ∀ l, H l = none → Q (.ref l) (upd H l (.lst ys))) : rListOf K [.ref p] H Q := ⟨p, ys, rfl, .inr (sqT h), q⟩
theorem dep_ref (s : Str) : (refD s).dep ≤ 4 := by
  simp [refD, Dt.dep, Dt.depL]
theorem flat_ref (s : Str) : (refD s).flat = true := by
  simp [refD, Dt.flat, Dt.flatL]
def N_l_refuses : List Str := ["_law_draws_here", "_law_row", "_law_least", "_law_k", "_law_at"]
def t_l_refuses (K : PySem.W.Frag) (c : Cl) : TS := (tSeq (tAsg (tCB (rListOf K) (tCons (tCall sp_serves_ask [] E0 (tCons (tVar 0) tNil)) tNil)) (gName 1))
  (tSeq (tAsg (tC (.int 4)) (gName 2))
  (tSeq (tFor (iRng1 (tCons (tOp oAdd (tC (.int 1)) (tCall sp_take [] E0 (tCons (tVar 0) (tCons (tC (.int 2)) tNil)))) tNil)) (gName 3) (tSeq (tAsg (tCall sp_take [] E0 (tCons (tVar 0) (tCons (tC (.int 4)) tNil))) (gName 4))
  (tSeq (tAsg (tCB rMin2 (tCons (tVar 2) (tCons (tVar 4) tNil))) (gName 2))
  (tIfS (tTest (tOp rEq (tVar 4) (tC (.int 3)))) (tAsg (tCall sp_not_alignment [] E0 (tCons (tVar 0) (tCons (tC (.int 4096)) tNil))) (gSub (tVar 1) (tVar 4) rSetL)) (tAsg (tCall sp_not_within [] E0 (tCons (tVar 0) (tCons (tOp (rIxL K) (tLst (tCons (tC (.int 0)) (tCons (tC (.int 3)) (tCons (tC (.int 1)) tNil)))) (tVar 4)) (tCons (tOp (rIxL K) (tLst (tCons (tC (.int 16383)) (tCons (tC (.int 16384)) (tCons (tC (.int 16384)) tNil)))) (tVar 4)) tNil)))) (gSub (tVar 1) (tVar 4) rSetL))))))
  (tRet (tCall (sp_alike 5) [] E0 (tCons (tCall (sp_asked46 K c) [] E0 (tCons (tVar 1) tNil)) (tCons (tCall sp_refused46 [] E0 (tCons (tC (.str "BadValue")) (tCons (tTup (tCons (tOp (rIxL K) (tLst (tCons (tC (.str "p")) (tCons (tC (.str "n")) (tCons (tC (.str "size")) (tCons (tC (.str "align")) tNil))))) (tVar 2)) tNil)) tNil))) tNil)))))))
theorem pure_refuses {K : PySem.W.Frag} {c : Cl} {vs : List V} {H : Hp} {Q : VK} {E : XK} (h : sp_refuses46 K c vs H Q E) : t_l_refuses K c { nx := fun _ H' => Q .non H', rt := Q } (start N_l_refuses vs) H := by
  obtain ⟨d, s, rfl, hD, RF, k⟩ := h
  unfold t_l_refuses
  fold_lay
  refine c_serves_ask hD fun a p n z m H1 ha han hA hD1 s1 => ?_
  fold_lay
  refine i_listT ha fun r hr => ?_
  fold_lay; fold_depth
  have nr : r ≠ s := hD1.ne hr
  have hD2 := hD1.same (same_new (o := .lst [.int p, .int n, .int z, .int m]) hr)
  have R0 : Row46 d s r H1 4 (upd H1 r (.lst [.int p, .int n, .int z, .int m])) [.int p, .int n, .int z, .int m] := by
    refine ⟨hD2, upd_same, rfl, ⟨fun j h1 h2 => ?_, fun q => by omega⟩, fun v hv => ?_, hid_mono (same_new hr)⟩
    · match j, h2 with
      | 0, _ => exact vR_yes hA.p1 hA.p2
      | 1, _ => exact vR_yes hA.n1 hA.n2
      | 2, _ =>
        have := hA.z2
        have := hA.n2
        exact vR_yes hA.z1 (by omega)
      | 3, _ => exact vA_yes hA.m1 hA.m2
    · simp only [List.mem_cons, List.not_mem_nil, or_false] at hv
      rcases hv with rfl | rfl | rfl | rfl <;> exact ⟨_, .int _⟩
  refine c_take hD2 (by omega) fun t H3 t0 t1 hD3 s3 => ?_
  fold_lay
  have R3 := R0.grow nr hD3 s3
  refine f_rng1 (by omega) (by omega) (l_rng (fun i σ H' => ∃ (L : Nat) (xs : List V) (x y : Option V), L ≤ 4 ∧ (0 < i → L < 4) ∧ Row46 d s r H1 L H' xs ∧ σ = [some (.ref d), some (.ref r), some (.int L), x, y]) ⟨4, _, none, none, by omega, by omega, R3, rfl⟩ ?_ ?_)
  · rintro i σ H4 hi ⟨L, xs, x, y, L4, Li, R4, rfl⟩
    have d4 := R4.dr
    fold_lay
    refine c_take d4 (by omega) fun v H5 v0 v1 hD5 s5 => ?_
    have R5 := R4.grow nr hD5 s5
    have d5 := R5.dr
    fold_lay
    have fin : ∀ (j : Nat) (H6 H7 : Hp) (w : V) (dt : Dt), v = (j : Int) → j < 4 → Same H5 H6 → Dr d s H7 → Same (hid s H6) (hid s H7) → At (nw H6 H7) w dt → gd j w = false →
        ∃ (L' : Nat) (xs' : List V) (x y : Option V), L' ≤ 4 ∧ (0 < i + 1 → L' < 4) ∧ Row46 d s r H1 L' (upd H7 r (.lst (xs.set j w))) xs' ∧ ([some (.ref d), some (.ref r), some (.int (if v < (L : Int) then v else L)), some (.int (0 + (i : Int))), some (.int v)] : St) = [some (.ref d), some (.ref r), some (.int L'), x, y] := fun j H6 H7 w dt hj j4 k1 k2 k3 hw hg => by
      have R6 := R5.grow nr (hD5.same k1) (hid_mono k1)
      refine ⟨min L j, _, some (.int (0 + (i : Int))), some (.int v), by omega, by omega, R6.put nr hD1 hr k2 k3 hw j4 hg, ?_⟩
      have e : (if v < (L : Int) then v else (L : Int)) = ((min L j : Nat) : Int) := by
        split <;> omega
      rw [e]
    have hv : v = 0 ∨ v = 1 ∨ v = 2 ∨ v = 3 := by omega
    rcases hv with rfl | rfl | rfl | rfl
    · refine i_no (by omega) ?_
      fold_lay
      rename_i q1 g1 q2 g2
      refine c_not_within ((hD5.same (same_new g1)).same (same_new g2)) (by omega) (by omega) (by omega) fun w dt H7 hw hn _ hD7 s7 => ?_
      have k1 := (same_new (o := .lst [.int 0, .int 3, .int 1]) g1).trans (same_new (o := .lst [.int 16383, .int 16384, .int 16384]) g2)
      have r7 := (hid_of (s7 _ _ (hid_to (k1 _ _ R5.ro) nr))).1
      fold_lay
      refine i_setL r7 (by rw [R5.le]; rfl) ?_
      exact fin 0 _ H7 w dt rfl (by omega) k1 hD7 s7 hw (gd_in hw hn)
    · refine i_no (by omega) ?_
      fold_lay
      rename_i q1 g1 q2 g2
      refine c_not_within ((hD5.same (same_new g1)).same (same_new g2)) (by omega) (by omega) (by omega) fun w dt H7 hw hn _ hD7 s7 => ?_
      have k1 := (same_new (o := .lst [.int 0, .int 3, .int 1]) g1).trans (same_new (o := .lst [.int 16383, .int 16384, .int 16384]) g2)
      have r7 := (hid_of (s7 _ _ (hid_to (k1 _ _ R5.ro) nr))).1
      fold_lay
      refine i_setL r7 (by rw [R5.le]; rfl) ?_
      exact fin 1 _ H7 w dt rfl (by omega) k1 hD7 s7 hw (gd_in hw hn)
    · refine i_no (by omega) ?_
      fold_lay
      rename_i q1 g1 q2 g2
      refine c_not_within ((hD5.same (same_new g1)).same (same_new g2)) (by omega) (by omega) (by omega) fun w dt H7 hw hn _ hD7 s7 => ?_
      have k1 := (same_new (o := .lst [.int 0, .int 3, .int 1]) g1).trans (same_new (o := .lst [.int 16383, .int 16384, .int 16384]) g2)
      have r7 := (hid_of (s7 _ _ (hid_to (k1 _ _ R5.ro) nr))).1
      fold_lay
      refine i_setL r7 (by rw [R5.le]; rfl) ?_
      exact fin 2 _ H7 w dt rfl (by omega) k1 hD7 s7 hw (gd_in hw hn)
    · refine i_yes rfl ?_
      fold_lay
      refine c_not_alignment hD5 (by omega) (by omega) fun w dt H7 hw hn _ hD7 s7 => ?_
      have r7 := (hid_of (s7 _ _ (hid_to R5.ro nr))).1
      fold_lay
      refine i_setL r7 (by rw [R5.le]; rfl) ?_
      exact fin 3 _ H7 w dt rfl (by omega) (Same.refl _) hD7 s7 hw (gd_al hw hn)
  · rintro σ H4 ⟨L, xs, x, y, L4, Li, R4, rfl⟩
    have hL : L < 4 := Li (by omega)
    obtain ⟨d4, r4, l4, lo4, ty4, sm4⟩ := R4
    match xs, l4 with
    | [v0, v1, v2, v3], _ =>
      have hty : ∀ v ∈ [v0, v1, v2, v3], ∃ n, Ty0 H4 v n := fun v hv => by
        obtain ⟨n, hn⟩ := ty4 v hv
        exact ⟨n, hn.mono (hid_same.trans hid_same)⟩
      obtain ⟨n0, y0⟩ := hty v0 (by simp)
      obtain ⟨n1, y1⟩ := hty v1 (by simp)
      obtain ⟨n2, y2⟩ := hty v2 (by simp)
      obtain ⟨n3, y3⟩ := hty v3 (by simp)
      have hb := lo4.bad hL
      fold_lay
      refine ⟨r, v0, v1, v2, v3, n0, n1, n2, n3, rfl, .inr r4, y0, y1, y2, y3, RF, fun s' hs' v H5 hv k5 => ?_, fun q => by rw [hb] at q; cases q⟩
      rw [hb] at hs'
      cases hs'
      fold_lay
      rename_i q1 g1
      have hx : ([.str "p", .str "n", .str "size", .str "align"] : List V)[(L : Int).toNat]? = some (.str (nm46 L)) := by
        match L, hL with
        | 0, _ => rfl
        | 1, _ => rfl
        | 2, _ => rfl
        | 3, _ => rfl
      refine i_ixL (sqL upd_same) (at_of (j := (L : Int).toNat) (by omega) hx) ?_
      fold_lay
      rename_i q2 g2
      refine c_refused46 (fd := .tup [.str (nm46 L)]) (.tup upd_same (.cons (.str _) .nil)) fun w H6 hw k6 => ?_
      have k7 := ((same_new (o := .lst [.str "p", .str "n", .str "size", .str "align"]) g1).trans (same_new (o := .tup [.str (nm46 L)]) g2)).trans k6
      refine c_alike (E := E0) (hv.mono k7) hw (dep_ref _) (flat_ref _) fun H8 k8 => ?_
      have k9 := (k5.trans k7).trans k8
      exact k H8 (d4.same k9) ((s1.trans sm4).trans (hid_mono k9))

theorem c_asked46 {K : PySem.W.Frag} {c : Cl} {H : Hp} {Q : VK} {E : XK} {a : Addr} {p n z m : Int} (ha : IntsAt H a p n z m) (R : RfC K c) (k : ∀ v H', At H' v (resD p n z m) → Same H H' → Q v H') : sp_asked46 K c [.ref a] H Q E := by
  unfold resD at k
  refine ⟨a, _, _, _, _, _, _, _, _, rfl, .inl ha, .int p, .int n, .int z, .int m, R, fun s hs v H' hv h2 => ?_, fun hn p' n' z' m' e1 e2 e3 e4 v H' hv h2 => ?_⟩
  · rw [hs] at k
    exact k v H' hv h2
  · rw [hn] at k
    injection e1 with e1
    injection e2 with e2
    injection e3 with e3
    injection e4 with e4
    subst e1 e2 e3 e4
    exact k v H' hv h2
theorem c_due46 {H : Hp} {Q : VK} {E : XK} {a : Addr} {p n z m : Int} (ha : IntsAt H a p n z m) (A : Ask p n z m) (k : ∀ v H', At H' v (resD p n z m) → Same H H' → Q v H') : sp_due46 [.ref a] H Q E := ⟨a, p, n, z, m, rfl, ha, A.m1, A.p1, A.p2, A.n1, A.n2, A.z1, A.z2, k⟩
theorem c_refuses46 {K : PySem.W.Frag} {c : Cl} {H : Hp} {Q : VK} {E : XK} {d s : Addr} (hD : Dr d s H) (R : RfC K c) (k : ∀ H', Dr d s H' → Same (hid s H) (hid s H') → Q (.bl true) H') : sp_refuses46 K c [.ref d] H Q E := ⟨d, s, rfl, hD, R, k⟩
theorem dep_res (p n z m : Int) : (resD p n z m).dep ≤ 4 ∧ (resD p n z m).flat = true := by
  unfold resD
  split
  · exact ⟨dep_ref _, flat_ref _⟩
  · constructor
    · cases srv p n z m <;> simp [odt, Dt.dep, Dt.depL]
    · cases srv p n z m <;> simp [odt, Dt.flat, Dt.flatL]
def sp_law46 (K : PySem.W.Frag) (c : Cl) : Sp := fun vs H Q _ => ∃ (a : Addr) (ns : List Int), vs = [.ref a] ∧ SqL K H a (ns.map V.int) ∧ ns.length ≤ 63 ∧ RfC K c ∧ ∀ H', Q (.bl true) H'
def N_l_law : List Str := ["_law_script", "_law_draws_here", "_law_k", "_law_ask", "_law_one"]
def t_l_law (K : PySem.W.Frag) (c : Cl) : TS := (tSeq (tAsg (tCall (sp_draws K) [] E0 (tCons (tVar 0) tNil)) (gName 1))
  (tSeq (tFor (iRng1 (tCons (tOp oAdd (tCall sp_count [] E0 (tCons (tVar 1) (tCons (tC (.int 6)) (tCons (tC (.int 11)) tNil)))) (tC (.int 1))) tNil)) (gName 2) (tSeq (tAsg (tCall sp_serves_ask [] E0 (tCons (tVar 1) tNil)) (gName 3))
  (tSeq (tFor (iList K (tCall sp_near [] E0 (tCons (tVar 3) tNil))) (gName 4) (tIfS (tNot (tB (tCall (sp_alike 5) [] E0 (tCons (tCall (sp_asked46 K c) [] E0 (tCons (tVar 4) tNil)) (tCons (tCall sp_due46 [] E0 (tCons (tVar 4) tNil)) tNil))))) (tRet (tC (.bl false))) tNext))
  (tIfS (tNot (tB (tCall (sp_refuses46 K c) [] E0 (tCons (tVar 1) tNil)))) (tRet (tC (.bl false))) tNext))))
  (tRet (tC (.bl true)))))
theorem pure_law46 {K : PySem.W.Frag} {c : Cl} {vs : List V} {H : Hp} {Q : VK} {E : XK} (h : sp_law46 K c vs H Q E) : t_l_law K c { nx := fun _ H' => Q .non H', rt := Q } (start N_l_law vs) H := by
  obtain ⟨a, ns, rfl, ha, hl, RF, k⟩ := h
  unfold t_l_law
  fold_lay
  refine ⟨a, ns, rfl, ha, by omega, fun d s H1 hD1 k1 _ _ => ?_⟩
  fold_lay; fold_depth
  refine c_count hD1 (by omega) (by omega) (by omega) fun t H2 t0 t1 hD2 s2 => ?_
  fold_lay
  refine f_rng1 (by omega) (by omega) (l_rng (fun i σ H' => ∃ (x y z : Option V), Dr d s H' ∧ σ = [some (.ref a), some (.ref d), x, y, z]) ⟨none, none, none, hD2, rfl⟩ ?_ ?_)
  · rintro i σ H3 hi ⟨x, y, z, hD3, rfl⟩
    fold_lay
    refine c_serves_ask hD3 fun b p n w m H4 hb _ hA hD4 s4 => ?_
    fold_lay; fold_depth
    refine ⟨b, p, n, w, m, rfl, hb, hA, fun l ws H5 hl5 hws s5 _ => ?_⟩
    refine f_lst (sqL hl5) (l_lst (xs := ws) (fun j σ H' => ∃ (u : Option V), Same H5 H' ∧ σ = [some (.ref a), some (.ref d), some (.int (0 + (i : Int))), some (.ref b), u]) ⟨z, Same.refl _, rfl⟩ (fun j σ H' _ h => sqL (by obtain ⟨_, h, _⟩ := h; exact h _ _ hl5)) ?_ ?_)
    · rintro j o σ H6 ho ⟨u, s6, rfl⟩
      obtain ⟨q, p', n', z', m', rfl, hq, A⟩ := hws o (List.mem_of_getElem? ho)
      have hq6 : IntsAt H6 q p' n' z' m' := s6 _ _ hq
      fold_lay
      refine c_asked46 hq6 RF fun v H7 hv s7 => ?_
      fold_lay
      refine c_due46 (s7 _ _ hq6) A fun v' H8 hv' s8 => ?_
      fold_lay
      have D := dep_res p' n' z' m'
      refine c_alike (E := E0) (hv.mono s8) hv' D.1 D.2 fun H9 s9 => ?_
      fold_lay
      exact ⟨_, ((s6.trans s7).trans s8).trans s9, rfl⟩
    · rintro σ H6 ⟨u, s6, rfl⟩
      have hD6 := hD4.same (s5.trans s6)
      fold_lay
      refine c_refuses46 hD6 RF fun H7 hD7 s7 => ?_
      fold_lay
      exact ⟨_, _, _, hD7, rfl⟩
  · rintro σ H3 ⟨x, y, z, hD3, rfl⟩
    fold_lay
    exact k H3
end Gv
namespace K46
open PySem L2 Gv PySem.Spec PyProof.Rows
def top (i : Nat) : Stmt := PySem.Challenge.pw_allgivenback_k46_serves.main.body.getD i (.Pass ⟨0, 0, 0, 0⟩)
abbrev s_c_BadValue_init : Stmt := inClass (top 2) 0
theorem sc_c_BadValue_init : FnScope N_c_BadValue_init ["self", "parameter"] (defScope s_c_BadValue_init) := ⟨rfl, rfl, rfl, by decide +kernel, rfl, by decide +kernel, by decide +kernel⟩
abbrev s_p_is_whole : Stmt := top 10
theorem sc_p_is_whole : FnScope N_p_is_whole ["value"] (defScope s_p_is_whole) := ⟨rfl, rfl, rfl, by decide +kernel, rfl, by decide +kernel, by decide +kernel⟩
abbrev s_p_whole_between : Stmt := top 11
theorem sc_p_whole_between : FnScope N_p_whole_between ["value", "low", "high"] (defScope s_p_whole_between) := ⟨rfl, rfl, rfl, by decide +kernel, rfl, by decide +kernel, by decide +kernel⟩
abbrev s_p_is_power : Stmt := top 15
theorem sc_p_is_power : FnScope N_p_is_power ["value"] (defScope s_p_is_power) := ⟨rfl, rfl, rfl, by decide +kernel, rfl, by decide +kernel, by decide +kernel⟩
abbrev s_p_is_align : Stmt := top 16
theorem sc_p_is_align : FnScope N_p_is_align ["value", "most"] (defScope s_p_is_align) := ⟨rfl, rfl, rfl, by decide +kernel, rfl, by decide +kernel, by decide +kernel⟩
abbrev s_p_align_up : Stmt := top 17
theorem sc_p_align_up : FnScope N_p_align_up ["number", "align"] (defScope s_p_align_up) := ⟨rfl, rfl, rfl, by decide +kernel, rfl, by decide +kernel, by decide +kernel⟩
abbrev s_p_check_number : Stmt := top 22
theorem sc_p_check_number : FnScope N_p_check_number ["value", "low", "high", "parameter"] (defScope s_p_check_number) := ⟨rfl, rfl, rfl, by decide +kernel, rfl, by decide +kernel, by decide +kernel⟩
abbrev s_p_check_align : Stmt := top 23
theorem sc_p_check_align : FnScope N_p_check_align ["value"] (defScope s_p_check_align) := ⟨rfl, rfl, rfl, by decide +kernel, rfl, by decide +kernel, by decide +kernel⟩
abbrev s_p_serving_place : Stmt := top 24
theorem sc_p_serving_place : FnScope N_p_serving_place ["place", "count", "size", "align"] (defScope s_p_serving_place) := ⟨rfl, rfl, rfl, by decide +kernel, rfl, by decide +kernel, by decide +kernel⟩
abbrev s_p_serves : Stmt := top 25
theorem sc_p_serves : FnScope N_p_serves ["p", "n", "size", "align"] (defScope s_p_serves) := ⟨rfl, rfl, rfl, by decide +kernel, rfl, by decide +kernel, by decide +kernel⟩
abbrev s_l_draws : Stmt := top 27
theorem sc_l_draws : FnScope N_l_draws ["_law_script"] (defScope s_l_draws) := ⟨rfl, rfl, rfl, by decide +kernel, rfl, by decide +kernel, by decide +kernel⟩
abbrev s_l_next_cell : Stmt := top 28
theorem sc_l_next_cell : FnScope N_l_next_cell ["_law_draws_here"] (defScope s_l_next_cell) := ⟨rfl, rfl, rfl, by decide +kernel, rfl, by decide +kernel, by decide +kernel⟩
abbrev s_l_mixed : Stmt := top 29
theorem sc_l_mixed : FnScope N_l_mixed ["_law_seed", "_law_turn", "_law_many"] (defScope s_l_mixed) := ⟨rfl, rfl, rfl, by decide +kernel, rfl, by decide +kernel, by decide +kernel⟩
abbrev s_l_take : Stmt := top 30
theorem sc_l_take : FnScope N_l_take ["_law_draws_here", "_law_many"] (defScope s_l_take) := ⟨rfl, rfl, rfl, by decide +kernel, rfl, by decide +kernel, by decide +kernel⟩
abbrev s_l_among : Stmt := top 31
theorem sc_l_among : FnScope N_l_among ["_law_draws_here", "_law_row"] (defScope s_l_among) := ⟨rfl, rfl, rfl, by decide +kernel, rfl, by decide +kernel, by decide +kernel⟩
abbrev s_l_between : Stmt := top 32
theorem sc_l_between : FnScope N_l_between ["_law_draws_here", "_law_low", "_law_high"] (defScope s_l_between) := ⟨rfl, rfl, rfl, by decide +kernel, rfl, by decide +kernel, by decide +kernel⟩
abbrev s_l_number : Stmt := top 33
theorem sc_l_number : FnScope N_l_number ["_law_draws_here", "_law_low", "_law_high"] (defScope s_l_number) := ⟨rfl, rfl, rfl, by decide +kernel, rfl, by decide +kernel, by decide +kernel⟩
abbrev s_l_count : Stmt := top 34
theorem sc_l_count : FnScope N_l_count ["_law_draws_here", "_law_small", "_law_great"] (defScope s_l_count) := ⟨rfl, rfl, rfl, by decide +kernel, rfl, by decide +kernel, by decide +kernel⟩
abbrev s_l_alignment : Stmt := top 35
theorem sc_l_alignment : FnScope N_l_alignment ["_law_draws_here", "_law_most"] (defScope s_l_alignment) := ⟨rfl, rfl, rfl, by decide +kernel, rfl, by decide +kernel, by decide +kernel⟩
abbrev s_l_long : Stmt := top 36
theorem sc_l_long : FnScope N_l_long [] (defScope s_l_long) := ⟨rfl, rfl, rfl, by decide +kernel, rfl, by decide +kernel, by decide +kernel⟩
abbrev s_l_not_integer : Stmt := top 37
theorem sc_l_not_integer : FnScope N_l_not_integer ["_law_draws_here"] (defScope s_l_not_integer) := ⟨rfl, rfl, rfl, by decide +kernel, rfl, by decide +kernel, by decide +kernel⟩
abbrev s_l_not_within : Stmt := top 38
theorem sc_l_not_within : FnScope N_l_not_within ["_law_draws_here", "_law_low", "_law_high"] (defScope s_l_not_within) := ⟨rfl, rfl, rfl, by decide +kernel, rfl, by decide +kernel, by decide +kernel⟩
abbrev s_l_not_alignment : Stmt := top 39
theorem sc_l_not_alignment : FnScope N_l_not_alignment ["_law_draws_here", "_law_most"] (defScope s_l_not_alignment) := ⟨rfl, rfl, rfl, by decide +kernel, rfl, by decide +kernel, by decide +kernel⟩
abbrev s_l_serves_at : Stmt := top 40
theorem sc_l_serves_at : FnScope N_l_serves_at ["_law_p", "_law_n", "_law_size", "_law_alignment_here"] (defScope s_l_serves_at) := ⟨rfl, rfl, rfl, by decide +kernel, rfl, by decide +kernel, by decide +kernel⟩
abbrev s_l_serves_ask : Stmt := top 41
theorem sc_l_serves_ask : FnScope N_l_serves_ask ["_law_draws_here"] (defScope s_l_serves_ask) := ⟨rfl, rfl, rfl, by decide +kernel, rfl, by decide +kernel, by decide +kernel⟩
abbrev s_l_refusal : Stmt := top 42
theorem sc_l_refusal : FnScope N_l_refusal ["_law_e"] (defScope s_l_refusal) := ⟨rfl, rfl, rfl, by decide +kernel, rfl, by decide +kernel, by decide +kernel⟩
abbrev s_l_refused : Stmt := top 43
theorem sc_l_refused : FnScope N_l_refused ["_law_title", "_law_fields"] (defScope s_l_refused) := ⟨rfl, rfl, rfl, by decide +kernel, rfl, by decide +kernel, by decide +kernel⟩
abbrev s_l_alike : Stmt := top 44
theorem sc_l_alike : FnScope N_l_alike ["_law_actual", "_law_due_here"] (defScope s_l_alike) := ⟨rfl, rfl, rfl, by decide +kernel, rfl, by decide +kernel, by decide +kernel⟩
abbrev s_l_asked : Stmt := top 45
theorem sc_l_asked : FnScope N_l_asked ["_law_ask"] (defScope s_l_asked) := ⟨rfl, rfl, rfl, by decide +kernel, rfl, by decide +kernel, by decide +kernel⟩
abbrev s_l_near : Stmt := top 46
theorem sc_l_near : FnScope N_l_near ["_law_ask"] (defScope s_l_near) := ⟨rfl, rfl, rfl, by decide +kernel, rfl, by decide +kernel, by decide +kernel⟩
abbrev s_l_first_bad : Stmt := top 47
theorem sc_l_first_bad : FnScope N_l_first_bad ["_law_ask"] (defScope s_l_first_bad) := ⟨rfl, rfl, rfl, by decide +kernel, rfl, by decide +kernel, by decide +kernel⟩
abbrev s_l_due : Stmt := top 48
theorem sc_l_due : FnScope N_l_due ["_law_ask"] (defScope s_l_due) := ⟨rfl, rfl, rfl, by decide +kernel, rfl, by decide +kernel, by decide +kernel⟩
abbrev s_l_refuses : Stmt := top 49
theorem sc_l_refuses : FnScope N_l_refuses ["_law_draws_here"] (defScope s_l_refuses) := ⟨rfl, rfl, rfl, by decide +kernel, rfl, by decide +kernel, by decide +kernel⟩
abbrev s_l_law : Stmt := top 50
theorem sc_l_law : FnScope N_l_law ["_law_script"] (defScope s_l_law) := ⟨rfl, rfl, rfl, by decide +kernel, rfl, by decide +kernel, by decide +kernel⟩
/-- where the defs and constants stand -/
structure Ad where
  c : Cl
  c_BadValue_init : Addr
  c_BadValue_init_d : FuncData
  p_is_whole : Addr
  p_is_whole_d : FuncData
  p_whole_between : Addr
  p_whole_between_d : FuncData
  p_is_power : Addr
  p_is_power_d : FuncData
  p_is_align : Addr
  p_is_align_d : FuncData
  p_align_up : Addr
  p_align_up_d : FuncData
  p_check_number : Addr
  p_check_number_d : FuncData
  p_check_align : Addr
  p_check_align_d : FuncData
  p_serving_place : Addr
  p_serving_place_d : FuncData
  p_serves : Addr
  p_serves_d : FuncData
  l_draws : Addr
  l_draws_d : FuncData
  l_next_cell : Addr
  l_next_cell_d : FuncData
  l_mixed : Addr
  l_mixed_d : FuncData
  l_take : Addr
  l_take_d : FuncData
  l_among : Addr
  l_among_d : FuncData
  l_between : Addr
  l_between_d : FuncData
  l_number : Addr
  l_number_d : FuncData
  l_count : Addr
  l_count_d : FuncData
  l_alignment : Addr
  l_alignment_d : FuncData
  l_long : Addr
  l_long_d : FuncData
  l_not_integer : Addr
  l_not_integer_d : FuncData
  l_not_within : Addr
  l_not_within_d : FuncData
  l_not_alignment : Addr
  l_not_alignment_d : FuncData
  l_serves_at : Addr
  l_serves_at_d : FuncData
  l_serves_ask : Addr
  l_serves_ask_d : FuncData
  l_refusal : Addr
  l_refusal_d : FuncData
  l_refused : Addr
  l_refused_d : FuncData
  l_alike : Addr
  l_alike_d : FuncData
  l_asked : Addr
  l_asked_d : FuncData
  l_near : Addr
  l_near_d : FuncData
  l_first_bad : Addr
  l_first_bad_d : FuncData
  l_due : Addr
  l_due_d : FuncData
  l_refuses : Addr
  l_refuses_d : FuncData
  l_law : Addr
  l_law_d : FuncData
  v_LEAST_PIECE : Value
  v_MOST_ALIGN_marks : Value
  v_MOST_ALIGN_spans : Value
  v_MOST_END : Value
  v_MOST_PLACES : Value
/-- what the top has written -/
structure Txt (K : PySem.W.Frag) (mg : Str → Option Value) (a : Ad) : Prop where
  b_all : mg "all" = none
  b_bool : mg "bool" = none
  b_int : mg "int" = none
  b_isinstance : mg "isinstance" = none
  b_len : mg "len" = none
  b_list : mg "list" = none
  b_max : mg "max" = none
  b_min : mg "min" = none
  b_range : mg "range" = none
  b_str : mg "str" = none
  b_tuple : mg "tuple" = none
  g_LEAST_PIECE : mg "LEAST_PIECE" = some a.v_LEAST_PIECE
  r_LEAST_PIECE : RelV (.int 3) a.v_LEAST_PIECE
  g_MOST_ALIGN_marks : mg "MOST_ALIGN_marks" = some a.v_MOST_ALIGN_marks
  r_MOST_ALIGN_marks : RelV (.int 4096) a.v_MOST_ALIGN_marks
  g_MOST_ALIGN_spans : mg "MOST_ALIGN_spans" = some a.v_MOST_ALIGN_spans
  r_MOST_ALIGN_spans : RelV (.int 1073741824) a.v_MOST_ALIGN_spans
  g_MOST_END : mg "MOST_END" = some a.v_MOST_END
  r_MOST_END : RelV (.int 1000000000) a.v_MOST_END
  g_MOST_PLACES : mg "MOST_PLACES" = some a.v_MOST_PLACES
  r_MOST_PLACES : RelV (.int 16384) a.v_MOST_PLACES
  k_StoreError : mg "StoreError" = some (.ref a.c.k_StoreError)
  k_BadValue : mg "BadValue" = some (.ref a.c.k_BadValue)
  k_Broken : mg "Broken" = some (.ref a.c.k_Broken)
  k_Unknown : mg "Unknown" = some (.ref a.c.k_Unknown)
  k_NotHeld : mg "NotHeld" = some (.ref a.c.k_NotHeld)
  k_Fault : mg "Fault" = some (.ref a.c.k_Fault)
  k_NoRoom : mg "NoRoom" = some (.ref a.c.k_NoRoom)
  k_Cut : mg "Cut" = some (.ref a.c.k_Cut)
  k_BadLine : mg "BadLine" = some (.ref a.c.k_BadLine)
  c_BadValue_init : DfM K "__init__" "BadValue.__init__" s_c_BadValue_init ["self", "parameter"] a.c_BadValue_init a.c_BadValue_init_d
  p_is_whole : DfG K mg "is_whole" s_p_is_whole ["value"] a.p_is_whole a.p_is_whole_d
  p_whole_between : DfG K mg "whole_between" s_p_whole_between ["value", "low", "high"] a.p_whole_between a.p_whole_between_d
  p_is_power : DfG K mg "is_power" s_p_is_power ["value"] a.p_is_power a.p_is_power_d
  p_is_align : DfG K mg "is_align" s_p_is_align ["value", "most"] a.p_is_align a.p_is_align_d
  p_align_up : DfG K mg "align_up" s_p_align_up ["number", "align"] a.p_align_up a.p_align_up_d
  p_check_number : DfG K mg "check_number" s_p_check_number ["value", "low", "high", "parameter"] a.p_check_number a.p_check_number_d
  p_check_align : DfG K mg "check_align" s_p_check_align ["value"] a.p_check_align a.p_check_align_d
  p_serving_place : DfG K mg "serving_place" s_p_serving_place ["place", "count", "size", "align"] a.p_serving_place a.p_serving_place_d
  p_serves : DfG K mg "serves" s_p_serves ["p", "n", "size", "align"] a.p_serves a.p_serves_d
  l_draws : DfG K mg "_law_draws" s_l_draws ["_law_script"] a.l_draws a.l_draws_d
  l_next_cell : DfG K mg "_law_next_cell" s_l_next_cell ["_law_draws_here"] a.l_next_cell a.l_next_cell_d
  l_mixed : DfG K mg "_law_mixed" s_l_mixed ["_law_seed", "_law_turn", "_law_many"] a.l_mixed a.l_mixed_d
  l_take : DfG K mg "_law_take" s_l_take ["_law_draws_here", "_law_many"] a.l_take a.l_take_d
  l_among : DfG K mg "_law_among" s_l_among ["_law_draws_here", "_law_row"] a.l_among a.l_among_d
  l_between : DfG K mg "_law_between" s_l_between ["_law_draws_here", "_law_low", "_law_high"] a.l_between a.l_between_d
  l_number : DfG K mg "_law_number" s_l_number ["_law_draws_here", "_law_low", "_law_high"] a.l_number a.l_number_d
  l_count : DfG K mg "_law_count" s_l_count ["_law_draws_here", "_law_small", "_law_great"] a.l_count a.l_count_d
  l_alignment : DfG K mg "_law_alignment" s_l_alignment ["_law_draws_here", "_law_most"] a.l_alignment a.l_alignment_d
  l_long : DfG K mg "_law_long" s_l_long [] a.l_long a.l_long_d
  l_not_integer : DfG K mg "_law_not_integer" s_l_not_integer ["_law_draws_here"] a.l_not_integer a.l_not_integer_d
  l_not_within : DfG K mg "_law_not_within" s_l_not_within ["_law_draws_here", "_law_low", "_law_high"] a.l_not_within a.l_not_within_d
  l_not_alignment : DfG K mg "_law_not_alignment" s_l_not_alignment ["_law_draws_here", "_law_most"] a.l_not_alignment a.l_not_alignment_d
  l_serves_at : DfG K mg "_law_serves_at" s_l_serves_at ["_law_p", "_law_n", "_law_size", "_law_alignment_here"] a.l_serves_at a.l_serves_at_d
  l_serves_ask : DfG K mg "_law_serves_ask" s_l_serves_ask ["_law_draws_here"] a.l_serves_ask a.l_serves_ask_d
  l_refusal : DfG K mg "_law_refusal" s_l_refusal ["_law_e"] a.l_refusal a.l_refusal_d
  l_refused : DfG K mg "_law_refused" s_l_refused ["_law_title", "_law_fields"] a.l_refused a.l_refused_d
  l_alike : DfG K mg "_law_alike" s_l_alike ["_law_actual", "_law_due_here"] a.l_alike a.l_alike_d
  l_asked : DfG K mg "_law_asked" s_l_asked ["_law_ask"] a.l_asked a.l_asked_d
  l_near : DfG K mg "_law_near" s_l_near ["_law_ask"] a.l_near a.l_near_d
  l_first_bad : DfG K mg "_law_first_bad" s_l_first_bad ["_law_ask"] a.l_first_bad a.l_first_bad_d
  l_due : DfG K mg "_law_due" s_l_due ["_law_ask"] a.l_due a.l_due_d
  l_refuses : DfG K mg "_law_refuses" s_l_refuses ["_law_draws_here"] a.l_refuses a.l_refuses_d
  l_law : DfG K mg "law" s_l_law ["_law_script"] a.l_law a.l_law_d
  bv : BvC K a.c.k_BadValue
  iC : PySem.W.findIn K (.ref a.c.k_BadValue) "__init__" = some (some (.ref a.c_BadValue_init))
  tI : PySem.W.typeIn K (.ref a.c_BadValue_init) = some (.type "function")
  rf : RfC K a.c
section
variable {P : Program} {w : World} {K : PySem.W.Frag} {mg : Str → Option Value} {base : Heap} {a : Ad}
theorem ok_c_BadValue_init (T : Txt K mg a) : FnOk P w K mg base CX0 1 a.c_BadValue_init a.c_BadValue_init_d ["self", "parameter"] (sp_init_BadValue K a.c.k_BadValue) := by
  refine T.c_BadValue_init.fn.ok sc_c_BadValue_init (fun vs H Q E h => ?_) (fun cdv A outer s H vs Q E hr h => ⟨t_c_BadValue_init K, ?_, pure_init_BadValue  h⟩)
  · repeat' (first | (obtain ⟨e, _⟩ := h; (first | (subst e; rfl) | (rw [e]; rfl))) | (obtain ⟨_, h⟩ := h))
  · exact (pss_cons (ps_ost (pv 0) (pv 1))
  (pss_one (ps_ost (pv 0) (pe_tup (pa_cons pe_str (pa_cons (pe_tup (pa_cons (pv 1) pa_nil)) pa_nil))))))
theorem ok_p_is_whole (T : Txt K mg a) : FnOk P w K mg base CX0 1 a.p_is_whole a.p_is_whole_d ["value"] (sp_is_whole K) := by
  refine T.p_is_whole.fn.ok sc_p_is_whole (fun vs H Q E h => ?_) (fun cdv A outer s H vs Q E hr h => ⟨t_p_is_whole K, ?_, pure_is_whole  h⟩)
  · repeat' (first | (obtain ⟨e, _⟩ := h; (first | (subst e; rfl) | (rw [e]; rfl))) | (obtain ⟨_, h⟩ := h))
  · exact (pss_one (ps_ret (pe_and (pe_callB call_isi (by rfl) T.b_isinstance (by decide +kernel) (pa_cons (pv 0) (pa_cons (pe_bltn (by rfl) T.b_int (by decide +kernel) rfl) pa_nil))) (pe_one (pe_not (pe_callB call_isi (by rfl) T.b_isinstance (by decide +kernel) (pa_cons (pv 0) (pa_cons (pe_bltn (by rfl) T.b_bool (by decide +kernel) rfl) pa_nil))))))))
theorem ok_l_draws (T : Txt K mg a) : FnOk P w K mg base CX0 1 a.l_draws a.l_draws_d ["_law_script"] (sp_draws K) := by
  refine T.l_draws.fn.ok sc_l_draws (fun vs H Q E h => ?_) (fun cdv A outer s H vs Q E hr h => ⟨t_l_draws K, ?_, pure_draws  h⟩)
  · repeat' (first | (obtain ⟨e, _⟩ := h; (first | (subst e; rfl) | (rw [e]; rfl))) | (obtain ⟨_, h⟩ := h))
  · exact (pss_one (ps_ret (pe_lst (pa_cons (pe_lc (own := [("_law_cell", 1)]) (g := (gName 1)) (tt := tYes) (by rfl) sc_l_draws.nd (pi_list (pv 0)) (blkOk_by (own := [("_law_cell", 1)]) (N := N_l_draws) (sc := defScope s_l_draws) (by decide +kernel)) (fun _ _ _ _ _ => pg_name (i := 1) sc_l_draws.nd rfl (Or.inl rfl)) (fun _ _ _ _ _ => pts_nil) (fun _ _ _ _ _ => (pe_callTy call_int1 (by rfl) T.b_int (by decide +kernel) (pa_cons (pv 1) pa_nil)))) (pa_cons (pe_lst (pa_cons pe_int (pa_cons pe_int (pa_cons pe_int (pa_cons pe_int (pa_cons pe_int pa_nil)))))) pa_nil)))))
theorem ok_l_next_cell (T : Txt K mg a) : FnOk P w K mg base CX0 1 a.l_next_cell a.l_next_cell_d ["_law_draws_here"] sp_next_cell := by
  refine T.l_next_cell.fn.ok sc_l_next_cell (fun vs H Q E h => ?_) (fun cdv A outer s H vs Q E hr h => ⟨t_l_next_cell K, ?_, pure_next_cell  h⟩)
  · repeat' (first | (obtain ⟨e, _⟩ := h; (first | (subst e; rfl) | (rw [e]; rfl))) | (obtain ⟨_, h⟩ := h))
  · exact (pss_cons (ps_set (i := 1) sc_l_next_cell.nd rfl (Or.inl rfl) (pe_ix ix_list (pv 0) pe_int (fun _ _ => rfl)))
  (pss_cons (ps_set (i := 2) sc_l_next_cell.nd rfl (Or.inl rfl) (pe_ix ix_list (pv 0) pe_int (fun _ _ => rfl)))
  (pss_one (ps_if (pt_cmpR op_lt (pe_ix ix_list (pv 2) pe_int (fun _ _ => rfl)) (pe_callB call_len (by rfl) T.b_len (by decide +kernel) (pa_cons (pv 1) pa_nil)) (nomark _)) (pss_cons (ps_set (i := 3) sc_l_next_cell.nd rfl (Or.inl rfl) (pe_callTy call_int1 (by rfl) T.b_int (by decide +kernel) (pa_cons (pe_ix ix_list (pv 1) (pe_ix ix_list (pv 2) pe_int (fun _ _ => rfl)) (fun _ _ => rfl)) pa_nil)))
  (pss_cons (ps_asg (pe_op op_add (pe_ix ix_list (pv 2) pe_int (fun _ _ => rfl)) pe_int) (pg_sub (pv 2) pe_int set_list))
  (pss_cons (ps_asg (pe_op op_mod (pe_callTy call_int1 (by rfl) T.b_int (by decide +kernel) (pa_cons (pe_op op_add (pe_op op_add (pe_op op_mul (pe_ix ix_list (pv 2) pe_int (fun _ _ => rfl)) pe_int) (pe_op op_mod (pv 3) pe_int)) pe_int) pa_nil)) pe_int) (pg_sub (pv 2) pe_int set_list))
  (pss_one (ps_if (pt_cmpR op_ge (pv 3) (pe_op op_pow pe_int pe_int) (nomark _)) (pss_one (ps_asg (pv 3) (pg_sub (pv 2) pe_int set_list))) (pss_one (ps_asg pe_int (pg_sub (pv 2) pe_int set_list)))))))) pss_nil))))
theorem ok_l_mixed (T : Txt K mg a) : FnOk P w K mg base CX0 1 a.l_mixed a.l_mixed_d ["_law_seed", "_law_turn", "_law_many"] sp_mixed := by
  refine T.l_mixed.fn.ok sc_l_mixed (fun vs H Q E h => ?_) (fun cdv A outer s H vs Q E hr h => ⟨t_l_mixed K, ?_, pure_mixed  h⟩)
  · repeat' (first | (obtain ⟨e, _⟩ := h; (first | (subst e; rfl) | (rw [e]; rfl))) | (obtain ⟨_, h⟩ := h))
  · exact (pss_cons (ps_set (i := 3) sc_l_mixed.nd rfl (Or.inl rfl) pe_int)
  (pss_cons (ps_for PassesOwn.never rfl (pi_range1 (by rfl) T.b_range (pa_cons pe_int pa_nil)) (pg_name (i := 4) sc_l_mixed.nd rfl (Or.inl rfl)) (pss_cons (ps_set (i := 5) sc_l_mixed.nd rfl (Or.inl rfl) (pe_op op_mod (pe_callTy call_int1 (by rfl) T.b_int (by decide +kernel) (pa_cons (pe_op op_mul (pe_op op_add (pe_op op_add (pv 0) pe_int) (pe_op op_mul (pe_op op_add (pe_op op_mul pe_int (pv 1)) (pv 4)) pe_int)) pe_int) pa_nil)) pe_int))
  (pss_cons (ps_set (i := 6) sc_l_mixed.nd rfl (Or.inl rfl) (pe_op op_mod (pe_callTy call_int1 (by rfl) T.b_int (by decide +kernel) (pa_cons (pe_op op_add (pe_op op_add (pe_op op_mul (pv 5) (pv 5)) (pe_op op_mul (pe_op op_fdivW (pv 5) pe_int) pe_int)) (pv 1)) pa_nil)) pe_int))
  (pss_one (ps_set (i := 3) sc_l_mixed.nd rfl (Or.inl rfl) (pe_op op_add (pe_op op_mul (pv 3) pe_int) (pe_op op_fdivW (pv 6) pe_int)))))))
  (pss_one (ps_ret (pe_op op_mod (pe_callTy call_int1 (by rfl) T.b_int (by decide +kernel) (pa_cons (pv 3) pa_nil)) (pv 2))))))
theorem ok_l_long (T : Txt K mg a) : FnOk P w K mg base CX0 1 a.l_long a.l_long_d [] sp_long := by
  refine T.l_long.fn.ok sc_l_long (fun vs H Q E h => ?_) (fun cdv A outer s H vs Q E hr h => ⟨t_l_long K, ?_, pure_long  h⟩)
  · repeat' (first | (obtain ⟨e, _⟩ := h; (first | (subst e; rfl) | (rw [e]; rfl))) | (obtain ⟨_, h⟩ := h))
  · exact (pss_cons (ps_set (i := 0) sc_l_long.nd rfl (Or.inl rfl) (pe_op op_pow pe_int pe_int))
  (pss_cons (ps_for PassesOwn.never rfl (pi_range1 (by rfl) T.b_range (pa_cons pe_int pa_nil)) (pg_name (i := 1) sc_l_long.nd rfl (Or.inl rfl)) (pss_one (ps_set (i := 0) sc_l_long.nd rfl (Or.inl rfl) (pe_op op_mulW (pv 0) (pe_op op_pow pe_int pe_int)))))
  (pss_one (ps_ret (pv 0)))))
theorem ok_l_serves_at (T : Txt K mg a) : FnOk P w K mg base CX0 1 a.l_serves_at a.l_serves_at_d ["_law_p", "_law_n", "_law_size", "_law_alignment_here"] sp_serves_at := by
  refine T.l_serves_at.fn.ok sc_l_serves_at (fun vs H Q E h => ?_) (fun cdv A outer s H vs Q E hr h => ⟨t_l_serves_at K, ?_, pure_serves_at  h⟩)
  · repeat' (first | (obtain ⟨e, _⟩ := h; (first | (subst e; rfl) | (rw [e]; rfl))) | (obtain ⟨_, h⟩ := h))
  · exact (pss_cons (ps_for PassesOwn.never rfl (pi_range2 (by rfl) T.b_range (pa_cons (pe_op op_add (pv 0) pe_int) (pa_cons (pe_op op_sub (pe_op op_add (pv 0) (pv 1)) (pv 2)) pa_nil))) (pg_name (i := 4) sc_l_serves_at.nd rfl (Or.inl rfl)) (pss_one (ps_if (PW.pt (pw_and (pt_cmpR op_eq (pe_op op_mod (pe_callTy call_int1 (by rfl) T.b_int (by decide +kernel) (pa_cons (pv 4) pa_nil)) (pv 3)) pe_int (nomark _)) (pw_and1 (PW.pt (pw_or (pt_cmpR op_eq (pv 4) (pe_op op_add (pv 0) pe_int) (nomark _)) (pw_or1 (pt_cmpR op_ge (pv 4) (pe_op op_add (pv 0) pe_int) (nomark _)))))))) (pss_one (ps_ret (pv 4))) pss_nil)))
  (pss_one (ps_ret pe_non)))
theorem ok_l_refusal (T : Txt K mg a) : FnU P w K mg base 1 a.l_refusal a.l_refusal_d ["_law_e"] (sp_refusal K a.c) := by
  refine Fun_okU T.l_refusal.fn sc_l_refusal (fun vs H Q E h => ?_) (fun cdv A outer s H vs Q E hr h => ⟨t_l_refusal K a.c, ?_, pure_refusal  h⟩)
  · repeat' (first | (obtain ⟨e, _⟩ := h; (first | (subst e; rfl) | (rw [e]; rfl))) | (obtain ⟨_, h⟩ := h))
  · exact (pss_cons (ps_set (i := 1) sc_l_refusal.nd rfl (Or.inl rfl) (pe_lst (pa_cons (pe_callB call_isX (by rfl) T.b_isinstance (by decide +kernel) (pa_cons (pv 0) (pa_cons (pe_glob (by rfl) T.k_BadValue rfl) pa_nil))) (pa_cons (pe_callB call_isX (by rfl) T.b_isinstance (by decide +kernel) (pa_cons (pv 0) (pa_cons (pe_glob (by rfl) T.k_Broken rfl) pa_nil))) (pa_cons (pe_callB call_isX (by rfl) T.b_isinstance (by decide +kernel) (pa_cons (pv 0) (pa_cons (pe_glob (by rfl) T.k_Unknown rfl) pa_nil))) (pa_cons (pe_callB call_isX (by rfl) T.b_isinstance (by decide +kernel) (pa_cons (pv 0) (pa_cons (pe_glob (by rfl) T.k_NotHeld rfl) pa_nil))) pa_nil))))))
  (pss_cons (ps_set (i := 1) sc_l_refusal.nd rfl (Or.inl rfl) (pe_op op_cat (pv 1) (pe_lst (pa_cons (pe_callB call_isX (by rfl) T.b_isinstance (by decide +kernel) (pa_cons (pv 0) (pa_cons (pe_glob (by rfl) T.k_Fault rfl) pa_nil))) (pa_cons (pe_callB call_isX (by rfl) T.b_isinstance (by decide +kernel) (pa_cons (pv 0) (pa_cons (pe_glob (by rfl) T.k_NoRoom rfl) pa_nil))) (pa_cons (pe_callB call_isX (by rfl) T.b_isinstance (by decide +kernel) (pa_cons (pv 0) (pa_cons (pe_glob (by rfl) T.k_Cut rfl) pa_nil))) (pa_cons (pe_callB call_isX (by rfl) T.b_isinstance (by decide +kernel) (pa_cons (pv 0) (pa_cons (pe_glob (by rfl) T.k_BadLine rfl) pa_nil))) pa_nil)))))))
  (pss_one (ps_ret (pe_tup (pa_cons (pv 1) (pa_cons (pe_xt (pv 0)) pa_nil)))))))
theorem ok_l_refused (T : Txt K mg a) : FnOk P w K mg base CX0 1 a.l_refused a.l_refused_d ["_law_title", "_law_fields"] sp_refused46 := by
  refine T.l_refused.fn.ok sc_l_refused (fun vs H Q E h => ?_) (fun cdv A outer s H vs Q E hr h => ⟨t_l_refused K, ?_, pure_refused  h⟩)
  · repeat' (first | (obtain ⟨e, _⟩ := h; (first | (subst e; rfl) | (rw [e]; rfl))) | (obtain ⟨_, h⟩ := h))
  · exact (pss_cons (ps_set (i := 2) sc_l_refused.nd rfl (Or.inl rfl) (pe_lst (pa_cons pe_str (pa_cons pe_str (pa_cons pe_str (pa_cons pe_str (pa_cons pe_str (pa_cons pe_str (pa_cons pe_str (pa_cons pe_str pa_nil))))))))))
  (pss_one (ps_ret (pe_tup (pa_cons (pe_lc (own := [("_law_one", 3)]) (g := (gName 3)) (tt := tYes) (by rfl) sc_l_refused.nd (pi_list (pv 2)) (blkOk_by (own := [("_law_one", 3)]) (N := N_l_refused) (sc := defScope s_l_refused) (by decide +kernel)) (fun _ _ _ _ _ => pg_name (i := 3) sc_l_refused.nd rfl (Or.inl rfl)) (fun _ _ _ _ _ => pts_nil) (fun _ _ _ _ _ => (pe_cmpR op_eq (pv 3) (pv 0) (nomark _)))) (pa_cons (pe_tup (pa_cons (pv 0) (pa_cons (pv 1) pa_nil))) pa_nil))))))
theorem ok_l_near (T : Txt K mg a) : FnOk P w K mg base CX0 1 a.l_near a.l_near_d ["_law_ask"] sp_near := by
  refine T.l_near.fn.ok sc_l_near (fun vs H Q E h => ?_) (fun cdv A outer s H vs Q E hr h => ⟨t_l_near K, ?_, pure_near  h⟩)
  · repeat' (first | (obtain ⟨e, _⟩ := h; (first | (subst e; rfl) | (rw [e]; rfl))) | (obtain ⟨_, h⟩ := h))
  · exact (pss_cons (ps_asg (pv 0) (pg_tup rfl (pgs_cons (pg_name (i := 1) sc_l_near.nd rfl (Or.inl rfl)) (pgs_cons (pg_name (i := 2) sc_l_near.nd rfl (Or.inl rfl)) (pgs_cons (pg_name (i := 3) sc_l_near.nd rfl (Or.inl rfl)) (pgs_cons (pg_name (i := 4) sc_l_near.nd rfl (Or.inl rfl)) pgs_nil))))))
  (pss_cons (ps_set (i := 5) sc_l_near.nd rfl (Or.inl rfl) (pe_lst (pa_cons (pe_tup (pa_cons (pv 1) (pa_cons (pv 2) (pa_cons (pe_op op_add (pv 3) pe_int) (pa_cons (pv 4) pa_nil))))) (pa_cons (pe_tup (pa_cons (pv 1) (pa_cons (pv 2) (pa_cons (pe_op op_sub (pv 3) pe_int) (pa_cons (pv 4) pa_nil))))) (pa_cons (pe_tup (pa_cons (pv 1) (pa_cons (pe_op op_add (pv 2) pe_int) (pa_cons (pv 3) (pa_cons (pv 4) pa_nil))))) pa_nil)))))
  (pss_cons (ps_set (i := 5) sc_l_near.nd rfl (Or.inl rfl) (pe_op op_cat (pv 5) (pe_lst (pa_cons (pe_tup (pa_cons (pv 1) (pa_cons (pe_op op_sub (pv 2) pe_int) (pa_cons (pv 3) (pa_cons (pv 4) pa_nil))))) (pa_cons (pe_tup (pa_cons (pe_op op_add (pv 1) pe_int) (pa_cons (pv 2) (pa_cons (pv 3) (pa_cons (pv 4) pa_nil))))) (pa_cons (pe_tup (pa_cons (pe_op op_sub (pv 1) pe_int) (pa_cons (pv 2) (pa_cons (pv 3) (pa_cons (pv 4) pa_nil))))) pa_nil))))))
  (pss_one (ps_ret (pe_op op_cat (pv 5) (pe_lst (pa_cons (pe_tup (pa_cons (pv 1) (pa_cons (pv 2) (pa_cons (pv 3) (pa_cons (pe_op op_mul pe_int (pv 4)) pa_nil))))) (pa_cons (pe_tup (pa_cons (pv 1) (pa_cons (pv 2) (pa_cons (pe_callB (call_max2 rfl) (by rfl) T.b_max (by decide +kernel) (pa_cons pe_int (pa_cons (pe_op op_sub (pv 2) pe_int) pa_nil))) (pa_cons pe_int pa_nil))))) (pa_cons (pv 0) pa_nil))))))))))
theorem ok_l_first_bad (T : Txt K mg a) : FnOk P w K mg base CX0 1 a.l_first_bad a.l_first_bad_d ["_law_ask"] sp_first_bad := by
  refine T.l_first_bad.fn.ok sc_l_first_bad (fun vs H Q E h => ?_) (fun cdv A outer s H vs Q E hr h => ⟨t_l_first_bad K, ?_, pure_first_bad  h⟩)
  · repeat' (first | (obtain ⟨e, _⟩ := h; (first | (subst e; rfl) | (rw [e]; rfl))) | (obtain ⟨_, h⟩ := h))
  · exact (pss_cons (ps_if (pt_not (pt_chain op_le op_le pe_int (pe_ix ix_tup (pv 0) pe_int (fun _ _ => rfl)) pe_int)) (pss_one (ps_ret pe_str)) pss_nil)
  (pss_cons (ps_if (pt_not (pt_chain op_le op_le pe_int (pe_ix ix_tup (pv 0) pe_int (fun _ _ => rfl)) pe_int)) (pss_one (ps_ret pe_str)) pss_nil)
  (pss_cons (ps_if (pt_not (pt_chain op_le op_le pe_int (pe_ix ix_tup (pv 0) pe_int (fun _ _ => rfl)) pe_int)) (pss_one (ps_ret pe_str)) pss_nil)
  (pss_cons (ps_if (pt_cmpR op_gt (pe_ix ix_tup (pv 0) pe_int (fun _ _ => rfl)) pe_int (nomark _)) (pss_one (ps_ret pe_str)) pss_nil)
  (pss_one (ps_ret pe_non))))))
theorem ok_p_whole_between (T : Txt K mg a) : FnOk P w K mg base CX0 2 a.p_whole_between a.p_whole_between_d ["value", "low", "high"] (sp_whole_between K) := by
  refine T.p_whole_between.fn.ok sc_p_whole_between (fun vs H Q E h => ?_) (fun cdv A outer s H vs Q E hr h => ⟨t_p_whole_between K, ?_, pure_whole_between  h⟩)
  · repeat' (first | (obtain ⟨e, _⟩ := h; (first | (subst e; rfl) | (rw [e]; rfl))) | (obtain ⟨_, h⟩ := h))
  · exact (pss_one (ps_ret (pe_and (pe_call (ok_p_is_whole T) (hr.mono (by decide)) (by rfl) T.p_is_whole.gl T.p_is_whole.fn.kp T.p_is_whole.bd .nil pass0 (pa_cons (pv 0) pa_nil)) (pe_one (pe_chain op_le op_le (pv 1) (pv 0) (pv 2))))))
theorem ok_p_is_power (T : Txt K mg a) : FnOk P w K mg base CX0 2 a.p_is_power a.p_is_power_d ["value"] (sp_is_power K) := by
  refine T.p_is_power.fn.ok sc_p_is_power (fun vs H Q E h => ?_) (fun cdv A outer s H vs Q E hr h => ⟨t_p_is_power K, ?_, pure_is_power  h⟩)
  · repeat' (first | (obtain ⟨e, _⟩ := h; (first | (subst e; rfl) | (rw [e]; rfl))) | (obtain ⟨_, h⟩ := h))
  · exact (pss_one (ps_ret (pe_and (pe_call (ok_p_is_whole T) (hr.mono (by decide)) (by rfl) T.p_is_whole.gl T.p_is_whole.fn.kp T.p_is_whole.bd .nil pass0 (pa_cons (pv 0) pa_nil)) (pe_and (pe_cmpR op_ge (pv 0) pe_int (nomark _)) (pe_one (pe_cmpR op_eq (pe_op op_and (pv 0) (pe_op op_sub (pv 0) pe_int)) pe_int (nomark _)))))))
theorem ok_l_take (T : Txt K mg a) : FnOk P w K mg base CX0 2 a.l_take a.l_take_d ["_law_draws_here", "_law_many"] sp_take := by
  refine T.l_take.fn.ok sc_l_take (fun vs H Q E h => ?_) (fun cdv A outer s H vs Q E hr h => ⟨t_l_take K, ?_, pure_take  h⟩)
  · repeat' (first | (obtain ⟨e, _⟩ := h; (first | (subst e; rfl) | (rw [e]; rfl))) | (obtain ⟨_, h⟩ := h))
  · exact (pss_cons (ps_if (pt_cmpR op_lt (pv 1) pe_int (nomark _)) (pss_one (ps_ret pe_int)) pss_nil)
  (pss_cons (ps_set (i := 2) sc_l_take.nd rfl (Or.inl rfl) (pe_ix ix_list (pv 0) pe_int (fun _ _ => rfl)))
  (pss_cons (ps_asg (pe_op op_add (pe_ix ix_list (pv 2) pe_int (fun _ _ => rfl)) pe_int) (pg_sub (pv 2) pe_int set_list))
  (pss_cons (ps_if (PW.pt (pw_and (pt_cmpR op_lt (pe_ix ix_list (pv 2) pe_int (fun _ _ => rfl)) pe_int (nomark _)) (pw_and1 (pt_cmpR op_lt (pe_ix ix_list (pv 2) pe_int (fun _ _ => rfl)) pe_int (nomark _))))) (pss_one (ps_expr (pe_call (ok_l_next_cell T) (hr.mono (by decide)) (by rfl) T.l_next_cell.gl T.l_next_cell.fn.kp T.l_next_cell.bd .nil pass0 (pa_cons (pv 0) pa_nil)))) pss_nil)
  (pss_cons (ps_if (pt_cmpR op_gt (pe_ix ix_list (pv 2) pe_int (fun _ _ => rfl)) pe_int (nomark _)) (pss_cons (ps_set (i := 3) sc_l_take.nd rfl (Or.inl rfl) (pe_op op_mod (pe_callTy call_int1 (by rfl) T.b_int (by decide +kernel) (pa_cons (pe_ix ix_list (pv 2) pe_int (fun _ _ => rfl)) pa_nil)) (pv 1)))
  (pss_cons (ps_asg (pe_op op_fdivW (pe_ix ix_list (pv 2) pe_int (fun _ _ => rfl)) (pv 1)) (pg_sub (pv 2) pe_int set_list))
  (pss_one (ps_ret (pv 3))))) pss_nil)
  (pss_cons (ps_if (pt_cmpR op_gt (pe_ix ix_list (pv 2) pe_int (fun _ _ => rfl)) pe_int (nomark _)) (pss_one (ps_asg (pe_op op_sub (pe_ix ix_list (pv 2) pe_int (fun _ _ => rfl)) pe_int) (pg_sub (pv 2) pe_int set_list))) pss_nil)
  (pss_one (ps_ret (pe_call (ok_l_mixed T) (hr.mono (by decide)) (by rfl) T.l_mixed.gl T.l_mixed.fn.kp T.l_mixed.bd .nil pass0 (pa_cons (pe_ix ix_list (pv 2) pe_int (fun _ _ => rfl)) (pa_cons (pe_ix ix_list (pv 2) pe_int (fun _ _ => rfl)) (pa_cons (pv 1) pa_nil))))))))))))
theorem ok_l_due (T : Txt K mg a) : FnOk P w K mg base CX0 2 a.l_due a.l_due_d ["_law_ask"] sp_due46 := by
  refine T.l_due.fn.ok sc_l_due (fun vs H Q E h => ?_) (fun cdv A outer s H vs Q E hr h => ⟨t_l_due K, ?_, pure_due  h⟩)
  · repeat' (first | (obtain ⟨e, _⟩ := h; (first | (subst e; rfl) | (rw [e]; rfl))) | (obtain ⟨_, h⟩ := h))
  · exact (pss_cons (ps_set (i := 1) sc_l_due.nd rfl (Or.inl rfl) (pe_call (ok_l_first_bad T) (hr.mono (by decide)) (by rfl) T.l_first_bad.gl T.l_first_bad.fn.kp T.l_first_bad.bd .nil pass0 (pa_cons (pv 0) pa_nil)))
  (pss_cons (ps_if (pt_cmpR op_notN (pv 1) pe_non (nomark _)) (pss_one (ps_ret (pe_call (ok_l_refused T) (hr.mono (by decide)) (by rfl) T.l_refused.gl T.l_refused.fn.kp T.l_refused.bd .nil pass0 (pa_cons pe_str (pa_cons (pe_tup (pa_cons (pv 1) pa_nil)) pa_nil))))) pss_nil)
  (pss_one (ps_ret (pe_tup (pa_cons pe_str (pa_cons (pe_call (ok_l_serves_at T) (hr.mono (by decide)) (by rfl) T.l_serves_at.gl T.l_serves_at.fn.kp T.l_serves_at.bd .nil pass0 (pa_cons (pe_ix ix_tup (pv 0) pe_int (fun _ _ => rfl)) (pa_cons (pe_ix ix_tup (pv 0) pe_int (fun _ _ => rfl)) (pa_cons (pe_ix ix_tup (pv 0) pe_int (fun _ _ => rfl)) (pa_cons (pe_ix ix_tup (pv 0) pe_int (fun _ _ => rfl)) pa_nil))))) pa_nil)))))))
theorem ok_p_is_align (T : Txt K mg a) : FnOk P w K mg base CX0 3 a.p_is_align a.p_is_align_d ["value", "most"] (sp_is_align K) := by
  refine T.p_is_align.fn.ok sc_p_is_align (fun vs H Q E h => ?_) (fun cdv A outer s H vs Q E hr h => ⟨t_p_is_align K, ?_, pure_is_align  h⟩)
  · repeat' (first | (obtain ⟨e, _⟩ := h; (first | (subst e; rfl) | (rw [e]; rfl))) | (obtain ⟨_, h⟩ := h))
  · exact (pss_one (ps_ret (pe_and (pe_call (ok_p_is_power T) (hr.mono (by decide)) (by rfl) T.p_is_power.gl T.p_is_power.fn.kp T.p_is_power.bd .nil pass0 (pa_cons (pv 0) pa_nil)) (pe_one (pe_cmpR op_le (pv 0) (pv 1) (nomark _))))))
theorem ok_p_check_number (T : Txt K mg a) : FnOk P w K mg base (L2.CX P w) 3 a.p_check_number a.p_check_number_d ["value", "low", "high", "parameter"] (sp_check_number K a.c) := by
  refine T.p_check_number.fn.okX sc_p_check_number (fun vs H Q E h => ?_) (fun cdv A outer s H vs Q E hr h => ⟨t_p_check_number K a.c E, ?_, pure_check_number  h⟩)
  · repeat' (first | (obtain ⟨e, _⟩ := h; (first | (subst e; rfl) | (rw [e]; rfl))) | (obtain ⟨_, h⟩ := h))
  · exact (pss_one (ps_if (PW.pt (pw_or (pt_not (pt_val (pe_call (ok_p_is_whole T) (hr.mono (by decide)) (by rfl) T.p_is_whole.gl T.p_is_whole.fn.kp T.p_is_whole.bd .nil pass0 (pa_cons (pv 0) pa_nil)))) (pw_or (pt_cmpR op_lt (pv 0) (pv 1) (nomark _)) (pw_or1 (pt_cmpR op_gt (pv 0) (pv 2) (nomark _)))))) (pss_one (ps_raise rfl (takes_of rfl rfl rfl rfl) (pmk_oex T.bv.ox T.iC T.tI (ok_c_BadValue_init T) (hr.mono (by decide)) T.c_BadValue_init.bd .nil pass0 (by rfl) T.k_BadValue (pa_cons (pv 3) pa_nil)))) pss_nil))
theorem ok_p_check_align (T : Txt K mg a) : FnOk P w K mg base (L2.CX P w) 3 a.p_check_align a.p_check_align_d ["value"] (sp_check_align K a.c) := by
  refine T.p_check_align.fn.okX sc_p_check_align (fun vs H Q E h => ?_) (fun cdv A outer s H vs Q E hr h => ⟨t_p_check_align K a.c E, ?_, pure_check_align  h⟩)
  · repeat' (first | (obtain ⟨e, _⟩ := h; (first | (subst e; rfl) | (rw [e]; rfl))) | (obtain ⟨_, h⟩ := h))
  · exact (pss_one (ps_if (PW.pt (pw_or (pt_not (pt_val (pe_call (ok_p_is_power T) (hr.mono (by decide)) (by rfl) T.p_is_power.gl T.p_is_power.fn.kp T.p_is_power.bd .nil pass0 (pa_cons (pv 0) pa_nil)))) (pw_or1 (pt_cmpR op_gt (pv 0) (pe_glob (by rfl) T.g_MOST_ALIGN_marks T.r_MOST_ALIGN_marks) (nomark _))))) (pss_one (ps_raise rfl (takes_of rfl rfl rfl rfl) (pmk_oex T.bv.ox T.iC T.tI (ok_c_BadValue_init T) (hr.mono (by decide)) T.c_BadValue_init.bd .nil pass0 (by rfl) T.k_BadValue (pa_cons pe_str pa_nil)))) pss_nil))
theorem ok_l_among (T : Txt K mg a) : FnOk P w K mg base CX0 3 a.l_among a.l_among_d ["_law_draws_here", "_law_row"] (sp_among K) := by
  refine T.l_among.fn.ok sc_l_among (fun vs H Q E h => ?_) (fun cdv A outer s H vs Q E hr h => ⟨t_l_among K, ?_, pure_among  h⟩)
  · repeat' (first | (obtain ⟨e, _⟩ := h; (first | (subst e; rfl) | (rw [e]; rfl))) | (obtain ⟨_, h⟩ := h))
  · exact (pss_one (ps_ret (pe_ix ix_list (pv 1) (pe_call (ok_l_take T) (hr.mono (by decide)) (by rfl) T.l_take.gl T.l_take.fn.kp T.l_take.bd .nil pass0 (pa_cons (pv 0) (pa_cons (pe_callB call_len (by rfl) T.b_len (by decide +kernel) (pa_cons (pv 1) pa_nil)) pa_nil))) (fun _ _ => rfl))))
theorem ok_l_between (T : Txt K mg a) : FnOk P w K mg base CX0 3 a.l_between a.l_between_d ["_law_draws_here", "_law_low", "_law_high"] sp_between := by
  refine T.l_between.fn.ok sc_l_between (fun vs H Q E h => ?_) (fun cdv A outer s H vs Q E hr h => ⟨t_l_between K, ?_, pure_between  h⟩)
  · repeat' (first | (obtain ⟨e, _⟩ := h; (first | (subst e; rfl) | (rw [e]; rfl))) | (obtain ⟨_, h⟩ := h))
  · exact (pss_cons (ps_if (pt_cmpR op_le (pv 2) (pv 1) (nomark _)) (pss_one (ps_ret (pv 1))) pss_nil)
  (pss_cons (ps_set (i := 3) sc_l_between.nd rfl (Or.inl rfl) (pe_call (ok_l_take T) (hr.mono (by decide)) (by rfl) T.l_take.gl T.l_take.fn.kp T.l_take.bd .nil pass0 (pa_cons (pv 0) (pa_cons pe_int pa_nil))))
  (pss_cons (ps_if (pt_cmpR op_eq (pv 3) pe_int (nomark _)) (pss_one (ps_ret (pv 1))) pss_nil)
  (pss_cons (ps_if (pt_cmpR op_eq (pv 3) pe_int (nomark _)) (pss_one (ps_ret (pv 2))) pss_nil)
  (pss_one (ps_ret (pe_op op_add (pv 1) (pe_call (ok_l_take T) (hr.mono (by decide)) (by rfl) T.l_take.gl T.l_take.fn.kp T.l_take.bd .nil pass0 (pa_cons (pv 0) (pa_cons (pe_op op_add (pe_op op_sub (pv 2) (pv 1)) pe_int) pa_nil))))))))))
theorem ok_l_not_integer (T : Txt K mg a) : FnOk P w K mg base CX0 3 a.l_not_integer a.l_not_integer_d ["_law_draws_here"] sp_not_integer := by
  refine T.l_not_integer.fn.ok sc_l_not_integer (fun vs H Q E h => ?_) (fun cdv A outer s H vs Q E hr h => ⟨t_l_not_integer K, ?_, pure_not_integer  h⟩)
  · repeat' (first | (obtain ⟨e, _⟩ := h; (first | (subst e; rfl) | (rw [e]; rfl))) | (obtain ⟨_, h⟩ := h))
  · exact (pss_one (ps_ret (pe_ix ix_list (pe_lst (pa_cons pe_bl (pa_cons pe_bl (pa_cons pe_non (pa_cons pe_str (pa_cons pe_str (pa_cons pe_str (pa_cons (pe_lst pa_nil) (pa_cons (pe_tup pa_nil) (pa_cons (pe_lst (pa_cons pe_int pa_nil)) (pa_cons (pe_tup (pa_cons pe_int pa_nil)) (pa_cons (pe_disp (pps_cons pe_str pe_int pps_nil) (by rfl) (by rfl) (fun z => by cases z) (by decide)) pa_nil)))))))))))) (pe_call (ok_l_take T) (hr.mono (by decide)) (by rfl) T.l_take.gl T.l_take.fn.kp T.l_take.bd .nil pass0 (pa_cons (pv 0) (pa_cons pe_int pa_nil))) (fun _ _ => rfl))))
theorem ok_p_align_up (T : Txt K mg a) : FnOk P w K mg base CX0 4 a.p_align_up a.p_align_up_d ["number", "align"] sp_align_up := by
  refine T.p_align_up.fn.ok sc_p_align_up (fun vs H Q E h => ?_) (fun cdv A outer s H vs Q E hr h => ⟨t_p_align_up K, ?_, pure_align_up  h⟩)
  · repeat' (first | (obtain ⟨e, _⟩ := h; (first | (subst e; rfl) | (rw [e]; rfl))) | (obtain ⟨_, h⟩ := h))
  · exact (pss_cons (ps_if (pt_not (pt_val (pe_call (ok_p_whole_between T) (hr.mono (by decide)) (by rfl) T.p_whole_between.gl T.p_whole_between.fn.kp T.p_whole_between.bd .nil pass0 (pa_cons (pv 0) (pa_cons pe_int (pa_cons (pe_glob (by rfl) T.g_MOST_END T.r_MOST_END) pa_nil)))))) (pss_one ps_never) pss_nil)
  (pss_cons (ps_if (pt_not (pt_val (pe_call (ok_p_is_align T) (hr.mono (by decide)) (by rfl) T.p_is_align.gl T.p_is_align.fn.kp T.p_is_align.bd .nil pass0 (pa_cons (pv 1) (pa_cons (pe_glob (by rfl) T.g_MOST_ALIGN_spans T.r_MOST_ALIGN_spans) pa_nil))))) (pss_one ps_never) pss_nil)
  (pss_one (ps_ret (pe_op op_mul (pe_op op_fdivW (pe_op op_sub (pe_op op_add (pv 0) (pv 1)) pe_int) (pv 1)) (pv 1))))))
theorem ok_l_count (T : Txt K mg a) : FnOk P w K mg base CX0 4 a.l_count a.l_count_d ["_law_draws_here", "_law_small", "_law_great"] sp_count := by
  refine T.l_count.fn.ok sc_l_count (fun vs H Q E h => ?_) (fun cdv A outer s H vs Q E hr h => ⟨t_l_count K, ?_, pure_count  h⟩)
  · repeat' (first | (obtain ⟨e, _⟩ := h; (first | (subst e; rfl) | (rw [e]; rfl))) | (obtain ⟨_, h⟩ := h))
  · exact (pss_cons (ps_if (pt_cmpR op_eq (pe_call (ok_l_take T) (hr.mono (by decide)) (by rfl) T.l_take.gl T.l_take.fn.kp T.l_take.bd .nil pass0 (pa_cons (pv 0) (pa_cons pe_int pa_nil))) pe_int (nomark _)) (pss_one (ps_ret (pe_call (ok_l_between T) (hr.mono (by decide)) (by rfl) T.l_between.gl T.l_between.fn.kp T.l_between.bd .nil pass0 (pa_cons (pv 0) (pa_cons (pv 1) (pa_cons (pv 2) pa_nil)))))) pss_nil)
  (pss_one (ps_ret (pe_call (ok_l_between T) (hr.mono (by decide)) (by rfl) T.l_between.gl T.l_between.fn.kp T.l_between.bd .nil pass0 (pa_cons (pv 0) (pa_cons pe_int (pa_cons (pv 1) pa_nil)))))))
theorem ok_l_alignment (T : Txt K mg a) : FnOk P w K mg base CX0 4 a.l_alignment a.l_alignment_d ["_law_draws_here", "_law_most"] sp_alignment := by
  refine T.l_alignment.fn.ok sc_l_alignment (fun vs H Q E h => ?_) (fun cdv A outer s H vs Q E hr h => ⟨t_l_alignment K, ?_, pure_alignment  h⟩)
  · repeat' (first | (obtain ⟨e, _⟩ := h; (first | (subst e; rfl) | (rw [e]; rfl))) | (obtain ⟨_, h⟩ := h))
  · exact (pss_cons (ps_set (i := 2) sc_l_alignment.nd rfl (Or.inl rfl) pe_int)
  (pss_cons (ps_for PassesOwn.never rfl (pi_range1 (by rfl) T.b_range (pa_cons (pe_call (ok_l_between T) (hr.mono (by decide)) (by rfl) T.l_between.gl T.l_between.fn.kp T.l_between.bd .nil pass0 (pa_cons (pv 0) (pa_cons pe_int (pa_cons (pv 1) pa_nil)))) pa_nil)) (pg_name (i := 3) sc_l_alignment.nd rfl (Or.inl rfl)) (pss_one (ps_set (i := 2) sc_l_alignment.nd rfl (Or.inl rfl) (pe_op op_mul (pv 2) pe_int))))
  (pss_one (ps_ret (pv 2)))))
theorem ok_l_not_within (T : Txt K mg a) : FnOk P w K mg base CX0 4 a.l_not_within a.l_not_within_d ["_law_draws_here", "_law_low", "_law_high"] sp_not_within := by
  refine T.l_not_within.fn.ok sc_l_not_within (fun vs H Q E h => ?_) (fun cdv A outer s H vs Q E hr h => ⟨t_l_not_within K, ?_, pure_not_within  h⟩)
  · repeat' (first | (obtain ⟨e, _⟩ := h; (first | (subst e; rfl) | (rw [e]; rfl))) | (obtain ⟨_, h⟩ := h))
  · exact (pss_cons (ps_set (i := 3) sc_l_not_within.nd rfl (Or.inl rfl) (pe_call (ok_l_take T) (hr.mono (by decide)) (by rfl) T.l_take.gl T.l_take.fn.kp T.l_take.bd .nil pass0 (pa_cons (pv 0) (pa_cons pe_int pa_nil))))
  (pss_cons (ps_if (pt_cmpR op_lt (pv 3) pe_int (nomark _)) (pss_one (ps_ret (pe_ix ix_list (pe_lst (pa_cons (pe_op op_sub (pv 1) pe_int) (pa_cons (pe_op op_add (pv 2) pe_int) pa_nil))) (pv 3) (fun _ _ => rfl)))) pss_nil)
  (pss_cons (ps_if (pt_cmpR op_eq (pv 3) pe_int (nomark _)) (pss_one (ps_ret (pe_op op_add (pe_op op_add (pv 2) pe_int) (pe_call (ok_l_take T) (hr.mono (by decide)) (by rfl) T.l_take.gl T.l_take.fn.kp T.l_take.bd .nil pass0 (pa_cons (pv 0) (pa_cons (pe_op op_pow pe_int pe_int) pa_nil)))))) pss_nil)
  (pss_cons (ps_if (pt_cmpR op_eq (pv 3) pe_int (nomark _)) (pss_one (ps_ret (pe_op op_sub (pe_op op_sub (pv 1) pe_int) (pe_call (ok_l_take T) (hr.mono (by decide)) (by rfl) T.l_take.gl T.l_take.fn.kp T.l_take.bd .nil pass0 (pa_cons (pv 0) (pa_cons (pe_op op_pow pe_int pe_int) pa_nil)))))) pss_nil)
  (pss_cons (ps_if (pt_cmpR op_eq (pv 3) pe_int (nomark _)) (pss_one (ps_ret (pe_ix ix_list (pe_lst (pa_cons (pe_call0 (ok_l_long T) (hr.mono (by decide)) (by rfl) T.l_long.gl T.l_long.fn.kp T.l_long.bd .nil pass0) (pa_cons (pe_un un_neg (pe_call0 (ok_l_long T) (hr.mono (by decide)) (by rfl) T.l_long.gl T.l_long.fn.kp T.l_long.bd .nil pass0)) pa_nil))) (pe_call (ok_l_take T) (hr.mono (by decide)) (by rfl) T.l_take.gl T.l_take.fn.kp T.l_take.bd .nil pass0 (pa_cons (pv 0) (pa_cons pe_int pa_nil))) (fun _ _ => rfl)))) pss_nil)
  (pss_one (ps_ret (pe_call (ok_l_not_integer T) (hr.mono (by decide)) (by rfl) T.l_not_integer.gl T.l_not_integer.fn.kp T.l_not_integer.bd .nil pass0 (pa_cons (pv 0) pa_nil)))))))))
theorem ok_l_not_alignment (T : Txt K mg a) : FnOk P w K mg base CX0 4 a.l_not_alignment a.l_not_alignment_d ["_law_draws_here", "_law_most"] sp_not_alignment := by
  refine T.l_not_alignment.fn.ok sc_l_not_alignment (fun vs H Q E h => ?_) (fun cdv A outer s H vs Q E hr h => ⟨t_l_not_alignment K, ?_, pure_not_alignment  h⟩)
  · repeat' (first | (obtain ⟨e, _⟩ := h; (first | (subst e; rfl) | (rw [e]; rfl))) | (obtain ⟨_, h⟩ := h))
  · exact (pss_cons (ps_set (i := 2) sc_l_not_alignment.nd rfl (Or.inl rfl) (pe_call (ok_l_take T) (hr.mono (by decide)) (by rfl) T.l_take.gl T.l_take.fn.kp T.l_take.bd .nil pass0 (pa_cons (pv 0) (pa_cons pe_int pa_nil))))
  (pss_cons (ps_if (pt_cmpR op_lt (pv 2) pe_int (nomark _)) (pss_one (ps_ret (pe_ix ix_list (pe_lst (pa_cons pe_int (pa_cons (pe_un un_neg pe_int) (pa_cons (pe_un un_neg pe_int) (pa_cons pe_int (pa_cons (pe_op op_add (pv 1) (pv 1)) (pa_cons (pe_op op_add (pe_op op_add (pv 1) (pv 1)) pe_int) pa_nil))))))) (pv 2) (fun _ _ => rfl)))) pss_nil)
  (pss_cons (ps_if (pt_cmpR op_eq (pv 2) pe_int (nomark _)) (pss_one (ps_ret (pe_call (ok_l_among T) (hr.mono (by decide)) (by rfl) T.l_among.gl T.l_among.fn.kp T.l_among.bd .nil pass0 (pa_cons (pv 0) (pa_cons (pe_lst (pa_cons pe_int (pa_cons pe_int (pa_cons (pe_op op_pow pe_int pe_int) (pa_cons (pe_call0 (ok_l_long T) (hr.mono (by decide)) (by rfl) T.l_long.gl T.l_long.fn.kp T.l_long.bd .nil pass0) (pa_cons (pe_un un_neg (pv 1)) (pa_cons (pe_op op_mul (pv 1) pe_int) pa_nil))))))) pa_nil))))) pss_nil)
  (pss_one (ps_ret (pe_call (ok_l_not_integer T) (hr.mono (by decide)) (by rfl) T.l_not_integer.gl T.l_not_integer.fn.kp T.l_not_integer.bd .nil pass0 (pa_cons (pv 0) pa_nil)))))))
theorem ok_p_serving_place (T : Txt K mg a) : FnOk P w K mg base CX0 5 a.p_serving_place a.p_serving_place_d ["place", "count", "size", "align"] sp_serving_place := by
  refine T.p_serving_place.fn.ok sc_p_serving_place (fun vs H Q E h => ?_) (fun cdv A outer s H vs Q E hr h => ⟨t_p_serving_place K, ?_, pure_serving_place  h⟩)
  · repeat' (first | (obtain ⟨e, _⟩ := h; (first | (subst e; rfl) | (rw [e]; rfl))) | (obtain ⟨_, h⟩ := h))
  · exact (pss_cons (ps_set (i := 4) sc_p_serving_place.nd rfl (Or.inl rfl) (pe_call (ok_p_align_up T) (hr.mono (by decide)) (by rfl) T.p_align_up.gl T.p_align_up.fn.kp T.p_align_up.bd .nil pass0 (pa_cons (pe_op op_add (pv 0) pe_int) (pa_cons (pv 3) pa_nil))))
  (pss_cons (ps_if (pt_cmpR op_ne (pv 4) (pe_op op_add (pv 0) pe_int) (nomark _)) (pss_one (ps_set (i := 4) sc_p_serving_place.nd rfl (Or.inl rfl) (pe_call (ok_p_align_up T) (hr.mono (by decide)) (by rfl) T.p_align_up.gl T.p_align_up.fn.kp T.p_align_up.bd .nil pass0 (pa_cons (pe_op op_add (pe_op op_add (pv 0) pe_int) (pe_glob (by rfl) T.g_LEAST_PIECE T.r_LEAST_PIECE)) (pa_cons (pv 3) pa_nil))))) pss_nil)
  (pss_cons (ps_if (pt_cmpR op_le (pe_op op_add (pe_op op_add (pv 4) (pv 2)) pe_int) (pe_op op_add (pv 0) (pv 1)) (nomark _)) (pss_one (ps_ret (pv 4))) pss_nil)
  (pss_one (ps_ret pe_non)))))
theorem ok_l_number (T : Txt K mg a) : FnOk P w K mg base CX0 5 a.l_number a.l_number_d ["_law_draws_here", "_law_low", "_law_high"] sp_number := by
  refine T.l_number.fn.ok sc_l_number (fun vs H Q E h => ?_) (fun cdv A outer s H vs Q E hr h => ⟨t_l_number K, ?_, pure_number  h⟩)
  · repeat' (first | (obtain ⟨e, _⟩ := h; (first | (subst e; rfl) | (rw [e]; rfl))) | (obtain ⟨_, h⟩ := h))
  · exact (pss_cons (ps_if (pt_cmpR op_lt (pe_op op_sub (pv 2) (pv 1)) pe_int (nomark _)) (pss_one (ps_ret (pe_call (ok_l_between T) (hr.mono (by decide)) (by rfl) T.l_between.gl T.l_between.fn.kp T.l_between.bd .nil pass0 (pa_cons (pv 0) (pa_cons (pv 1) (pa_cons (pv 2) pa_nil)))))) pss_nil)
  (pss_cons (ps_set (i := 3) sc_l_number.nd rfl (Or.inl rfl) (pe_call (ok_l_take T) (hr.mono (by decide)) (by rfl) T.l_take.gl T.l_take.fn.kp T.l_take.bd .nil pass0 (pa_cons (pv 0) (pa_cons pe_int pa_nil))))
  (pss_cons (ps_if (pt_cmpR op_lt (pv 3) pe_int (nomark _)) (pss_one (ps_ret (pe_ix ix_list (pe_lst (pa_cons (pv 1) (pa_cons (pv 2) (pa_cons (pe_op op_add (pv 1) pe_int) (pa_cons (pe_op op_sub (pv 2) pe_int) pa_nil))))) (pv 3) (fun _ _ => rfl)))) pss_nil)
  (pss_cons (ps_if (pt_cmpR op_lt (pv 3) pe_int (nomark _)) (pss_one (ps_ret (pe_op op_add (pv 1) (pe_call (ok_l_take T) (hr.mono (by decide)) (by rfl) T.l_take.gl T.l_take.fn.kp T.l_take.bd .nil pass0 (pa_cons (pv 0) (pa_cons (pe_op op_add (pe_callB (call_min2 rfl) (by rfl) T.b_min (by decide +kernel) (pa_cons (pe_op op_sub (pv 2) (pv 1)) (pa_cons pe_int pa_nil))) pe_int) pa_nil)))))) pss_nil)
  (pss_cons (ps_if (pt_cmpR op_eq (pv 3) pe_int (nomark _)) (pss_one (ps_ret (pe_callB (call_max2 rfl) (by rfl) T.b_max (by decide +kernel) (pa_cons (pv 1) (pa_cons (pe_callB (call_min2 rfl) (by rfl) T.b_min (by decide +kernel) (pa_cons (pv 2) (pa_cons (pe_op op_sub (pe_op op_add (pe_call (ok_l_alignment T) (hr.mono (by decide)) (by rfl) T.l_alignment.gl T.l_alignment.fn.kp T.l_alignment.bd .nil pass0 (pa_cons (pv 0) (pa_cons pe_int pa_nil))) (pe_call (ok_l_take T) (hr.mono (by decide)) (by rfl) T.l_take.gl T.l_take.fn.kp T.l_take.bd .nil pass0 (pa_cons (pv 0) (pa_cons pe_int pa_nil)))) pe_int) pa_nil))) pa_nil))))) pss_nil)
  (pss_one (ps_ret (pe_op op_add (pv 1) (pe_call (ok_l_take T) (hr.mono (by decide)) (by rfl) T.l_take.gl T.l_take.fn.kp T.l_take.bd .nil pass0 (pa_cons (pv 0) (pa_cons (pe_op op_add (pe_op op_sub (pv 2) (pv 1)) pe_int) pa_nil)))))))))))
theorem ok_p_serves (T : Txt K mg a) : FnOk P w K mg base (L2.CX P w) 6 a.p_serves a.p_serves_d ["p", "n", "size", "align"] (sp_serves K a.c) := by
  refine T.p_serves.fn.okX sc_p_serves (fun vs H Q E h => ?_) (fun cdv A outer s H vs Q E hr h => ⟨t_p_serves K a.c E, ?_, pure_serves  h⟩)
  · repeat' (first | (obtain ⟨e, _⟩ := h; (first | (subst e; rfl) | (rw [e]; rfl))) | (obtain ⟨_, h⟩ := h))
  · exact (pss_cons (ps_expr (pe_call (ok_p_check_number T) (hr.mono (by decide)) (by rfl) T.p_check_number.gl T.p_check_number.fn.kp T.p_check_number.bd .nil (passes_call (takes_of rfl rfl rfl rfl) (fun _ _ _ _ h => h)) (pa_cons (pv 0) (pa_cons pe_int (pa_cons (pe_op op_sub (pe_glob (by rfl) T.g_MOST_PLACES T.r_MOST_PLACES) pe_int) (pa_cons pe_str pa_nil))))))
  (pss_cons (ps_expr (pe_call (ok_p_check_number T) (hr.mono (by decide)) (by rfl) T.p_check_number.gl T.p_check_number.fn.kp T.p_check_number.bd .nil (passes_call (takes_of rfl rfl rfl rfl) (fun _ _ _ _ h => h)) (pa_cons (pv 1) (pa_cons (pe_glob (by rfl) T.g_LEAST_PIECE T.r_LEAST_PIECE) (pa_cons (pe_glob (by rfl) T.g_MOST_PLACES T.r_MOST_PLACES) (pa_cons pe_str pa_nil))))))
  (pss_cons (ps_expr (pe_call (ok_p_check_number T) (hr.mono (by decide)) (by rfl) T.p_check_number.gl T.p_check_number.fn.kp T.p_check_number.bd .nil (passes_call (takes_of rfl rfl rfl rfl) (fun _ _ _ _ h => h)) (pa_cons (pv 2) (pa_cons pe_int (pa_cons (pe_glob (by rfl) T.g_MOST_PLACES T.r_MOST_PLACES) (pa_cons pe_str pa_nil))))))
  (pss_cons (ps_expr (pe_call (ok_p_check_align T) (hr.mono (by decide)) (by rfl) T.p_check_align.gl T.p_check_align.fn.kp T.p_check_align.bd .nil (passes_call (takes_of rfl rfl rfl rfl) (fun _ _ _ _ h => h)) (pa_cons (pv 3) pa_nil)))
  (pss_one (ps_ret (pe_call (ok_p_serving_place T) (hr.mono (by decide)) (by rfl) T.p_serving_place.gl T.p_serving_place.fn.kp T.p_serving_place.bd .nil pass0 (pa_cons (pv 0) (pa_cons (pv 1) (pa_cons (pv 2) (pa_cons (pv 3) pa_nil)))))))))))
theorem ok_l_serves_ask (T : Txt K mg a) : FnOk P w K mg base CX0 6 a.l_serves_ask a.l_serves_ask_d ["_law_draws_here"] sp_serves_ask := by
  refine T.l_serves_ask.fn.ok sc_l_serves_ask (fun vs H Q E h => ?_) (fun cdv A outer s H vs Q E hr h => ⟨t_l_serves_ask K, ?_, pure_serves_ask  h⟩)
  · repeat' (first | (obtain ⟨e, _⟩ := h; (first | (subst e; rfl) | (rw [e]; rfl))) | (obtain ⟨_, h⟩ := h))
  · exact (pss_cons (ps_set (i := 1) sc_l_serves_ask.nd rfl (Or.inl rfl) (pe_ix ix_list (pe_lst (pa_cons pe_int (pa_cons (pe_call (ok_l_take T) (hr.mono (by decide)) (by rfl) T.l_take.gl T.l_take.fn.kp T.l_take.bd .nil pass0 (pa_cons (pv 0) (pa_cons pe_int pa_nil))) (pa_cons (pe_call (ok_l_number T) (hr.mono (by decide)) (by rfl) T.l_number.gl T.l_number.fn.kp T.l_number.bd .nil pass0 (pa_cons (pv 0) (pa_cons pe_int (pa_cons pe_int pa_nil)))) pa_nil)))) (pe_call (ok_l_take T) (hr.mono (by decide)) (by rfl) T.l_take.gl T.l_take.fn.kp T.l_take.bd .nil pass0 (pa_cons (pv 0) (pa_cons pe_int pa_nil))) (fun _ _ => rfl)))
  (pss_cons (ps_set (i := 2) sc_l_serves_ask.nd rfl (Or.inl rfl) (pe_call (ok_l_between T) (hr.mono (by decide)) (by rfl) T.l_between.gl T.l_between.fn.kp T.l_between.bd .nil pass0 (pa_cons (pv 0) (pa_cons pe_int (pa_cons pe_int pa_nil)))))
  (pss_cons (ps_if (pt_cmpR op_eq (pe_call (ok_l_take T) (hr.mono (by decide)) (by rfl) T.l_take.gl T.l_take.fn.kp T.l_take.bd .nil pass0 (pa_cons (pv 0) (pa_cons pe_int pa_nil))) pe_int (nomark _)) (pss_one (ps_set (i := 2) sc_l_serves_ask.nd rfl (Or.inl rfl) (pe_call (ok_l_number T) (hr.mono (by decide)) (by rfl) T.l_number.gl T.l_number.fn.kp T.l_number.bd .nil pass0 (pa_cons (pv 0) (pa_cons pe_int (pa_cons pe_int pa_nil)))))) pss_nil)
  (pss_cons (ps_set (i := 3) sc_l_serves_ask.nd rfl (Or.inl rfl) (pe_ix ix_list (pe_lst (pa_cons pe_int (pa_cons (pe_callB (call_max2 rfl) (by rfl) T.b_max (by decide +kernel) (pa_cons pe_int (pa_cons (pe_op op_sub (pv 2) pe_int) pa_nil))) (pa_cons (pe_call (ok_l_between T) (hr.mono (by decide)) (by rfl) T.l_between.gl T.l_between.fn.kp T.l_between.bd .nil pass0 (pa_cons (pv 0) (pa_cons pe_int (pa_cons (pv 2) pa_nil)))) (pa_cons (pe_call (ok_l_between T) (hr.mono (by decide)) (by rfl) T.l_between.gl T.l_between.fn.kp T.l_between.bd .nil pass0 (pa_cons (pv 0) (pa_cons pe_int (pa_cons (pv 2) pa_nil)))) pa_nil))))) (pe_call (ok_l_take T) (hr.mono (by decide)) (by rfl) T.l_take.gl T.l_take.fn.kp T.l_take.bd .nil pass0 (pa_cons (pv 0) (pa_cons pe_int pa_nil))) (fun _ _ => rfl)))
  (pss_one (ps_ret (pe_tup (pa_cons (pv 1) (pa_cons (pv 2) (pa_cons (pv 3) (pa_cons (pe_ix ix_list (pe_lst (pa_cons pe_int (pa_cons pe_int (pa_cons pe_int (pa_cons pe_int (pa_cons (pe_call (ok_l_alignment T) (hr.mono (by decide)) (by rfl) T.l_alignment.gl T.l_alignment.fn.kp T.l_alignment.bd .nil pass0 (pa_cons (pv 0) (pa_cons pe_int pa_nil))) pa_nil)))))) (pe_call (ok_l_take T) (hr.mono (by decide)) (by rfl) T.l_take.gl T.l_take.fn.kp T.l_take.bd .nil pass0 (pa_cons (pv 0) (pa_cons pe_int pa_nil))) (fun _ _ => rfl)) pa_nil)))))))))))
theorem ok_l_alike (T : Txt K mg a) : ∀ n : Nat, FnOk P w K mg base CX0 (n + 1) a.l_alike a.l_alike_d ["_law_actual", "_law_due_here"] (sp_alike n)
  | 0 => fn_false
  | n + 1 => by
    have ih := ok_l_alike T n
    refine T.l_alike.fn.ok sc_l_alike (fun vs H Q E h => ?_) (fun cdv A outer s H vs Q E hr h => ⟨t_l_alike K n, ?_, pure_alike h⟩)
    · obtain ⟨_, _, _, e, _⟩ := h
      subst e
      rfl
    · exact (pss_cons (ps_if (PW.pt (pw_or (pt_cmpR op_isN (pv 1) pe_non (nomark _)) (pw_or1 (pt_cmpR op_isN (pv 0) pe_non (nomark _))))) (pss_one (ps_ret (pe_and (pe_cmpR op_isN (pv 1) pe_non (nomark _)) (pe_one (pe_cmpR op_isN (pv 0) pe_non (nomark _)))))) pss_nil)
  (pss_cons (ps_if (PW.pt (pw_or (pt_val (pe_callB call_isi (by rfl) T.b_isinstance (by decide +kernel) (pa_cons (pv 1) (pa_cons (pe_bltn (by rfl) T.b_list (by decide +kernel) rfl) pa_nil)))) (pw_or1 (pt_val (pe_callB call_isi (by rfl) T.b_isinstance (by decide +kernel) (pa_cons (pv 1) (pa_cons (pe_bltn (by rfl) T.b_tuple (by decide +kernel) rfl) pa_nil))))))) (pss_cons (ps_if (PW.pt (pw_or (pt_cmpR op_ne (pe_callB call_isi (by rfl) T.b_isinstance (by decide +kernel) (pa_cons (pv 0) (pa_cons (pe_bltn (by rfl) T.b_list (by decide +kernel) rfl) pa_nil))) (pe_callB call_isi (by rfl) T.b_isinstance (by decide +kernel) (pa_cons (pv 1) (pa_cons (pe_bltn (by rfl) T.b_list (by decide +kernel) rfl) pa_nil))) (nomark _)) (pw_or1 (pt_cmpR op_ne (pe_callB call_isi (by rfl) T.b_isinstance (by decide +kernel) (pa_cons (pv 0) (pa_cons (pe_bltn (by rfl) T.b_tuple (by decide +kernel) rfl) pa_nil))) (pe_callB call_isi (by rfl) T.b_isinstance (by decide +kernel) (pa_cons (pv 1) (pa_cons (pe_bltn (by rfl) T.b_tuple (by decide +kernel) rfl) pa_nil))) (nomark _))))) (pss_one (ps_ret pe_bl)) pss_nil)
  (pss_one (ps_ret (pe_and (pe_cmpR op_eq (pe_callB call_len (by rfl) T.b_len (by decide +kernel) (pa_cons (pv 0) pa_nil)) (pe_callB call_len (by rfl) T.b_len (by decide +kernel) (pa_cons (pv 1) pa_nil)) (nomark _)) (pe_one (pe_callB (cr_all rfl) (by rfl) T.b_all (by decide +kernel) (pa_cons (pe_lc (own := [("_law_k", 2)]) (g := (gName 2)) (tt := tYes) (by rfl) sc_l_alike.nd (pi_range1 (by rfl) T.b_range (pa_cons (pe_callB call_len (by rfl) T.b_len (by decide +kernel) (pa_cons (pv 1) pa_nil)) pa_nil)) (blkOk_by (own := [("_law_k", 2)]) (N := N_l_alike) (sc := defScope s_l_alike) (by decide +kernel)) (fun _ _ _ _ _ => pg_name (i := 2) sc_l_alike.nd rfl (Or.inl rfl)) (fun _ _ _ _ _ => pts_nil) (fun _ _ _ _ _ => (pe_call ih (hr.mono (by omega)) (by rfl) T.l_alike.gl T.l_alike.fn.kp T.l_alike.bd .nil pass0 (pa_cons (pe_ix ix_seq (pv 0) (pv 2) (fun _ _ => rfl)) (pa_cons (pe_ix ix_seq (pv 1) (pv 2) (fun _ _ => rfl)) pa_nil))))) pa_nil))))))) pss_nil)
  (pss_cons (ps_if (pt_cmpR op_ne (pe_callB call_isi (by rfl) T.b_isinstance (by decide +kernel) (pa_cons (pv 1) (pa_cons (pe_bltn (by rfl) T.b_bool (by decide +kernel) rfl) pa_nil))) (pe_callB call_isi (by rfl) T.b_isinstance (by decide +kernel) (pa_cons (pv 0) (pa_cons (pe_bltn (by rfl) T.b_bool (by decide +kernel) rfl) pa_nil))) (nomark _)) (pss_one (ps_ret pe_bl)) pss_nil)
  (pss_cons (ps_if (pt_val (pe_callB call_isi (by rfl) T.b_isinstance (by decide +kernel) (pa_cons (pv 1) (pa_cons (pe_bltn (by rfl) T.b_int (by decide +kernel) rfl) pa_nil)))) (pss_one (ps_ret (pe_and (pe_callB call_isi (by rfl) T.b_isinstance (by decide +kernel) (pa_cons (pv 0) (pa_cons (pe_bltn (by rfl) T.b_int (by decide +kernel) rfl) pa_nil))) (pe_one (pe_cmpR op_eq (pv 0) (pv 1) (nomark _)))))) pss_nil)
  (pss_one (ps_ret (pe_and (pe_callB call_isi (by rfl) T.b_isinstance (by decide +kernel) (pa_cons (pv 0) (pa_cons (pe_bltn (by rfl) T.b_str (by decide +kernel) rfl) pa_nil))) (pe_one (pe_cmpR op_eq (pv 0) (pv 1) (nomark _))))))))))
theorem ok_l_asked (T : Txt K mg a) : FnOk P w K mg base CX0 7 a.l_asked a.l_asked_d ["_law_ask"] (sp_asked46 K a.c) := by
  refine T.l_asked.fn.ok sc_l_asked (fun vs H Q E h => ?_) (fun cdv A outer s H vs Q E hr h => ⟨t_l_asked K a.c, ?_, pure_asked  h⟩)
  · repeat' (first | (obtain ⟨e, _⟩ := h; (first | (subst e; rfl) | (rw [e]; rfl))) | (obtain ⟨_, h⟩ := h))
  · exact (pss_one (ps_try_asT (i := 1) (tb := fun W => (tRet (tTup (tCons (tC (.str "done")) (tCons (tCallS (sp_serves K a.c) (WE W) (tCons (tOp (rIx K) (tVar 0) (tC (.int 0))) (tCons (tOp (rIx K) (tVar 0) (tC (.int 1))) (tCons (tOp (rIx K) (tVar 0) (tC (.int 2))) (tCons (tOp (rIx K) (tVar 0) (tC (.int 3))) tNil))))) tNil))))) (ts := (tRet (tCall (sp_refusal K a.c) [] E0 (tCons (tVar 1) tNil)))) (Wout := (fun _ _ _ _ => False)) rfl rfl rfl sc_l_asked.nd rfl rfl ⟨rfl, by decide, Or.inl T.k_StoreError⟩ takes0
  (fun W pn xe tk _ => (pss_one (ps_ret (pe_tup (pa_cons pe_str (pa_cons (pe_callS (ok_p_serves T) (hr.mono (by decide)) (by rfl) T.p_serves.gl T.p_serves.fn.kp T.p_serves.bd (fun σ => passAt tk σ) (pa_cons (pe_ix ix_seq (pv 0) pe_int (fun _ _ => rfl)) (pa_cons (pe_ix ix_seq (pv 0) pe_int (fun _ _ => rfl)) (pa_cons (pe_ix ix_seq (pv 0) pe_int (fun _ _ => rfl)) (pa_cons (pe_ix ix_seq (pv 0) pe_int (fun _ _ => rfl)) pa_nil))))) pa_nil))))))
  (fun _ _ => (pss_one (ps_ret (pe_callU (ok_l_refusal T) (roomH_suite (hr.mono (by decide))) (by rfl) T.l_refusal.gl T.l_refusal.fn.kp T.l_refusal.bd (pa_cons (pv 1) pa_nil)))))))
theorem ok_l_refuses (T : Txt K mg a) : FnOk P w K mg base CX0 8 a.l_refuses a.l_refuses_d ["_law_draws_here"] (sp_refuses46 K a.c) := by
  refine T.l_refuses.fn.ok sc_l_refuses (fun vs H Q E h => ?_) (fun cdv A outer s H vs Q E hr h => ⟨t_l_refuses K a.c, ?_, pure_refuses  h⟩)
  · repeat' (first | (obtain ⟨e, _⟩ := h; (first | (subst e; rfl) | (rw [e]; rfl))) | (obtain ⟨_, h⟩ := h))
  · exact (pss_cons (ps_set (i := 1) sc_l_refuses.nd rfl (Or.inl rfl) (pe_callTy call_list_of (by rfl) T.b_list (by decide +kernel) (pa_cons (pe_call (ok_l_serves_ask T) (hr.mono (by decide)) (by rfl) T.l_serves_ask.gl T.l_serves_ask.fn.kp T.l_serves_ask.bd .nil pass0 (pa_cons (pv 0) pa_nil)) pa_nil)))
  (pss_cons (ps_set (i := 2) sc_l_refuses.nd rfl (Or.inl rfl) pe_int)
  (pss_cons (ps_for PassesOwn.never rfl (pi_range1 (by rfl) T.b_range (pa_cons (pe_op op_add pe_int (pe_call (ok_l_take T) (hr.mono (by decide)) (by rfl) T.l_take.gl T.l_take.fn.kp T.l_take.bd .nil pass0 (pa_cons (pv 0) (pa_cons pe_int pa_nil)))) pa_nil)) (pg_name (i := 3) sc_l_refuses.nd rfl (Or.inl rfl)) (pss_cons (ps_set (i := 4) sc_l_refuses.nd rfl (Or.inl rfl) (pe_call (ok_l_take T) (hr.mono (by decide)) (by rfl) T.l_take.gl T.l_take.fn.kp T.l_take.bd .nil pass0 (pa_cons (pv 0) (pa_cons pe_int pa_nil))))
  (pss_cons (ps_set (i := 2) sc_l_refuses.nd rfl (Or.inl rfl) (pe_callB (call_min2 rfl) (by rfl) T.b_min (by decide +kernel) (pa_cons (pv 2) (pa_cons (pv 4) pa_nil))))
  (pss_one (ps_if (pt_cmpR op_eq (pv 4) pe_int (nomark _)) (pss_one (ps_asg (pe_call (ok_l_not_alignment T) (hr.mono (by decide)) (by rfl) T.l_not_alignment.gl T.l_not_alignment.fn.kp T.l_not_alignment.bd .nil pass0 (pa_cons (pv 0) (pa_cons pe_int pa_nil))) (pg_sub (pv 1) (pv 4) set_list))) (pss_one (ps_asg (pe_call (ok_l_not_within T) (hr.mono (by decide)) (by rfl) T.l_not_within.gl T.l_not_within.fn.kp T.l_not_within.bd .nil pass0 (pa_cons (pv 0) (pa_cons (pe_ix ix_list (pe_lst (pa_cons pe_int (pa_cons pe_int (pa_cons pe_int pa_nil)))) (pv 4) (fun _ _ => rfl)) (pa_cons (pe_ix ix_list (pe_lst (pa_cons pe_int (pa_cons pe_int (pa_cons pe_int pa_nil)))) (pv 4) (fun _ _ => rfl)) pa_nil)))) (pg_sub (pv 1) (pv 4) set_list))))))))
  (pss_one (ps_ret (pe_call (ok_l_alike T 5) (hr.mono (by decide)) (by rfl) T.l_alike.gl T.l_alike.fn.kp T.l_alike.bd .nil pass0 (pa_cons (pe_call (ok_l_asked T) (hr.mono (by decide)) (by rfl) T.l_asked.gl T.l_asked.fn.kp T.l_asked.bd .nil pass0 (pa_cons (pv 1) pa_nil)) (pa_cons (pe_call (ok_l_refused T) (hr.mono (by decide)) (by rfl) T.l_refused.gl T.l_refused.fn.kp T.l_refused.bd .nil pass0 (pa_cons pe_str (pa_cons (pe_tup (pa_cons (pe_ix ix_list (pe_lst (pa_cons pe_str (pa_cons pe_str (pa_cons pe_str (pa_cons pe_str pa_nil))))) (pv 2) (fun _ _ => rfl)) pa_nil)) pa_nil))) pa_nil))))))))
theorem ok_l_law (T : Txt K mg a) : FnOk P w K mg base CX0 9 a.l_law a.l_law_d ["_law_script"] (sp_law46 K a.c) := by
  refine T.l_law.fn.ok sc_l_law (fun vs H Q E h => ?_) (fun cdv A outer s H vs Q E hr h => ⟨t_l_law K a.c, ?_, pure_law46  h⟩)
  · repeat' (first | (obtain ⟨e, _⟩ := h; (first | (subst e; rfl) | (rw [e]; rfl))) | (obtain ⟨_, h⟩ := h))
  · exact (pss_cons (ps_set (i := 1) sc_l_law.nd rfl (Or.inl rfl) (pe_call (ok_l_draws T) (hr.mono (by decide)) (by rfl) T.l_draws.gl T.l_draws.fn.kp T.l_draws.bd .nil pass0 (pa_cons (pv 0) pa_nil)))
  (pss_cons (ps_for PassesOwn.never rfl (pi_range1 (by rfl) T.b_range (pa_cons (pe_op op_add (pe_call (ok_l_count T) (hr.mono (by decide)) (by rfl) T.l_count.gl T.l_count.fn.kp T.l_count.bd .nil pass0 (pa_cons (pv 1) (pa_cons pe_int (pa_cons pe_int pa_nil)))) pe_int) pa_nil)) (pg_name (i := 2) sc_l_law.nd rfl (Or.inl rfl)) (pss_cons (ps_set (i := 3) sc_l_law.nd rfl (Or.inl rfl) (pe_call (ok_l_serves_ask T) (hr.mono (by decide)) (by rfl) T.l_serves_ask.gl T.l_serves_ask.fn.kp T.l_serves_ask.bd .nil pass0 (pa_cons (pv 1) pa_nil)))
  (pss_cons (ps_for PassesOwn.never rfl (pi_list (pe_call (ok_l_near T) (hr.mono (by decide)) (by rfl) T.l_near.gl T.l_near.fn.kp T.l_near.bd .nil pass0 (pa_cons (pv 3) pa_nil))) (pg_name (i := 4) sc_l_law.nd rfl (Or.inl rfl)) (pss_one (ps_if (pt_not (pt_val (pe_call (ok_l_alike T 5) (hr.mono (by decide)) (by rfl) T.l_alike.gl T.l_alike.fn.kp T.l_alike.bd .nil pass0 (pa_cons (pe_call (ok_l_asked T) (hr.mono (by decide)) (by rfl) T.l_asked.gl T.l_asked.fn.kp T.l_asked.bd .nil pass0 (pa_cons (pv 4) pa_nil)) (pa_cons (pe_call (ok_l_due T) (hr.mono (by decide)) (by rfl) T.l_due.gl T.l_due.fn.kp T.l_due.bd .nil pass0 (pa_cons (pv 4) pa_nil)) pa_nil))))) (pss_one (ps_ret pe_bl)) pss_nil)))
  (pss_one (ps_if (pt_not (pt_val (pe_call (ok_l_refuses T) (hr.mono (by decide)) (by rfl) T.l_refuses.gl T.l_refuses.fn.kp T.l_refuses.bd .nil pass0 (pa_cons (pv 1) pa_nil)))) (pss_one (ps_ret pe_bl)) pss_nil)))))
  (pss_one (ps_ret pe_bl))))
end
/-- the facts of the top, gathered -/
theorem all_mk {P : Program} {w : World} {K : PySem.W.Frag} {h : Heap} {mg : Str → Option Value} {fa : Addr} (X : K.In h) (G : h.Ns mainGlobals mg) (hfa : mg "law" = some (.ref fa))
    {C_StoreError C_BadValue C_Broken C_Unknown C_NotHeld C_Fault C_NoRoom C_Cut C_BadLine f_c_BadValue_init f_p_is_whole f_p_whole_between f_p_is_power f_p_is_align f_p_align_up f_p_check_number f_p_check_align f_p_serving_place f_p_serves f_l_draws f_l_next_cell f_l_mixed f_l_take f_l_among f_l_between f_l_number f_l_count f_l_alignment f_l_long f_l_not_integer f_l_not_within f_l_not_alignment f_l_serves_at f_l_serves_ask f_l_refusal f_l_refused f_l_alike f_l_asked f_l_near f_l_first_bad f_l_due f_l_refuses f_l_law : Addr}
    {oc_c_BadValue_init kV_c_BadValue_init dc_c_BadValue_init pm_c_BadValue_init cd_c_BadValue_init ct_c_BadValue_init oc_p_is_whole kV_p_is_whole dc_p_is_whole pm_p_is_whole cd_p_is_whole ct_p_is_whole oc_p_whole_between kV_p_whole_between dc_p_whole_between pm_p_whole_between cd_p_whole_between ct_p_whole_between oc_p_is_power kV_p_is_power dc_p_is_power pm_p_is_power cd_p_is_power ct_p_is_power oc_p_is_align kV_p_is_align dc_p_is_align pm_p_is_align cd_p_is_align ct_p_is_align oc_p_align_up kV_p_align_up dc_p_align_up pm_p_align_up cd_p_align_up ct_p_align_up oc_p_check_number kV_p_check_number dc_p_check_number pm_p_check_number cd_p_check_number ct_p_check_number oc_p_check_align kV_p_check_align dc_p_check_align pm_p_check_align cd_p_check_align ct_p_check_align oc_p_serving_place kV_p_serving_place dc_p_serving_place pm_p_serving_place cd_p_serving_place ct_p_serving_place oc_p_serves kV_p_serves dc_p_serves pm_p_serves cd_p_serves ct_p_serves oc_l_draws kV_l_draws dc_l_draws pm_l_draws cd_l_draws ct_l_draws oc_l_next_cell kV_l_next_cell dc_l_next_cell pm_l_next_cell cd_l_next_cell ct_l_next_cell oc_l_mixed kV_l_mixed dc_l_mixed pm_l_mixed cd_l_mixed ct_l_mixed oc_l_take kV_l_take dc_l_take pm_l_take cd_l_take ct_l_take oc_l_among kV_l_among dc_l_among pm_l_among cd_l_among ct_l_among oc_l_between kV_l_between dc_l_between pm_l_between cd_l_between ct_l_between oc_l_number kV_l_number dc_l_number pm_l_number cd_l_number ct_l_number oc_l_count kV_l_count dc_l_count pm_l_count cd_l_count ct_l_count oc_l_alignment kV_l_alignment dc_l_alignment pm_l_alignment cd_l_alignment ct_l_alignment oc_l_long kV_l_long dc_l_long pm_l_long cd_l_long ct_l_long oc_l_not_integer kV_l_not_integer dc_l_not_integer pm_l_not_integer cd_l_not_integer ct_l_not_integer oc_l_not_within kV_l_not_within dc_l_not_within pm_l_not_within cd_l_not_within ct_l_not_within oc_l_not_alignment kV_l_not_alignment dc_l_not_alignment pm_l_not_alignment cd_l_not_alignment ct_l_not_alignment oc_l_serves_at kV_l_serves_at dc_l_serves_at pm_l_serves_at cd_l_serves_at ct_l_serves_at oc_l_serves_ask kV_l_serves_ask dc_l_serves_ask pm_l_serves_ask cd_l_serves_ask ct_l_serves_ask oc_l_refusal kV_l_refusal dc_l_refusal pm_l_refusal cd_l_refusal ct_l_refusal oc_l_refused kV_l_refused dc_l_refused pm_l_refused cd_l_refused ct_l_refused oc_l_alike kV_l_alike dc_l_alike pm_l_alike cd_l_alike ct_l_alike oc_l_asked kV_l_asked dc_l_asked pm_l_asked cd_l_asked ct_l_asked oc_l_near kV_l_near dc_l_near pm_l_near cd_l_near ct_l_near oc_l_first_bad kV_l_first_bad dc_l_first_bad pm_l_first_bad cd_l_first_bad ct_l_first_bad oc_l_due kV_l_due dc_l_due pm_l_due cd_l_due ct_l_due oc_l_refuses kV_l_refuses dc_l_refuses pm_l_refuses cd_l_refuses ct_l_refuses oc_l_law kV_l_law dc_l_law pm_l_law cd_l_law ct_l_law v_LEAST_PIECE v_MOST_ALIGN_marks v_MOST_ALIGN_spans v_MOST_END v_MOST_PLACES : Value}
    {od_c_BadValue_init an_c_BadValue_init od_p_is_whole an_p_is_whole od_p_whole_between an_p_whole_between od_p_is_power an_p_is_power od_p_is_align an_p_is_align od_p_align_up an_p_align_up od_p_check_number an_p_check_number od_p_check_align an_p_check_align od_p_serving_place an_p_serving_place od_p_serves an_p_serves od_l_draws an_l_draws od_l_next_cell an_l_next_cell od_l_mixed an_l_mixed od_l_take an_l_take od_l_among an_l_among od_l_between an_l_between od_l_number an_l_number od_l_count an_l_count od_l_alignment an_l_alignment od_l_long an_l_long od_l_not_integer an_l_not_integer od_l_not_within an_l_not_within od_l_not_alignment an_l_not_alignment od_l_serves_at an_l_serves_at od_l_serves_ask an_l_serves_ask od_l_refusal an_l_refusal od_l_refused an_l_refused od_l_alike an_l_alike od_l_asked an_l_asked od_l_near an_l_near od_l_first_bad an_l_first_bad od_l_due an_l_due od_l_refuses an_l_refuses od_l_law an_l_law : Option Addr} {sl_c_BadValue_init sl_p_is_whole sl_p_whole_between sl_p_is_power sl_p_is_align sl_p_align_up sl_p_check_number sl_p_check_align sl_p_serving_place sl_p_serves sl_l_draws sl_l_next_cell sl_l_mixed sl_l_take sl_l_among sl_l_between sl_l_number sl_l_count sl_l_alignment sl_l_long sl_l_not_integer sl_l_not_within sl_l_not_alignment sl_l_serves_at sl_l_serves_ask sl_l_refusal sl_l_refused sl_l_alike sl_l_asked sl_l_near sl_l_first_bad sl_l_due sl_l_refuses sl_l_law : Array (Option Value)}
    {nm_BadValue qn_BadValue : Str} {N_BadValue : Addr} {bs_BadValue : List Value} {sn_BadValue : List Str} {sub_BadValue : List Value} {ab_BadValue : Bool} {col_BadValue : Option Bool} {dd_BadValue : Option Addr} {m0_BadValue m1_BadValue m2_BadValue m3_BadValue m5_BadValue : Option Value}
    (q_StoreError : PySem.W.nsIn K mainGlobals "StoreError" = some (some (.ref C_StoreError)))
    (q_BadValue : PySem.W.nsIn K mainGlobals "BadValue" = some (some (.ref C_BadValue)))
    (q_Broken : PySem.W.nsIn K mainGlobals "Broken" = some (some (.ref C_Broken)))
    (q_Unknown : PySem.W.nsIn K mainGlobals "Unknown" = some (some (.ref C_Unknown)))
    (q_NotHeld : PySem.W.nsIn K mainGlobals "NotHeld" = some (some (.ref C_NotHeld)))
    (q_Fault : PySem.W.nsIn K mainGlobals "Fault" = some (some (.ref C_Fault)))
    (q_NoRoom : PySem.W.nsIn K mainGlobals "NoRoom" = some (some (.ref C_NoRoom)))
    (q_Cut : PySem.W.nsIn K mainGlobals "Cut" = some (some (.ref C_Cut)))
    (q_BadLine : PySem.W.nsIn K mainGlobals "BadLine" = some (some (.ref C_BadLine)))
    (a_c_BadValue_init : PySem.W.findIn K (.ref C_BadValue) "__init__" = some (some (.ref f_c_BadValue_init)))
    (t_c_BadValue_init : PySem.W.typeIn K (.ref f_c_BadValue_init) = some (.type "function"))
    (l_c_BadValue_init : K.lookup f_c_BadValue_init = some ⟨oc_c_BadValue_init, od_c_BadValue_init, .func (PySem.W.fnOf "__init__" "BadValue.__init__" (defArgs s_c_BadValue_init) (defBody s_c_BadValue_init) (defScope s_c_BadValue_init) .none kV_c_BadValue_init dc_c_BadValue_init pm_c_BadValue_init an_c_BadValue_init cd_c_BadValue_init ct_c_BadValue_init), sl_c_BadValue_init⟩)
    (c_c_BadValue_init : PySem.W.codeIn K cd_c_BadValue_init "BadValue.__init__" = true)
    (k_c_BadValue_init : PySem.W.keepIn K (.ref f_c_BadValue_init) = true)
    (a_p_is_whole : PySem.W.nsIn K mainGlobals "is_whole" = some (some (.ref f_p_is_whole)))
    (l_p_is_whole : K.lookup f_p_is_whole = some ⟨oc_p_is_whole, od_p_is_whole, .func (PySem.W.fnOf "is_whole" "is_whole" (defArgs s_p_is_whole) (defBody s_p_is_whole) (defScope s_p_is_whole) .none kV_p_is_whole dc_p_is_whole pm_p_is_whole an_p_is_whole cd_p_is_whole ct_p_is_whole), sl_p_is_whole⟩)
    (c_p_is_whole : PySem.W.codeIn K cd_p_is_whole "is_whole" = true)
    (k_p_is_whole : PySem.W.keepIn K (.ref f_p_is_whole) = true)
    (a_p_whole_between : PySem.W.nsIn K mainGlobals "whole_between" = some (some (.ref f_p_whole_between)))
    (l_p_whole_between : K.lookup f_p_whole_between = some ⟨oc_p_whole_between, od_p_whole_between, .func (PySem.W.fnOf "whole_between" "whole_between" (defArgs s_p_whole_between) (defBody s_p_whole_between) (defScope s_p_whole_between) .none kV_p_whole_between dc_p_whole_between pm_p_whole_between an_p_whole_between cd_p_whole_between ct_p_whole_between), sl_p_whole_between⟩)
    (c_p_whole_between : PySem.W.codeIn K cd_p_whole_between "whole_between" = true)
    (k_p_whole_between : PySem.W.keepIn K (.ref f_p_whole_between) = true)
    (a_p_is_power : PySem.W.nsIn K mainGlobals "is_power" = some (some (.ref f_p_is_power)))
    (l_p_is_power : K.lookup f_p_is_power = some ⟨oc_p_is_power, od_p_is_power, .func (PySem.W.fnOf "is_power" "is_power" (defArgs s_p_is_power) (defBody s_p_is_power) (defScope s_p_is_power) .none kV_p_is_power dc_p_is_power pm_p_is_power an_p_is_power cd_p_is_power ct_p_is_power), sl_p_is_power⟩)
    (c_p_is_power : PySem.W.codeIn K cd_p_is_power "is_power" = true)
    (k_p_is_power : PySem.W.keepIn K (.ref f_p_is_power) = true)
    (a_p_is_align : PySem.W.nsIn K mainGlobals "is_align" = some (some (.ref f_p_is_align)))
    (l_p_is_align : K.lookup f_p_is_align = some ⟨oc_p_is_align, od_p_is_align, .func (PySem.W.fnOf "is_align" "is_align" (defArgs s_p_is_align) (defBody s_p_is_align) (defScope s_p_is_align) .none kV_p_is_align dc_p_is_align pm_p_is_align an_p_is_align cd_p_is_align ct_p_is_align), sl_p_is_align⟩)
    (c_p_is_align : PySem.W.codeIn K cd_p_is_align "is_align" = true)
    (k_p_is_align : PySem.W.keepIn K (.ref f_p_is_align) = true)
    (a_p_align_up : PySem.W.nsIn K mainGlobals "align_up" = some (some (.ref f_p_align_up)))
    (l_p_align_up : K.lookup f_p_align_up = some ⟨oc_p_align_up, od_p_align_up, .func (PySem.W.fnOf "align_up" "align_up" (defArgs s_p_align_up) (defBody s_p_align_up) (defScope s_p_align_up) .none kV_p_align_up dc_p_align_up pm_p_align_up an_p_align_up cd_p_align_up ct_p_align_up), sl_p_align_up⟩)
    (c_p_align_up : PySem.W.codeIn K cd_p_align_up "align_up" = true)
    (k_p_align_up : PySem.W.keepIn K (.ref f_p_align_up) = true)
    (a_p_check_number : PySem.W.nsIn K mainGlobals "check_number" = some (some (.ref f_p_check_number)))
    (l_p_check_number : K.lookup f_p_check_number = some ⟨oc_p_check_number, od_p_check_number, .func (PySem.W.fnOf "check_number" "check_number" (defArgs s_p_check_number) (defBody s_p_check_number) (defScope s_p_check_number) .none kV_p_check_number dc_p_check_number pm_p_check_number an_p_check_number cd_p_check_number ct_p_check_number), sl_p_check_number⟩)
    (c_p_check_number : PySem.W.codeIn K cd_p_check_number "check_number" = true)
    (k_p_check_number : PySem.W.keepIn K (.ref f_p_check_number) = true)
    (a_p_check_align : PySem.W.nsIn K mainGlobals "check_align" = some (some (.ref f_p_check_align)))
    (l_p_check_align : K.lookup f_p_check_align = some ⟨oc_p_check_align, od_p_check_align, .func (PySem.W.fnOf "check_align" "check_align" (defArgs s_p_check_align) (defBody s_p_check_align) (defScope s_p_check_align) .none kV_p_check_align dc_p_check_align pm_p_check_align an_p_check_align cd_p_check_align ct_p_check_align), sl_p_check_align⟩)
    (c_p_check_align : PySem.W.codeIn K cd_p_check_align "check_align" = true)
    (k_p_check_align : PySem.W.keepIn K (.ref f_p_check_align) = true)
    (a_p_serving_place : PySem.W.nsIn K mainGlobals "serving_place" = some (some (.ref f_p_serving_place)))
    (l_p_serving_place : K.lookup f_p_serving_place = some ⟨oc_p_serving_place, od_p_serving_place, .func (PySem.W.fnOf "serving_place" "serving_place" (defArgs s_p_serving_place) (defBody s_p_serving_place) (defScope s_p_serving_place) .none kV_p_serving_place dc_p_serving_place pm_p_serving_place an_p_serving_place cd_p_serving_place ct_p_serving_place), sl_p_serving_place⟩)
    (c_p_serving_place : PySem.W.codeIn K cd_p_serving_place "serving_place" = true)
    (k_p_serving_place : PySem.W.keepIn K (.ref f_p_serving_place) = true)
    (a_p_serves : PySem.W.nsIn K mainGlobals "serves" = some (some (.ref f_p_serves)))
    (l_p_serves : K.lookup f_p_serves = some ⟨oc_p_serves, od_p_serves, .func (PySem.W.fnOf "serves" "serves" (defArgs s_p_serves) (defBody s_p_serves) (defScope s_p_serves) .none kV_p_serves dc_p_serves pm_p_serves an_p_serves cd_p_serves ct_p_serves), sl_p_serves⟩)
    (c_p_serves : PySem.W.codeIn K cd_p_serves "serves" = true)
    (k_p_serves : PySem.W.keepIn K (.ref f_p_serves) = true)
    (a_l_draws : PySem.W.nsIn K mainGlobals "_law_draws" = some (some (.ref f_l_draws)))
    (l_l_draws : K.lookup f_l_draws = some ⟨oc_l_draws, od_l_draws, .func (PySem.W.fnOf "_law_draws" "_law_draws" (defArgs s_l_draws) (defBody s_l_draws) (defScope s_l_draws) .none kV_l_draws dc_l_draws pm_l_draws an_l_draws cd_l_draws ct_l_draws), sl_l_draws⟩)
    (c_l_draws : PySem.W.codeIn K cd_l_draws "_law_draws" = true)
    (k_l_draws : PySem.W.keepIn K (.ref f_l_draws) = true)
    (a_l_next_cell : PySem.W.nsIn K mainGlobals "_law_next_cell" = some (some (.ref f_l_next_cell)))
    (l_l_next_cell : K.lookup f_l_next_cell = some ⟨oc_l_next_cell, od_l_next_cell, .func (PySem.W.fnOf "_law_next_cell" "_law_next_cell" (defArgs s_l_next_cell) (defBody s_l_next_cell) (defScope s_l_next_cell) .none kV_l_next_cell dc_l_next_cell pm_l_next_cell an_l_next_cell cd_l_next_cell ct_l_next_cell), sl_l_next_cell⟩)
    (c_l_next_cell : PySem.W.codeIn K cd_l_next_cell "_law_next_cell" = true)
    (k_l_next_cell : PySem.W.keepIn K (.ref f_l_next_cell) = true)
    (a_l_mixed : PySem.W.nsIn K mainGlobals "_law_mixed" = some (some (.ref f_l_mixed)))
    (l_l_mixed : K.lookup f_l_mixed = some ⟨oc_l_mixed, od_l_mixed, .func (PySem.W.fnOf "_law_mixed" "_law_mixed" (defArgs s_l_mixed) (defBody s_l_mixed) (defScope s_l_mixed) .none kV_l_mixed dc_l_mixed pm_l_mixed an_l_mixed cd_l_mixed ct_l_mixed), sl_l_mixed⟩)
    (c_l_mixed : PySem.W.codeIn K cd_l_mixed "_law_mixed" = true)
    (k_l_mixed : PySem.W.keepIn K (.ref f_l_mixed) = true)
    (a_l_take : PySem.W.nsIn K mainGlobals "_law_take" = some (some (.ref f_l_take)))
    (l_l_take : K.lookup f_l_take = some ⟨oc_l_take, od_l_take, .func (PySem.W.fnOf "_law_take" "_law_take" (defArgs s_l_take) (defBody s_l_take) (defScope s_l_take) .none kV_l_take dc_l_take pm_l_take an_l_take cd_l_take ct_l_take), sl_l_take⟩)
    (c_l_take : PySem.W.codeIn K cd_l_take "_law_take" = true)
    (k_l_take : PySem.W.keepIn K (.ref f_l_take) = true)
    (a_l_among : PySem.W.nsIn K mainGlobals "_law_among" = some (some (.ref f_l_among)))
    (l_l_among : K.lookup f_l_among = some ⟨oc_l_among, od_l_among, .func (PySem.W.fnOf "_law_among" "_law_among" (defArgs s_l_among) (defBody s_l_among) (defScope s_l_among) .none kV_l_among dc_l_among pm_l_among an_l_among cd_l_among ct_l_among), sl_l_among⟩)
    (c_l_among : PySem.W.codeIn K cd_l_among "_law_among" = true)
    (k_l_among : PySem.W.keepIn K (.ref f_l_among) = true)
    (a_l_between : PySem.W.nsIn K mainGlobals "_law_between" = some (some (.ref f_l_between)))
    (l_l_between : K.lookup f_l_between = some ⟨oc_l_between, od_l_between, .func (PySem.W.fnOf "_law_between" "_law_between" (defArgs s_l_between) (defBody s_l_between) (defScope s_l_between) .none kV_l_between dc_l_between pm_l_between an_l_between cd_l_between ct_l_between), sl_l_between⟩)
    (c_l_between : PySem.W.codeIn K cd_l_between "_law_between" = true)
    (k_l_between : PySem.W.keepIn K (.ref f_l_between) = true)
    (a_l_number : PySem.W.nsIn K mainGlobals "_law_number" = some (some (.ref f_l_number)))
    (l_l_number : K.lookup f_l_number = some ⟨oc_l_number, od_l_number, .func (PySem.W.fnOf "_law_number" "_law_number" (defArgs s_l_number) (defBody s_l_number) (defScope s_l_number) .none kV_l_number dc_l_number pm_l_number an_l_number cd_l_number ct_l_number), sl_l_number⟩)
    (c_l_number : PySem.W.codeIn K cd_l_number "_law_number" = true)
    (k_l_number : PySem.W.keepIn K (.ref f_l_number) = true)
    (a_l_count : PySem.W.nsIn K mainGlobals "_law_count" = some (some (.ref f_l_count)))
    (l_l_count : K.lookup f_l_count = some ⟨oc_l_count, od_l_count, .func (PySem.W.fnOf "_law_count" "_law_count" (defArgs s_l_count) (defBody s_l_count) (defScope s_l_count) .none kV_l_count dc_l_count pm_l_count an_l_count cd_l_count ct_l_count), sl_l_count⟩)
    (c_l_count : PySem.W.codeIn K cd_l_count "_law_count" = true)
    (k_l_count : PySem.W.keepIn K (.ref f_l_count) = true)
    (a_l_alignment : PySem.W.nsIn K mainGlobals "_law_alignment" = some (some (.ref f_l_alignment)))
    (l_l_alignment : K.lookup f_l_alignment = some ⟨oc_l_alignment, od_l_alignment, .func (PySem.W.fnOf "_law_alignment" "_law_alignment" (defArgs s_l_alignment) (defBody s_l_alignment) (defScope s_l_alignment) .none kV_l_alignment dc_l_alignment pm_l_alignment an_l_alignment cd_l_alignment ct_l_alignment), sl_l_alignment⟩)
    (c_l_alignment : PySem.W.codeIn K cd_l_alignment "_law_alignment" = true)
    (k_l_alignment : PySem.W.keepIn K (.ref f_l_alignment) = true)
    (a_l_long : PySem.W.nsIn K mainGlobals "_law_long" = some (some (.ref f_l_long)))
    (l_l_long : K.lookup f_l_long = some ⟨oc_l_long, od_l_long, .func (PySem.W.fnOf "_law_long" "_law_long" (defArgs s_l_long) (defBody s_l_long) (defScope s_l_long) .none kV_l_long dc_l_long pm_l_long an_l_long cd_l_long ct_l_long), sl_l_long⟩)
    (c_l_long : PySem.W.codeIn K cd_l_long "_law_long" = true)
    (k_l_long : PySem.W.keepIn K (.ref f_l_long) = true)
    (a_l_not_integer : PySem.W.nsIn K mainGlobals "_law_not_integer" = some (some (.ref f_l_not_integer)))
    (l_l_not_integer : K.lookup f_l_not_integer = some ⟨oc_l_not_integer, od_l_not_integer, .func (PySem.W.fnOf "_law_not_integer" "_law_not_integer" (defArgs s_l_not_integer) (defBody s_l_not_integer) (defScope s_l_not_integer) .none kV_l_not_integer dc_l_not_integer pm_l_not_integer an_l_not_integer cd_l_not_integer ct_l_not_integer), sl_l_not_integer⟩)
    (c_l_not_integer : PySem.W.codeIn K cd_l_not_integer "_law_not_integer" = true)
    (k_l_not_integer : PySem.W.keepIn K (.ref f_l_not_integer) = true)
    (a_l_not_within : PySem.W.nsIn K mainGlobals "_law_not_within" = some (some (.ref f_l_not_within)))
    (l_l_not_within : K.lookup f_l_not_within = some ⟨oc_l_not_within, od_l_not_within, .func (PySem.W.fnOf "_law_not_within" "_law_not_within" (defArgs s_l_not_within) (defBody s_l_not_within) (defScope s_l_not_within) .none kV_l_not_within dc_l_not_within pm_l_not_within an_l_not_within cd_l_not_within ct_l_not_within), sl_l_not_within⟩)
    (c_l_not_within : PySem.W.codeIn K cd_l_not_within "_law_not_within" = true)
    (k_l_not_within : PySem.W.keepIn K (.ref f_l_not_within) = true)
    (a_l_not_alignment : PySem.W.nsIn K mainGlobals "_law_not_alignment" = some (some (.ref f_l_not_alignment)))
    (l_l_not_alignment : K.lookup f_l_not_alignment = some ⟨oc_l_not_alignment, od_l_not_alignment, .func (PySem.W.fnOf "_law_not_alignment" "_law_not_alignment" (defArgs s_l_not_alignment) (defBody s_l_not_alignment) (defScope s_l_not_alignment) .none kV_l_not_alignment dc_l_not_alignment pm_l_not_alignment an_l_not_alignment cd_l_not_alignment ct_l_not_alignment), sl_l_not_alignment⟩)
    (c_l_not_alignment : PySem.W.codeIn K cd_l_not_alignment "_law_not_alignment" = true)
    (k_l_not_alignment : PySem.W.keepIn K (.ref f_l_not_alignment) = true)
    (a_l_serves_at : PySem.W.nsIn K mainGlobals "_law_serves_at" = some (some (.ref f_l_serves_at)))
    (l_l_serves_at : K.lookup f_l_serves_at = some ⟨oc_l_serves_at, od_l_serves_at, .func (PySem.W.fnOf "_law_serves_at" "_law_serves_at" (defArgs s_l_serves_at) (defBody s_l_serves_at) (defScope s_l_serves_at) .none kV_l_serves_at dc_l_serves_at pm_l_serves_at an_l_serves_at cd_l_serves_at ct_l_serves_at), sl_l_serves_at⟩)
    (c_l_serves_at : PySem.W.codeIn K cd_l_serves_at "_law_serves_at" = true)
    (k_l_serves_at : PySem.W.keepIn K (.ref f_l_serves_at) = true)
    (a_l_serves_ask : PySem.W.nsIn K mainGlobals "_law_serves_ask" = some (some (.ref f_l_serves_ask)))
    (l_l_serves_ask : K.lookup f_l_serves_ask = some ⟨oc_l_serves_ask, od_l_serves_ask, .func (PySem.W.fnOf "_law_serves_ask" "_law_serves_ask" (defArgs s_l_serves_ask) (defBody s_l_serves_ask) (defScope s_l_serves_ask) .none kV_l_serves_ask dc_l_serves_ask pm_l_serves_ask an_l_serves_ask cd_l_serves_ask ct_l_serves_ask), sl_l_serves_ask⟩)
    (c_l_serves_ask : PySem.W.codeIn K cd_l_serves_ask "_law_serves_ask" = true)
    (k_l_serves_ask : PySem.W.keepIn K (.ref f_l_serves_ask) = true)
    (a_l_refusal : PySem.W.nsIn K mainGlobals "_law_refusal" = some (some (.ref f_l_refusal)))
    (l_l_refusal : K.lookup f_l_refusal = some ⟨oc_l_refusal, od_l_refusal, .func (PySem.W.fnOf "_law_refusal" "_law_refusal" (defArgs s_l_refusal) (defBody s_l_refusal) (defScope s_l_refusal) .none kV_l_refusal dc_l_refusal pm_l_refusal an_l_refusal cd_l_refusal ct_l_refusal), sl_l_refusal⟩)
    (c_l_refusal : PySem.W.codeIn K cd_l_refusal "_law_refusal" = true)
    (k_l_refusal : PySem.W.keepIn K (.ref f_l_refusal) = true)
    (a_l_refused : PySem.W.nsIn K mainGlobals "_law_refused" = some (some (.ref f_l_refused)))
    (l_l_refused : K.lookup f_l_refused = some ⟨oc_l_refused, od_l_refused, .func (PySem.W.fnOf "_law_refused" "_law_refused" (defArgs s_l_refused) (defBody s_l_refused) (defScope s_l_refused) .none kV_l_refused dc_l_refused pm_l_refused an_l_refused cd_l_refused ct_l_refused), sl_l_refused⟩)
    (c_l_refused : PySem.W.codeIn K cd_l_refused "_law_refused" = true)
    (k_l_refused : PySem.W.keepIn K (.ref f_l_refused) = true)
    (a_l_alike : PySem.W.nsIn K mainGlobals "_law_alike" = some (some (.ref f_l_alike)))
    (l_l_alike : K.lookup f_l_alike = some ⟨oc_l_alike, od_l_alike, .func (PySem.W.fnOf "_law_alike" "_law_alike" (defArgs s_l_alike) (defBody s_l_alike) (defScope s_l_alike) .none kV_l_alike dc_l_alike pm_l_alike an_l_alike cd_l_alike ct_l_alike), sl_l_alike⟩)
    (c_l_alike : PySem.W.codeIn K cd_l_alike "_law_alike" = true)
    (k_l_alike : PySem.W.keepIn K (.ref f_l_alike) = true)
    (a_l_asked : PySem.W.nsIn K mainGlobals "_law_asked" = some (some (.ref f_l_asked)))
    (l_l_asked : K.lookup f_l_asked = some ⟨oc_l_asked, od_l_asked, .func (PySem.W.fnOf "_law_asked" "_law_asked" (defArgs s_l_asked) (defBody s_l_asked) (defScope s_l_asked) .none kV_l_asked dc_l_asked pm_l_asked an_l_asked cd_l_asked ct_l_asked), sl_l_asked⟩)
    (c_l_asked : PySem.W.codeIn K cd_l_asked "_law_asked" = true)
    (k_l_asked : PySem.W.keepIn K (.ref f_l_asked) = true)
    (a_l_near : PySem.W.nsIn K mainGlobals "_law_near" = some (some (.ref f_l_near)))
    (l_l_near : K.lookup f_l_near = some ⟨oc_l_near, od_l_near, .func (PySem.W.fnOf "_law_near" "_law_near" (defArgs s_l_near) (defBody s_l_near) (defScope s_l_near) .none kV_l_near dc_l_near pm_l_near an_l_near cd_l_near ct_l_near), sl_l_near⟩)
    (c_l_near : PySem.W.codeIn K cd_l_near "_law_near" = true)
    (k_l_near : PySem.W.keepIn K (.ref f_l_near) = true)
    (a_l_first_bad : PySem.W.nsIn K mainGlobals "_law_first_bad" = some (some (.ref f_l_first_bad)))
    (l_l_first_bad : K.lookup f_l_first_bad = some ⟨oc_l_first_bad, od_l_first_bad, .func (PySem.W.fnOf "_law_first_bad" "_law_first_bad" (defArgs s_l_first_bad) (defBody s_l_first_bad) (defScope s_l_first_bad) .none kV_l_first_bad dc_l_first_bad pm_l_first_bad an_l_first_bad cd_l_first_bad ct_l_first_bad), sl_l_first_bad⟩)
    (c_l_first_bad : PySem.W.codeIn K cd_l_first_bad "_law_first_bad" = true)
    (k_l_first_bad : PySem.W.keepIn K (.ref f_l_first_bad) = true)
    (a_l_due : PySem.W.nsIn K mainGlobals "_law_due" = some (some (.ref f_l_due)))
    (l_l_due : K.lookup f_l_due = some ⟨oc_l_due, od_l_due, .func (PySem.W.fnOf "_law_due" "_law_due" (defArgs s_l_due) (defBody s_l_due) (defScope s_l_due) .none kV_l_due dc_l_due pm_l_due an_l_due cd_l_due ct_l_due), sl_l_due⟩)
    (c_l_due : PySem.W.codeIn K cd_l_due "_law_due" = true)
    (k_l_due : PySem.W.keepIn K (.ref f_l_due) = true)
    (a_l_refuses : PySem.W.nsIn K mainGlobals "_law_refuses" = some (some (.ref f_l_refuses)))
    (l_l_refuses : K.lookup f_l_refuses = some ⟨oc_l_refuses, od_l_refuses, .func (PySem.W.fnOf "_law_refuses" "_law_refuses" (defArgs s_l_refuses) (defBody s_l_refuses) (defScope s_l_refuses) .none kV_l_refuses dc_l_refuses pm_l_refuses an_l_refuses cd_l_refuses ct_l_refuses), sl_l_refuses⟩)
    (c_l_refuses : PySem.W.codeIn K cd_l_refuses "_law_refuses" = true)
    (k_l_refuses : PySem.W.keepIn K (.ref f_l_refuses) = true)
    (a_l_law : PySem.W.nsIn K mainGlobals "law" = some (some (.ref f_l_law)))
    (l_l_law : K.lookup f_l_law = some ⟨oc_l_law, od_l_law, .func (PySem.W.fnOf "law" "law" (defArgs s_l_law) (defBody s_l_law) (defScope s_l_law) .none kV_l_law dc_l_law pm_l_law an_l_law cd_l_law ct_l_law), sl_l_law⟩)
    (c_l_law : PySem.W.codeIn K cd_l_law "law" = true)
    (k_l_law : PySem.W.keepIn K (.ref f_l_law) = true)
    (z_all : PySem.W.nsIn K mainGlobals "all" = some none)
    (z_bool : PySem.W.nsIn K mainGlobals "bool" = some none)
    (z_int : PySem.W.nsIn K mainGlobals "int" = some none)
    (z_isinstance : PySem.W.nsIn K mainGlobals "isinstance" = some none)
    (z_len : PySem.W.nsIn K mainGlobals "len" = some none)
    (z_list : PySem.W.nsIn K mainGlobals "list" = some none)
    (z_max : PySem.W.nsIn K mainGlobals "max" = some none)
    (z_min : PySem.W.nsIn K mainGlobals "min" = some none)
    (z_range : PySem.W.nsIn K mainGlobals "range" = some none)
    (z_str : PySem.W.nsIn K mainGlobals "str" = some none)
    (z_tuple : PySem.W.nsIn K mainGlobals "tuple" = some none)
    (g_LEAST_PIECE : PySem.W.nsIn K mainGlobals "LEAST_PIECE" = some (some v_LEAST_PIECE))
    (r_LEAST_PIECE : RelV (.int 3) v_LEAST_PIECE)
    (g_MOST_ALIGN_marks : PySem.W.nsIn K mainGlobals "MOST_ALIGN_marks" = some (some v_MOST_ALIGN_marks))
    (r_MOST_ALIGN_marks : RelV (.int 4096) v_MOST_ALIGN_marks)
    (g_MOST_ALIGN_spans : PySem.W.nsIn K mainGlobals "MOST_ALIGN_spans" = some (some v_MOST_ALIGN_spans))
    (r_MOST_ALIGN_spans : RelV (.int 1073741824) v_MOST_ALIGN_spans)
    (g_MOST_END : PySem.W.nsIn K mainGlobals "MOST_END" = some (some v_MOST_END))
    (r_MOST_END : RelV (.int 1000000000) v_MOST_END)
    (g_MOST_PLACES : PySem.W.nsIn K mainGlobals "MOST_PLACES" = some (some v_MOST_PLACES))
    (r_MOST_PLACES : RelV (.int 16384) v_MOST_PLACES)
    (sa_StoreError : PySem.W.findIn K (.ref C_StoreError) "__setattr__" = some (some (.builtin "object.__setattr__")))
    (ga_StoreError : PySem.W.findIn K (.ref C_StoreError) "__getattribute__" = some (some (.builtin "BaseException.__getattribute__")))
    (gg_StoreError : PySem.W.findIn K (.ref C_StoreError) "__getattr__" = some none)
    (cc_StoreError : PySem.W.findIn K (.ref C_StoreError) "__class__" = some (some (.builtin "object.__class__")))
    (eb_StoreError : PySem.W.subIn K (.ref C_StoreError) (.type "BaseException") = some true)
    (ty_StoreError : PySem.W.typeIn K (.ref C_StoreError) = some (.type "type"))
    (kp_StoreError : PySem.W.keepIn K (.ref C_StoreError) = true)
    (hd_StoreError : PySem.W.hasDictIn K C_StoreError = true)
    (mo_StoreError : PySem.W.mroIn K C_StoreError (.type "object") = some true)
    (sa_BadValue : PySem.W.findIn K (.ref C_BadValue) "__setattr__" = some (some (.builtin "object.__setattr__")))
    (ga_BadValue : PySem.W.findIn K (.ref C_BadValue) "__getattribute__" = some (some (.builtin "BaseException.__getattribute__")))
    (gg_BadValue : PySem.W.findIn K (.ref C_BadValue) "__getattr__" = some none)
    (cc_BadValue : PySem.W.findIn K (.ref C_BadValue) "__class__" = some (some (.builtin "object.__class__")))
    (eb_BadValue : PySem.W.subIn K (.ref C_BadValue) (.type "BaseException") = some true)
    (ty_BadValue : PySem.W.typeIn K (.ref C_BadValue) = some (.type "type"))
    (kp_BadValue : PySem.W.keepIn K (.ref C_BadValue) = true)
    (hd_BadValue : PySem.W.hasDictIn K C_BadValue = true)
    (mo_BadValue : PySem.W.mroIn K C_BadValue (.type "object") = some true)
    (x_BadValue : K.lookup C_BadValue = some (excClassObj nm_BadValue qn_BadValue C_BadValue N_BadValue bs_BadValue [.ref C_StoreError, .type "ValueError", .type "Exception", .type "BaseException", .type "object"] true sn_BadValue sub_BadValue ab_BadValue col_BadValue dd_BadValue m0_BadValue m1_BadValue m2_BadValue m3_BadValue m5_BadValue "ValueError.__new__"))
    (nf_BadValue_parameter : PySem.W.findIn K (.ref C_BadValue) "parameter" = some none)
    (nf_BadValue_told : PySem.W.findIn K (.ref C_BadValue) "told" = some none)
    (sp1 : PySem.W.specialIn K (.builtin "object.__class__") "__get__" = some (some (.builtin "getset_descriptor.__get__")))
    (sp2 : PySem.W.takesIn K (.builtin "object.__class__") = some true)
    (kit_BadValue_BadValue : PySem.W.kitOne K (.ref C_BadValue) (.ref C_BadValue) = some true)
    (kit_BadValue_Broken : PySem.W.kitOne K (.ref C_BadValue) (.ref C_Broken) = some false)
    (kit_BadValue_Unknown : PySem.W.kitOne K (.ref C_BadValue) (.ref C_Unknown) = some false)
    (kit_BadValue_NotHeld : PySem.W.kitOne K (.ref C_BadValue) (.ref C_NotHeld) = some false)
    (kit_BadValue_Fault : PySem.W.kitOne K (.ref C_BadValue) (.ref C_Fault) = some false)
    (kit_BadValue_NoRoom : PySem.W.kitOne K (.ref C_BadValue) (.ref C_NoRoom) = some false)
    (kit_BadValue_Cut : PySem.W.kitOne K (.ref C_BadValue) (.ref C_Cut) = some false)
    (kit_BadValue_BadLine : PySem.W.kitOne K (.ref C_BadValue) (.ref C_BadLine) = some false)
    (sub_BadValue_StoreError : PySem.W.subIn K (.ref C_BadValue) (.ref C_StoreError) = some true)
    : ∃ fd : FuncData, (∀ (s : Shared) (u : Value), BindsTo s fd ⟨[u], []⟩ [("_law_script", u)]) ∧ ∀ base : Heap, K.In base → base.Ns mainGlobals mg → FnOk P w K mg base CX0 9 fa fd ["_law_script"] (sp_end K) := by
  have e := hfa.symm.trans (PySem.W.mg_of X G a_l_law)
  cases e
  have F_c_BadValue_init := fun_mk (st := s_c_BadValue_init) l_c_BadValue_init c_c_BadValue_init k_c_BadValue_init
  have B_c_BadValue_init := F_c_BadValue_init.binds (ps := ["self", "parameter"]) fun _ _ _ _ _ _ us hl => match us, hl with | [_, _], _ => rfl
  have F_p_is_whole := fun_mk (st := s_p_is_whole) l_p_is_whole c_p_is_whole k_p_is_whole
  have B_p_is_whole := F_p_is_whole.binds (ps := ["value"]) fun _ _ _ _ _ _ us hl => match us, hl with | [_], _ => rfl
  have F_p_whole_between := fun_mk (st := s_p_whole_between) l_p_whole_between c_p_whole_between k_p_whole_between
  have B_p_whole_between := F_p_whole_between.binds (ps := ["value", "low", "high"]) fun _ _ _ _ _ _ us hl => match us, hl with | [_, _, _], _ => rfl
  have F_p_is_power := fun_mk (st := s_p_is_power) l_p_is_power c_p_is_power k_p_is_power
  have B_p_is_power := F_p_is_power.binds (ps := ["value"]) fun _ _ _ _ _ _ us hl => match us, hl with | [_], _ => rfl
  have F_p_is_align := fun_mk (st := s_p_is_align) l_p_is_align c_p_is_align k_p_is_align
  have B_p_is_align := F_p_is_align.binds (ps := ["value", "most"]) fun _ _ _ _ _ _ us hl => match us, hl with | [_, _], _ => rfl
  have F_p_align_up := fun_mk (st := s_p_align_up) l_p_align_up c_p_align_up k_p_align_up
  have B_p_align_up := F_p_align_up.binds (ps := ["number", "align"]) fun _ _ _ _ _ _ us hl => match us, hl with | [_, _], _ => rfl
  have F_p_check_number := fun_mk (st := s_p_check_number) l_p_check_number c_p_check_number k_p_check_number
  have B_p_check_number := F_p_check_number.binds (ps := ["value", "low", "high", "parameter"]) fun _ _ _ _ _ _ us hl => match us, hl with | [_, _, _, _], _ => rfl
  have F_p_check_align := fun_mk (st := s_p_check_align) l_p_check_align c_p_check_align k_p_check_align
  have B_p_check_align := F_p_check_align.binds (ps := ["value"]) fun _ _ _ _ _ _ us hl => match us, hl with | [_], _ => rfl
  have F_p_serving_place := fun_mk (st := s_p_serving_place) l_p_serving_place c_p_serving_place k_p_serving_place
  have B_p_serving_place := F_p_serving_place.binds (ps := ["place", "count", "size", "align"]) fun _ _ _ _ _ _ us hl => match us, hl with | [_, _, _, _], _ => rfl
  have F_p_serves := fun_mk (st := s_p_serves) l_p_serves c_p_serves k_p_serves
  have B_p_serves := F_p_serves.binds (ps := ["p", "n", "size", "align"]) fun _ _ _ _ _ _ us hl => match us, hl with | [_, _, _, _], _ => rfl
  have F_l_draws := fun_mk (st := s_l_draws) l_l_draws c_l_draws k_l_draws
  have B_l_draws := F_l_draws.binds (ps := ["_law_script"]) fun _ _ _ _ _ _ us hl => match us, hl with | [_], _ => rfl
  have F_l_next_cell := fun_mk (st := s_l_next_cell) l_l_next_cell c_l_next_cell k_l_next_cell
  have B_l_next_cell := F_l_next_cell.binds (ps := ["_law_draws_here"]) fun _ _ _ _ _ _ us hl => match us, hl with | [_], _ => rfl
  have F_l_mixed := fun_mk (st := s_l_mixed) l_l_mixed c_l_mixed k_l_mixed
  have B_l_mixed := F_l_mixed.binds (ps := ["_law_seed", "_law_turn", "_law_many"]) fun _ _ _ _ _ _ us hl => match us, hl with | [_, _, _], _ => rfl
  have F_l_take := fun_mk (st := s_l_take) l_l_take c_l_take k_l_take
  have B_l_take := F_l_take.binds (ps := ["_law_draws_here", "_law_many"]) fun _ _ _ _ _ _ us hl => match us, hl with | [_, _], _ => rfl
  have F_l_among := fun_mk (st := s_l_among) l_l_among c_l_among k_l_among
  have B_l_among := F_l_among.binds (ps := ["_law_draws_here", "_law_row"]) fun _ _ _ _ _ _ us hl => match us, hl with | [_, _], _ => rfl
  have F_l_between := fun_mk (st := s_l_between) l_l_between c_l_between k_l_between
  have B_l_between := F_l_between.binds (ps := ["_law_draws_here", "_law_low", "_law_high"]) fun _ _ _ _ _ _ us hl => match us, hl with | [_, _, _], _ => rfl
  have F_l_number := fun_mk (st := s_l_number) l_l_number c_l_number k_l_number
  have B_l_number := F_l_number.binds (ps := ["_law_draws_here", "_law_low", "_law_high"]) fun _ _ _ _ _ _ us hl => match us, hl with | [_, _, _], _ => rfl
  have F_l_count := fun_mk (st := s_l_count) l_l_count c_l_count k_l_count
  have B_l_count := F_l_count.binds (ps := ["_law_draws_here", "_law_small", "_law_great"]) fun _ _ _ _ _ _ us hl => match us, hl with | [_, _, _], _ => rfl
  have F_l_alignment := fun_mk (st := s_l_alignment) l_l_alignment c_l_alignment k_l_alignment
  have B_l_alignment := F_l_alignment.binds (ps := ["_law_draws_here", "_law_most"]) fun _ _ _ _ _ _ us hl => match us, hl with | [_, _], _ => rfl
  have F_l_long := fun_mk (st := s_l_long) l_l_long c_l_long k_l_long
  have B_l_long := F_l_long.binds (ps := []) fun _ _ _ _ _ _ us hl => match us, hl with | [], _ => rfl
  have F_l_not_integer := fun_mk (st := s_l_not_integer) l_l_not_integer c_l_not_integer k_l_not_integer
  have B_l_not_integer := F_l_not_integer.binds (ps := ["_law_draws_here"]) fun _ _ _ _ _ _ us hl => match us, hl with | [_], _ => rfl
  have F_l_not_within := fun_mk (st := s_l_not_within) l_l_not_within c_l_not_within k_l_not_within
  have B_l_not_within := F_l_not_within.binds (ps := ["_law_draws_here", "_law_low", "_law_high"]) fun _ _ _ _ _ _ us hl => match us, hl with | [_, _, _], _ => rfl
  have F_l_not_alignment := fun_mk (st := s_l_not_alignment) l_l_not_alignment c_l_not_alignment k_l_not_alignment
  have B_l_not_alignment := F_l_not_alignment.binds (ps := ["_law_draws_here", "_law_most"]) fun _ _ _ _ _ _ us hl => match us, hl with | [_, _], _ => rfl
  have F_l_serves_at := fun_mk (st := s_l_serves_at) l_l_serves_at c_l_serves_at k_l_serves_at
  have B_l_serves_at := F_l_serves_at.binds (ps := ["_law_p", "_law_n", "_law_size", "_law_alignment_here"]) fun _ _ _ _ _ _ us hl => match us, hl with | [_, _, _, _], _ => rfl
  have F_l_serves_ask := fun_mk (st := s_l_serves_ask) l_l_serves_ask c_l_serves_ask k_l_serves_ask
  have B_l_serves_ask := F_l_serves_ask.binds (ps := ["_law_draws_here"]) fun _ _ _ _ _ _ us hl => match us, hl with | [_], _ => rfl
  have F_l_refusal := fun_mk (st := s_l_refusal) l_l_refusal c_l_refusal k_l_refusal
  have B_l_refusal := F_l_refusal.binds (ps := ["_law_e"]) fun _ _ _ _ _ _ us hl => match us, hl with | [_], _ => rfl
  have F_l_refused := fun_mk (st := s_l_refused) l_l_refused c_l_refused k_l_refused
  have B_l_refused := F_l_refused.binds (ps := ["_law_title", "_law_fields"]) fun _ _ _ _ _ _ us hl => match us, hl with | [_, _], _ => rfl
  have F_l_alike := fun_mk (st := s_l_alike) l_l_alike c_l_alike k_l_alike
  have B_l_alike := F_l_alike.binds (ps := ["_law_actual", "_law_due_here"]) fun _ _ _ _ _ _ us hl => match us, hl with | [_, _], _ => rfl
  have F_l_asked := fun_mk (st := s_l_asked) l_l_asked c_l_asked k_l_asked
  have B_l_asked := F_l_asked.binds (ps := ["_law_ask"]) fun _ _ _ _ _ _ us hl => match us, hl with | [_], _ => rfl
  have F_l_near := fun_mk (st := s_l_near) l_l_near c_l_near k_l_near
  have B_l_near := F_l_near.binds (ps := ["_law_ask"]) fun _ _ _ _ _ _ us hl => match us, hl with | [_], _ => rfl
  have F_l_first_bad := fun_mk (st := s_l_first_bad) l_l_first_bad c_l_first_bad k_l_first_bad
  have B_l_first_bad := F_l_first_bad.binds (ps := ["_law_ask"]) fun _ _ _ _ _ _ us hl => match us, hl with | [_], _ => rfl
  have F_l_due := fun_mk (st := s_l_due) l_l_due c_l_due k_l_due
  have B_l_due := F_l_due.binds (ps := ["_law_ask"]) fun _ _ _ _ _ _ us hl => match us, hl with | [_], _ => rfl
  have F_l_refuses := fun_mk (st := s_l_refuses) l_l_refuses c_l_refuses k_l_refuses
  have B_l_refuses := F_l_refuses.binds (ps := ["_law_draws_here"]) fun _ _ _ _ _ _ us hl => match us, hl with | [_], _ => rfl
  have F_l_law := fun_mk (st := s_l_law) l_l_law c_l_law k_l_law
  have B_l_law := F_l_law.binds (ps := ["_law_script"]) fun _ _ _ _ _ _ us hl => match us, hl with | [_], _ => rfl
  have ox_BadValue : OexC K C_BadValue := { cls := ⟨nm_BadValue, qn_BadValue, N_BadValue, bs_BadValue, _, sn_BadValue, sub_BadValue, ab_BadValue, col_BadValue, dd_BadValue, m0_BadValue, m1_BadValue, m2_BadValue, m3_BadValue, m5_BadValue, x_BadValue, rfl⟩, sa := sa_BadValue, exC := eb_BadValue, tyC := ty_BadValue, kC := kp_BadValue }
  have xf_BadValue : XfC K C_BadValue := ⟨ga_BadValue, gg_BadValue, eb_BadValue, hd_BadValue⟩
  have ex_BadValue : ExcC K C_BadValue := ⟨ga_BadValue, gg_BadValue, eb_BadValue, hd_BadValue, cc_BadValue, sp1, sp2, mo_BadValue⟩
  have xm_BadValue_StoreError : PySem.W.exmOne K (.ref C_BadValue) (.ref C_StoreError) = some true := PySem.W.exm_ref eb_StoreError hd_StoreError ty_StoreError sub_BadValue_StoreError
  have bv : BvC K C_BadValue := ⟨ox_BadValue, nf_BadValue_parameter, nf_BadValue_told⟩
  have rf : RfC K { k_StoreError := C_StoreError, k_BadValue := C_BadValue, k_Broken := C_Broken, k_Unknown := C_Unknown, k_NotHeld := C_NotHeld, k_Fault := C_Fault, k_NoRoom := C_NoRoom, k_Cut := C_Cut, k_BadLine := C_BadLine } := ⟨bv, ex_BadValue, xf_BadValue, kit_BadValue_BadValue, kit_BadValue_Broken, kit_BadValue_Unknown, kit_BadValue_NotHeld, kit_BadValue_Fault, kit_BadValue_NoRoom, kit_BadValue_Cut, kit_BadValue_BadLine, xm_BadValue_StoreError⟩
  let a : Ad := { c := { k_StoreError := C_StoreError, k_BadValue := C_BadValue, k_Broken := C_Broken, k_Unknown := C_Unknown, k_NotHeld := C_NotHeld, k_Fault := C_Fault, k_NoRoom := C_NoRoom, k_Cut := C_Cut, k_BadLine := C_BadLine }, c_BadValue_init := f_c_BadValue_init, c_BadValue_init_d := PySem.W.fnOf "__init__" "BadValue.__init__" (defArgs s_c_BadValue_init) (defBody s_c_BadValue_init) (defScope s_c_BadValue_init) .none kV_c_BadValue_init dc_c_BadValue_init pm_c_BadValue_init an_c_BadValue_init cd_c_BadValue_init ct_c_BadValue_init, p_is_whole := f_p_is_whole, p_is_whole_d := PySem.W.fnOf "is_whole" "is_whole" (defArgs s_p_is_whole) (defBody s_p_is_whole) (defScope s_p_is_whole) .none kV_p_is_whole dc_p_is_whole pm_p_is_whole an_p_is_whole cd_p_is_whole ct_p_is_whole, p_whole_between := f_p_whole_between, p_whole_between_d := PySem.W.fnOf "whole_between" "whole_between" (defArgs s_p_whole_between) (defBody s_p_whole_between) (defScope s_p_whole_between) .none kV_p_whole_between dc_p_whole_between pm_p_whole_between an_p_whole_between cd_p_whole_between ct_p_whole_between, p_is_power := f_p_is_power, p_is_power_d := PySem.W.fnOf "is_power" "is_power" (defArgs s_p_is_power) (defBody s_p_is_power) (defScope s_p_is_power) .none kV_p_is_power dc_p_is_power pm_p_is_power an_p_is_power cd_p_is_power ct_p_is_power, p_is_align := f_p_is_align, p_is_align_d := PySem.W.fnOf "is_align" "is_align" (defArgs s_p_is_align) (defBody s_p_is_align) (defScope s_p_is_align) .none kV_p_is_align dc_p_is_align pm_p_is_align an_p_is_align cd_p_is_align ct_p_is_align, p_align_up := f_p_align_up, p_align_up_d := PySem.W.fnOf "align_up" "align_up" (defArgs s_p_align_up) (defBody s_p_align_up) (defScope s_p_align_up) .none kV_p_align_up dc_p_align_up pm_p_align_up an_p_align_up cd_p_align_up ct_p_align_up, p_check_number := f_p_check_number, p_check_number_d := PySem.W.fnOf "check_number" "check_number" (defArgs s_p_check_number) (defBody s_p_check_number) (defScope s_p_check_number) .none kV_p_check_number dc_p_check_number pm_p_check_number an_p_check_number cd_p_check_number ct_p_check_number, p_check_align := f_p_check_align, p_check_align_d := PySem.W.fnOf "check_align" "check_align" (defArgs s_p_check_align) (defBody s_p_check_align) (defScope s_p_check_align) .none kV_p_check_align dc_p_check_align pm_p_check_align an_p_check_align cd_p_check_align ct_p_check_align, p_serving_place := f_p_serving_place, p_serving_place_d := PySem.W.fnOf "serving_place" "serving_place" (defArgs s_p_serving_place) (defBody s_p_serving_place) (defScope s_p_serving_place) .none kV_p_serving_place dc_p_serving_place pm_p_serving_place an_p_serving_place cd_p_serving_place ct_p_serving_place, p_serves := f_p_serves, p_serves_d := PySem.W.fnOf "serves" "serves" (defArgs s_p_serves) (defBody s_p_serves) (defScope s_p_serves) .none kV_p_serves dc_p_serves pm_p_serves an_p_serves cd_p_serves ct_p_serves, l_draws := f_l_draws, l_draws_d := PySem.W.fnOf "_law_draws" "_law_draws" (defArgs s_l_draws) (defBody s_l_draws) (defScope s_l_draws) .none kV_l_draws dc_l_draws pm_l_draws an_l_draws cd_l_draws ct_l_draws, l_next_cell := f_l_next_cell, l_next_cell_d := PySem.W.fnOf "_law_next_cell" "_law_next_cell" (defArgs s_l_next_cell) (defBody s_l_next_cell) (defScope s_l_next_cell) .none kV_l_next_cell dc_l_next_cell pm_l_next_cell an_l_next_cell cd_l_next_cell ct_l_next_cell, l_mixed := f_l_mixed, l_mixed_d := PySem.W.fnOf "_law_mixed" "_law_mixed" (defArgs s_l_mixed) (defBody s_l_mixed) (defScope s_l_mixed) .none kV_l_mixed dc_l_mixed pm_l_mixed an_l_mixed cd_l_mixed ct_l_mixed, l_take := f_l_take, l_take_d := PySem.W.fnOf "_law_take" "_law_take" (defArgs s_l_take) (defBody s_l_take) (defScope s_l_take) .none kV_l_take dc_l_take pm_l_take an_l_take cd_l_take ct_l_take, l_among := f_l_among, l_among_d := PySem.W.fnOf "_law_among" "_law_among" (defArgs s_l_among) (defBody s_l_among) (defScope s_l_among) .none kV_l_among dc_l_among pm_l_among an_l_among cd_l_among ct_l_among, l_between := f_l_between, l_between_d := PySem.W.fnOf "_law_between" "_law_between" (defArgs s_l_between) (defBody s_l_between) (defScope s_l_between) .none kV_l_between dc_l_between pm_l_between an_l_between cd_l_between ct_l_between, l_number := f_l_number, l_number_d := PySem.W.fnOf "_law_number" "_law_number" (defArgs s_l_number) (defBody s_l_number) (defScope s_l_number) .none kV_l_number dc_l_number pm_l_number an_l_number cd_l_number ct_l_number, l_count := f_l_count, l_count_d := PySem.W.fnOf "_law_count" "_law_count" (defArgs s_l_count) (defBody s_l_count) (defScope s_l_count) .none kV_l_count dc_l_count pm_l_count an_l_count cd_l_count ct_l_count, l_alignment := f_l_alignment, l_alignment_d := PySem.W.fnOf "_law_alignment" "_law_alignment" (defArgs s_l_alignment) (defBody s_l_alignment) (defScope s_l_alignment) .none kV_l_alignment dc_l_alignment pm_l_alignment an_l_alignment cd_l_alignment ct_l_alignment, l_long := f_l_long, l_long_d := PySem.W.fnOf "_law_long" "_law_long" (defArgs s_l_long) (defBody s_l_long) (defScope s_l_long) .none kV_l_long dc_l_long pm_l_long an_l_long cd_l_long ct_l_long, l_not_integer := f_l_not_integer, l_not_integer_d := PySem.W.fnOf "_law_not_integer" "_law_not_integer" (defArgs s_l_not_integer) (defBody s_l_not_integer) (defScope s_l_not_integer) .none kV_l_not_integer dc_l_not_integer pm_l_not_integer an_l_not_integer cd_l_not_integer ct_l_not_integer, l_not_within := f_l_not_within, l_not_within_d := PySem.W.fnOf "_law_not_within" "_law_not_within" (defArgs s_l_not_within) (defBody s_l_not_within) (defScope s_l_not_within) .none kV_l_not_within dc_l_not_within pm_l_not_within an_l_not_within cd_l_not_within ct_l_not_within, l_not_alignment := f_l_not_alignment, l_not_alignment_d := PySem.W.fnOf "_law_not_alignment" "_law_not_alignment" (defArgs s_l_not_alignment) (defBody s_l_not_alignment) (defScope s_l_not_alignment) .none kV_l_not_alignment dc_l_not_alignment pm_l_not_alignment an_l_not_alignment cd_l_not_alignment ct_l_not_alignment, l_serves_at := f_l_serves_at, l_serves_at_d := PySem.W.fnOf "_law_serves_at" "_law_serves_at" (defArgs s_l_serves_at) (defBody s_l_serves_at) (defScope s_l_serves_at) .none kV_l_serves_at dc_l_serves_at pm_l_serves_at an_l_serves_at cd_l_serves_at ct_l_serves_at, l_serves_ask := f_l_serves_ask, l_serves_ask_d := PySem.W.fnOf "_law_serves_ask" "_law_serves_ask" (defArgs s_l_serves_ask) (defBody s_l_serves_ask) (defScope s_l_serves_ask) .none kV_l_serves_ask dc_l_serves_ask pm_l_serves_ask an_l_serves_ask cd_l_serves_ask ct_l_serves_ask, l_refusal := f_l_refusal, l_refusal_d := PySem.W.fnOf "_law_refusal" "_law_refusal" (defArgs s_l_refusal) (defBody s_l_refusal) (defScope s_l_refusal) .none kV_l_refusal dc_l_refusal pm_l_refusal an_l_refusal cd_l_refusal ct_l_refusal, l_refused := f_l_refused, l_refused_d := PySem.W.fnOf "_law_refused" "_law_refused" (defArgs s_l_refused) (defBody s_l_refused) (defScope s_l_refused) .none kV_l_refused dc_l_refused pm_l_refused an_l_refused cd_l_refused ct_l_refused, l_alike := f_l_alike, l_alike_d := PySem.W.fnOf "_law_alike" "_law_alike" (defArgs s_l_alike) (defBody s_l_alike) (defScope s_l_alike) .none kV_l_alike dc_l_alike pm_l_alike an_l_alike cd_l_alike ct_l_alike, l_asked := f_l_asked, l_asked_d := PySem.W.fnOf "_law_asked" "_law_asked" (defArgs s_l_asked) (defBody s_l_asked) (defScope s_l_asked) .none kV_l_asked dc_l_asked pm_l_asked an_l_asked cd_l_asked ct_l_asked, l_near := f_l_near, l_near_d := PySem.W.fnOf "_law_near" "_law_near" (defArgs s_l_near) (defBody s_l_near) (defScope s_l_near) .none kV_l_near dc_l_near pm_l_near an_l_near cd_l_near ct_l_near, l_first_bad := f_l_first_bad, l_first_bad_d := PySem.W.fnOf "_law_first_bad" "_law_first_bad" (defArgs s_l_first_bad) (defBody s_l_first_bad) (defScope s_l_first_bad) .none kV_l_first_bad dc_l_first_bad pm_l_first_bad an_l_first_bad cd_l_first_bad ct_l_first_bad, l_due := f_l_due, l_due_d := PySem.W.fnOf "_law_due" "_law_due" (defArgs s_l_due) (defBody s_l_due) (defScope s_l_due) .none kV_l_due dc_l_due pm_l_due an_l_due cd_l_due ct_l_due, l_refuses := f_l_refuses, l_refuses_d := PySem.W.fnOf "_law_refuses" "_law_refuses" (defArgs s_l_refuses) (defBody s_l_refuses) (defScope s_l_refuses) .none kV_l_refuses dc_l_refuses pm_l_refuses an_l_refuses cd_l_refuses ct_l_refuses, l_law := fa, l_law_d := PySem.W.fnOf "law" "law" (defArgs s_l_law) (defBody s_l_law) (defScope s_l_law) .none kV_l_law dc_l_law pm_l_law an_l_law cd_l_law ct_l_law, v_LEAST_PIECE := v_LEAST_PIECE, v_MOST_ALIGN_marks := v_MOST_ALIGN_marks, v_MOST_ALIGN_spans := v_MOST_ALIGN_spans, v_MOST_END := v_MOST_END, v_MOST_PLACES := v_MOST_PLACES }
  have T : Txt K mg a := { b_all := PySem.W.mg_none_of X G z_all, b_bool := PySem.W.mg_none_of X G z_bool, b_int := PySem.W.mg_none_of X G z_int, b_isinstance := PySem.W.mg_none_of X G z_isinstance, b_len := PySem.W.mg_none_of X G z_len, b_list := PySem.W.mg_none_of X G z_list, b_max := PySem.W.mg_none_of X G z_max, b_min := PySem.W.mg_none_of X G z_min, b_range := PySem.W.mg_none_of X G z_range, b_str := PySem.W.mg_none_of X G z_str, b_tuple := PySem.W.mg_none_of X G z_tuple, g_LEAST_PIECE := PySem.W.mg_of X G g_LEAST_PIECE, r_LEAST_PIECE := r_LEAST_PIECE, g_MOST_ALIGN_marks := PySem.W.mg_of X G g_MOST_ALIGN_marks, r_MOST_ALIGN_marks := r_MOST_ALIGN_marks, g_MOST_ALIGN_spans := PySem.W.mg_of X G g_MOST_ALIGN_spans, r_MOST_ALIGN_spans := r_MOST_ALIGN_spans, g_MOST_END := PySem.W.mg_of X G g_MOST_END, r_MOST_END := r_MOST_END, g_MOST_PLACES := PySem.W.mg_of X G g_MOST_PLACES, r_MOST_PLACES := r_MOST_PLACES, k_StoreError := PySem.W.mg_of X G q_StoreError, k_BadValue := PySem.W.mg_of X G q_BadValue, k_Broken := PySem.W.mg_of X G q_Broken, k_Unknown := PySem.W.mg_of X G q_Unknown, k_NotHeld := PySem.W.mg_of X G q_NotHeld, k_Fault := PySem.W.mg_of X G q_Fault, k_NoRoom := PySem.W.mg_of X G q_NoRoom, k_Cut := PySem.W.mg_of X G q_Cut, k_BadLine := PySem.W.mg_of X G q_BadLine, c_BadValue_init := ⟨F_c_BadValue_init, B_c_BadValue_init⟩, p_is_whole := ⟨F_p_is_whole, PySem.W.mg_of X G a_p_is_whole, B_p_is_whole⟩, p_whole_between := ⟨F_p_whole_between, PySem.W.mg_of X G a_p_whole_between, B_p_whole_between⟩, p_is_power := ⟨F_p_is_power, PySem.W.mg_of X G a_p_is_power, B_p_is_power⟩, p_is_align := ⟨F_p_is_align, PySem.W.mg_of X G a_p_is_align, B_p_is_align⟩, p_align_up := ⟨F_p_align_up, PySem.W.mg_of X G a_p_align_up, B_p_align_up⟩, p_check_number := ⟨F_p_check_number, PySem.W.mg_of X G a_p_check_number, B_p_check_number⟩, p_check_align := ⟨F_p_check_align, PySem.W.mg_of X G a_p_check_align, B_p_check_align⟩, p_serving_place := ⟨F_p_serving_place, PySem.W.mg_of X G a_p_serving_place, B_p_serving_place⟩, p_serves := ⟨F_p_serves, PySem.W.mg_of X G a_p_serves, B_p_serves⟩, l_draws := ⟨F_l_draws, PySem.W.mg_of X G a_l_draws, B_l_draws⟩, l_next_cell := ⟨F_l_next_cell, PySem.W.mg_of X G a_l_next_cell, B_l_next_cell⟩, l_mixed := ⟨F_l_mixed, PySem.W.mg_of X G a_l_mixed, B_l_mixed⟩, l_take := ⟨F_l_take, PySem.W.mg_of X G a_l_take, B_l_take⟩, l_among := ⟨F_l_among, PySem.W.mg_of X G a_l_among, B_l_among⟩, l_between := ⟨F_l_between, PySem.W.mg_of X G a_l_between, B_l_between⟩, l_number := ⟨F_l_number, PySem.W.mg_of X G a_l_number, B_l_number⟩, l_count := ⟨F_l_count, PySem.W.mg_of X G a_l_count, B_l_count⟩, l_alignment := ⟨F_l_alignment, PySem.W.mg_of X G a_l_alignment, B_l_alignment⟩, l_long := ⟨F_l_long, PySem.W.mg_of X G a_l_long, B_l_long⟩, l_not_integer := ⟨F_l_not_integer, PySem.W.mg_of X G a_l_not_integer, B_l_not_integer⟩, l_not_within := ⟨F_l_not_within, PySem.W.mg_of X G a_l_not_within, B_l_not_within⟩, l_not_alignment := ⟨F_l_not_alignment, PySem.W.mg_of X G a_l_not_alignment, B_l_not_alignment⟩, l_serves_at := ⟨F_l_serves_at, PySem.W.mg_of X G a_l_serves_at, B_l_serves_at⟩, l_serves_ask := ⟨F_l_serves_ask, PySem.W.mg_of X G a_l_serves_ask, B_l_serves_ask⟩, l_refusal := ⟨F_l_refusal, PySem.W.mg_of X G a_l_refusal, B_l_refusal⟩, l_refused := ⟨F_l_refused, PySem.W.mg_of X G a_l_refused, B_l_refused⟩, l_alike := ⟨F_l_alike, PySem.W.mg_of X G a_l_alike, B_l_alike⟩, l_asked := ⟨F_l_asked, PySem.W.mg_of X G a_l_asked, B_l_asked⟩, l_near := ⟨F_l_near, PySem.W.mg_of X G a_l_near, B_l_near⟩, l_first_bad := ⟨F_l_first_bad, PySem.W.mg_of X G a_l_first_bad, B_l_first_bad⟩, l_due := ⟨F_l_due, PySem.W.mg_of X G a_l_due, B_l_due⟩, l_refuses := ⟨F_l_refuses, PySem.W.mg_of X G a_l_refuses, B_l_refuses⟩, l_law := ⟨F_l_law, PySem.W.mg_of X G a_l_law, B_l_law⟩, bv := bv, iC := a_c_BadValue_init, tI := t_c_BadValue_init, rf := rf }
  exact ⟨PySem.W.fnOf "law" "law" (defArgs s_l_law) (defBody s_l_law) (defScope s_l_law) .none kV_l_law dc_l_law pm_l_law an_l_law cd_l_law ct_l_law, fun s u => .of_eq rfl, fun base _ _ => (ok_l_law T).imp fun vs H Q E h => by obtain ⟨x, ns, e, h1, h2, h3⟩ := h; exact ⟨x, ns, e, h1, h2, rf, h3⟩⟩
end K46
section
open PySem PySem.W PyProof.Rows
set_option maxHeartbeats 8000000
open_top K46_hd for PySem.Challenge.rw_allgivenback_k46_serves
end
open PySem PySem.W PyProof.Rows
set_option maxRecDepth 100000 in
set_option maxHeartbeats 8000000 in
theorem PySem.Challenge.cw_allgivenback_k46_serves_holds : PySem.Challenge.rw_allgivenback_k46_serves.Holds := by
  refine K46_hd ?_
  k_fill
  refine L2.walk_ofK (l := PySem.Challenge.rw_allgivenback_k46_serves) (n := 63) (k := 9) (x := "_law_script") (CX := L2.CX0) (sp := Gv.sp_end) rfl (by decide) rfl ⟨rfl, by decide, by decide⟩ (fun w h Y => PySem.W.kIn_of Y) ?F (fun K H a ns hl _ hS => ⟨a, ns, rfl, hS, hl, fun _ => rfl⟩) (fun _ _ _ _ z => z)
  case F =>
    intro w mg fa h KX G hmg
    refine' K46.all_mk KX G hmg ?q_StoreError ?q_BadValue ?q_Broken ?q_Unknown ?q_NotHeld ?q_Fault ?q_NoRoom ?q_Cut ?q_BadLine ?a_c_BadValue_init ?t_c_BadValue_init ?l_c_BadValue_init ?c_c_BadValue_init ?k_c_BadValue_init ?a_p_is_whole ?l_p_is_whole ?c_p_is_whole ?k_p_is_whole ?a_p_whole_between ?l_p_whole_between ?c_p_whole_between ?k_p_whole_between ?a_p_is_power ?l_p_is_power ?c_p_is_power ?k_p_is_power ?a_p_is_align ?l_p_is_align ?c_p_is_align ?k_p_is_align ?a_p_align_up ?l_p_align_up ?c_p_align_up ?k_p_align_up ?a_p_check_number ?l_p_check_number ?c_p_check_number ?k_p_check_number ?a_p_check_align ?l_p_check_align ?c_p_check_align ?k_p_check_align ?a_p_serving_place ?l_p_serving_place ?c_p_serving_place ?k_p_serving_place ?a_p_serves ?l_p_serves ?c_p_serves ?k_p_serves ?a_l_draws ?l_l_draws ?c_l_draws ?k_l_draws ?a_l_next_cell ?l_l_next_cell ?c_l_next_cell ?k_l_next_cell ?a_l_mixed ?l_l_mixed ?c_l_mixed ?k_l_mixed ?a_l_take ?l_l_take ?c_l_take ?k_l_take ?a_l_among ?l_l_among ?c_l_among ?k_l_among ?a_l_between ?l_l_between ?c_l_between ?k_l_between ?a_l_number ?l_l_number ?c_l_number ?k_l_number ?a_l_count ?l_l_count ?c_l_count ?k_l_count ?a_l_alignment ?l_l_alignment ?c_l_alignment ?k_l_alignment ?a_l_long ?l_l_long ?c_l_long ?k_l_long ?a_l_not_integer ?l_l_not_integer ?c_l_not_integer ?k_l_not_integer ?a_l_not_within ?l_l_not_within ?c_l_not_within ?k_l_not_within ?a_l_not_alignment ?l_l_not_alignment ?c_l_not_alignment ?k_l_not_alignment ?a_l_serves_at ?l_l_serves_at ?c_l_serves_at ?k_l_serves_at ?a_l_serves_ask ?l_l_serves_ask ?c_l_serves_ask ?k_l_serves_ask ?a_l_refusal ?l_l_refusal ?c_l_refusal ?k_l_refusal ?a_l_refused ?l_l_refused ?c_l_refused ?k_l_refused ?a_l_alike ?l_l_alike ?c_l_alike ?k_l_alike ?a_l_asked ?l_l_asked ?c_l_asked ?k_l_asked ?a_l_near ?l_l_near ?c_l_near ?k_l_near ?a_l_first_bad ?l_l_first_bad ?c_l_first_bad ?k_l_first_bad ?a_l_due ?l_l_due ?c_l_due ?k_l_due ?a_l_refuses ?l_l_refuses ?c_l_refuses ?k_l_refuses ?a_l_law ?l_l_law ?c_l_law ?k_l_law ?z_all ?z_bool ?z_int ?z_isinstance ?z_len ?z_list ?z_max ?z_min ?z_range ?z_str ?z_tuple ?g_LEAST_PIECE ?r_LEAST_PIECE ?g_MOST_ALIGN_marks ?r_MOST_ALIGN_marks ?g_MOST_ALIGN_spans ?r_MOST_ALIGN_spans ?g_MOST_END ?r_MOST_END ?g_MOST_PLACES ?r_MOST_PLACES ?sa_StoreError ?ga_StoreError ?gg_StoreError ?cc_StoreError ?eb_StoreError ?ty_StoreError ?kp_StoreError ?hd_StoreError ?mo_StoreError ?sa_BadValue ?ga_BadValue ?gg_BadValue ?cc_BadValue ?eb_BadValue ?ty_BadValue ?kp_BadValue ?hd_BadValue ?mo_BadValue ?x_BadValue ?nf_BadValue_parameter ?nf_BadValue_told ?sp1 ?sp2 ?kit_BadValue_BadValue ?kit_BadValue_Broken ?kit_BadValue_Unknown ?kit_BadValue_NotHeld ?kit_BadValue_Fault ?kit_BadValue_NoRoom ?kit_BadValue_Cut ?kit_BadValue_BadLine ?sub_BadValue_StoreError
    (case q_StoreError => k_is)
    (case q_BadValue => k_is)
    (case q_Broken => k_is)
    (case q_Unknown => k_is)
    (case q_NotHeld => k_is)
    (case q_Fault => k_is)
    (case q_NoRoom => k_is)
    (case q_Cut => k_is)
    (case q_BadLine => k_is)
    (case a_c_BadValue_init => k_is)
    (case t_c_BadValue_init => k_is)
    (case l_c_BadValue_init => k_is)
    (case c_c_BadValue_init => k_is)
    (case k_c_BadValue_init => k_is)
    (case a_p_is_whole => k_is)
    (case l_p_is_whole => k_is)
    (case c_p_is_whole => k_is)
    (case k_p_is_whole => k_is)
    (case a_p_whole_between => k_is)
    (case l_p_whole_between => k_is)
    (case c_p_whole_between => k_is)
    (case k_p_whole_between => k_is)
    (case a_p_is_power => k_is)
    (case l_p_is_power => k_is)
    (case c_p_is_power => k_is)
    (case k_p_is_power => k_is)
    (case a_p_is_align => k_is)
    (case l_p_is_align => k_is)
    (case c_p_is_align => k_is)
    (case k_p_is_align => k_is)
    (case a_p_align_up => k_is)
    (case l_p_align_up => k_is)
    (case c_p_align_up => k_is)
    (case k_p_align_up => k_is)
    (case a_p_check_number => k_is)
    (case l_p_check_number => k_is)
    (case c_p_check_number => k_is)
    (case k_p_check_number => k_is)
    (case a_p_check_align => k_is)
    (case l_p_check_align => k_is)
    (case c_p_check_align => k_is)
    (case k_p_check_align => k_is)
    (case a_p_serving_place => k_is)
    (case l_p_serving_place => k_is)
    (case c_p_serving_place => k_is)
    (case k_p_serving_place => k_is)
    (case a_p_serves => k_is)
    (case l_p_serves => k_is)
    (case c_p_serves => k_is)
    (case k_p_serves => k_is)
    (case a_l_draws => k_is)
    (case l_l_draws => k_is)
    (case c_l_draws => k_is)
    (case k_l_draws => k_is)
    (case a_l_next_cell => k_is)
    (case l_l_next_cell => k_is)
    (case c_l_next_cell => k_is)
    (case k_l_next_cell => k_is)
    (case a_l_mixed => k_is)
    (case l_l_mixed => k_is)
    (case c_l_mixed => k_is)
    (case k_l_mixed => k_is)
    (case a_l_take => k_is)
    (case l_l_take => k_is)
    (case c_l_take => k_is)
    (case k_l_take => k_is)
    (case a_l_among => k_is)
    (case l_l_among => k_is)
    (case c_l_among => k_is)
    (case k_l_among => k_is)
    (case a_l_between => k_is)
    (case l_l_between => k_is)
    (case c_l_between => k_is)
    (case k_l_between => k_is)
    (case a_l_number => k_is)
    (case l_l_number => k_is)
    (case c_l_number => k_is)
    (case k_l_number => k_is)
    (case a_l_count => k_is)
    (case l_l_count => k_is)
    (case c_l_count => k_is)
    (case k_l_count => k_is)
    (case a_l_alignment => k_is)
    (case l_l_alignment => k_is)
    (case c_l_alignment => k_is)
    (case k_l_alignment => k_is)
    (case a_l_long => k_is)
    (case l_l_long => k_is)
    (case c_l_long => k_is)
    (case k_l_long => k_is)
    (case a_l_not_integer => k_is)
    (case l_l_not_integer => k_is)
    (case c_l_not_integer => k_is)
    (case k_l_not_integer => k_is)
    (case a_l_not_within => k_is)
    (case l_l_not_within => k_is)
    (case c_l_not_within => k_is)
    (case k_l_not_within => k_is)
    (case a_l_not_alignment => k_is)
    (case l_l_not_alignment => k_is)
    (case c_l_not_alignment => k_is)
    (case k_l_not_alignment => k_is)
    (case a_l_serves_at => k_is)
    (case l_l_serves_at => k_is)
    (case c_l_serves_at => k_is)
    (case k_l_serves_at => k_is)
    (case a_l_serves_ask => k_is)
    (case l_l_serves_ask => k_is)
    (case c_l_serves_ask => k_is)
    (case k_l_serves_ask => k_is)
    (case a_l_refusal => k_is)
    (case l_l_refusal => k_is)
    (case c_l_refusal => k_is)
    (case k_l_refusal => k_is)
    (case a_l_refused => k_is)
    (case l_l_refused => k_is)
    (case c_l_refused => k_is)
    (case k_l_refused => k_is)
    (case a_l_alike => k_is)
    (case l_l_alike => k_is)
    (case c_l_alike => k_is)
    (case k_l_alike => k_is)
    (case a_l_asked => k_is)
    (case l_l_asked => k_is)
    (case c_l_asked => k_is)
    (case k_l_asked => k_is)
    (case a_l_near => k_is)
    (case l_l_near => k_is)
    (case c_l_near => k_is)
    (case k_l_near => k_is)
    (case a_l_first_bad => k_is)
    (case l_l_first_bad => k_is)
    (case c_l_first_bad => k_is)
    (case k_l_first_bad => k_is)
    (case a_l_due => k_is)
    (case l_l_due => k_is)
    (case c_l_due => k_is)
    (case k_l_due => k_is)
    (case a_l_refuses => k_is)
    (case l_l_refuses => k_is)
    (case c_l_refuses => k_is)
    (case k_l_refuses => k_is)
    (case a_l_law => k_is)
    (case l_l_law => k_is)
    (case c_l_law => k_is)
    (case k_l_law => k_is)
    (case z_all => k_is)
    (case z_bool => k_is)
    (case z_int => k_is)
    (case z_isinstance => k_is)
    (case z_len => k_is)
    (case z_list => k_is)
    (case z_max => k_is)
    (case z_min => k_is)
    (case z_range => k_is)
    (case z_str => k_is)
    (case z_tuple => k_is)
    (case g_LEAST_PIECE => k_is)
    (case r_LEAST_PIECE => exact ⟨_, rfl⟩)
    (case g_MOST_ALIGN_marks => k_is)
    (case r_MOST_ALIGN_marks => exact ⟨_, rfl⟩)
    (case g_MOST_ALIGN_spans => k_is)
    (case r_MOST_ALIGN_spans => exact ⟨_, rfl⟩)
    (case g_MOST_END => k_is)
    (case r_MOST_END => exact ⟨_, rfl⟩)
    (case g_MOST_PLACES => k_is)
    (case r_MOST_PLACES => exact ⟨_, rfl⟩)
    (case sa_StoreError => k_is)
    (case ga_StoreError => k_is)
    (case gg_StoreError => k_is)
    (case cc_StoreError => k_is)
    (case eb_StoreError => k_is)
    (case ty_StoreError => k_is)
    (case kp_StoreError => k_is)
    (case hd_StoreError => k_is)
    (case mo_StoreError => k_is)
    (case sa_BadValue => k_is)
    (case ga_BadValue => k_is)
    (case gg_BadValue => k_is)
    (case cc_BadValue => k_is)
    (case eb_BadValue => k_is)
    (case ty_BadValue => k_is)
    (case kp_BadValue => k_is)
    (case hd_BadValue => k_is)
    (case mo_BadValue => k_is)
    (case x_BadValue => k_is)
    (case nf_BadValue_parameter => k_is)
    (case nf_BadValue_told => k_is)
    (case sp1 => k_is)
    (case sp2 => k_is)
    (case kit_BadValue_BadValue => first | rfl | k_is)
    (case kit_BadValue_Broken => first | rfl | k_is)
    (case kit_BadValue_Unknown => first | rfl | k_is)
    (case kit_BadValue_NotHeld => first | rfl | k_is)
    (case kit_BadValue_Fault => first | rfl | k_is)
    (case kit_BadValue_NoRoom => first | rfl | k_is)
    (case kit_BadValue_Cut => first | rfl | k_is)
    (case kit_BadValue_BadLine => first | rfl | k_is)
    (case sub_BadValue_StoreError => first | rfl | k_is)
