import PyProof.Rows.All
import Wide.All
import OpenK.AllK
import Wide.FinOn
import HandS.ForMost
import HandS.ForExc
import HandS.ExcInit
import HandS.ExcField
import HandS.ExcIs
import HandS.IsInst
import HandS.HotCalls
import HandS.Wide
import HandS.WideBits
import HandS.Flow
import KE.KExcIs
import KE.KCount
import KE.KBytesJoin
import HandS.ExcValue
import HandS.More
import HandS.Text
import PySem.Challenge.RW_allgivenback_k00_align
set_option Elab.async false
set_option linter.all false
set_option maxRecDepth 100000
set_option maxHeartbeats 3000000
namespace Gv
open PySem L2 PySem.Spec PyProof.Rows
/-! ## Rules -/
/-! Own rules: a caught exception tracked in the abstract heap; defs that run while one is handled. -/
abbrev St := L2.St
/-- at a: an exception object of the class cls, its dict at d -/
def exi (a : Addr) (cls : Value) (d : Option Addr) : HO := .ext fun g => ∃ (ob : Obj) (fv : Array Value), g.get? a = some ob ∧ Zc cls d ob ∧ ob.data = .fields fv
theorem exi_ok {P : Program} {w : World} {H : Hp} {g : Heap} {a : Addr} {cls : Value} {d : Option Addr} {ob : Obj} {fv : Array Value} (e : g.get? a = some ob) (z : Zc cls d ob) (hd : ob.data = .fields fv) : ObjOk P w H g a (exi a cls d) :=
  ⟨⟨ob, fv, e, z, hd⟩, ⟨ob, e⟩, fun _ _ ⟨o, v, q, r⟩ k => ⟨o, v, k o q, r⟩⟩
theorem exi_at {P : Program} {w : World} {H : Hp} {g : Heap} {a : Addr} {cls : Value} {d : Option Addr} (ok : HOk P w H g) (he : H a = some (exi a cls d)) : ∃ (ob : Obj) (fv : Array Value), g.get? a = some ob ∧ Zc cls d ob ∧ ob.data = .fields fv :=
  (show ObjOk P w H g a (.ext fun g => ∃ (ob : Obj) (fv : Array Value), g.get? a = some ob ∧ Zc cls d ob ∧ ob.data = .fields fv) from ok a _ he).1
/-- a pinned exception that the entry did not know becomes a tracked one -/
theorem track {X : Cx} {σ : St} {H : Hp} {s : Shared} {a : Addr} {ob : Obj} {pn : List (Addr × Obj)} {cls : Value} {d : Option Addr} (okX : X.Ok) (I : Inv (X.suite a ((a, ob) :: pn)) [] σ H s) (new0 : X.s_0.heap.get? a = none) (off : ∀ p ∈ pn, p.1 ≠ a) (hz : Zc cls d ob) (hd : ∃ fv, ob.data = .fields fv) :
    Inv (X.suite a pn) [] σ (upd H a (exi a cls d)) s := by
  obtain ⟨at0, free0, nloc, _, ncell⟩ := I.pin (a, ob) (List.mem_append_left _ List.mem_cons_self)
  obtain ⟨fv, hd⟩ := hd
  have old : ∀ {b : Addr} {o : HO}, H b = some o → upd H a (exi a cls d) b = some o := fun {b o} e => by rw [upd_ne (ne_of_none e free0)]; exact e
  have non : ∀ {b : Addr}, b ≠ a → H b = none → upd H a (exi a cls d) b = none := fun {b} n e => by rw [upd_ne n]; exact e
  exact
    { ok := okX.suite _ _, os := I.os, bare := I.bare, loc := I.loc, cell := I.cell, len := I.len
      base :=
        { keep := I.base.keep, slot := I.base.slot, there := I.base.there
          free := fun b o e n hx => non (fun z => by rw [z, new0] at e; cases e) (I.base.free b o e n hx)
          tups := fun b xs e => old (I.base.tups b xs e), frzs := fun b o u e => old (I.base.frzs b o u e)
          tbls := fun b ps e => (I.base.tbls b ps e).elim fun m q => ⟨m, old q⟩ }
      free := non (Ne.symm nloc) I.free
      freeC := fun x c e => non (fun z => (I.cell x c e).elim fun v ⟨o, ho, hv⟩ => ncell v (by rw [z] at ho; have q := Option.some.inj (at0.symm.trans ho); rw [← hv, ← q])) (I.freeC x c e)
      pin := fun p hp => by
        have hp' : p ∈ pn := by simpa using hp
        obtain ⟨c1, c2, c3⟩ := I.pin p (List.mem_append_left _ (List.mem_cons_of_mem _ hp'))
        exact ⟨c1, non (off p hp') c2, c3⟩
      hok := fun b o e => by
        by_cases hb : b = a
        · rw [hb, upd_same] at e
          rw [hb, ← Option.some.inj e]
          exact exi_ok at0 hz hd
        · rw [upd_ne hb] at e
          exact (I.hok b o e).stay (fun _ _ _ q => q) (fun _ q => old q) fun _ _ q => old q }
theorem unsuite0 {X : Cx} {pins pn' : List (Addr × Obj)} {σ : St} {H : Hp} {s : Shared} {a : Addr} (I : Inv (X.suite a (X.pn ++ pins)) pn' σ H s) (okX : X.Ok) : Inv X pins σ H s :=
  { ok := okX, os := I.os, bare := I.bare, base := I.base, loc := I.loc, cell := I.cell, free := I.free, freeC := I.freeC, pin := fun p hp => I.pin p (List.mem_append_left _ hp), hok := I.hok, len := I.len }
/-- except x as n: the exception is tracked while the suite runs, and behind it -/
def wAsT (K : PySem.W.Frag) (c : Value) (i : Nat) (ts : TS) (Wout : WX) (D : Ends) : WX := fun cls d σ H => ∃ yes, PySem.W.exmOne K cls c = some yes ∧ (yes = false → Wout cls d σ H) ∧
  (yes = true → ∀ a, H a = none → ts ⟨fun σ' H' => D.nx (σ'.set i none) H', D.rt, fun σ' H' => D.bk (σ'.set i none) H', fun σ' H' => D.ct (σ'.set i none) H'⟩ (σ.set i (some (.ref a))) (upd H a (exi a cls d)))
section
variable {X : Cx} {x n : Str} {c : Value} {i : Nat} {body suite : List Stmt} {b₀ : Stmt} {np pos pos' : Pos} {tb : WX → TS} {ts : TS} {Wout : WX} {pins : List (Addr × Obj)} {D : Ends}
/-- the way of an exception of the body into the clause -/
theorem caught (hs : X.stack = X.env :: X.outer) (hf : X.env.frame = some X.env.locals) (hex : X.ex = []) (hN : X.N.Nodup) (hi : X.N[i]? = some n) (hln : X.env.kindOf n = some .local) (hc : Names X x c) (tk : Takes X Wout)
    (hsu : ∀ (a : Addr) (pn : List (Addr × Obj)), PSs (X.suite a pn) (b₀ :: suite) ts) (okX : X.Ok) {ev : Value} {sE : Shared} {xe : Value → Shared → Prop} (air : XE (X.tr (X.pn ++ pins) xe) (wAsT X.K c i ts Wout D) ev sE) :
    wpAny (model X.prog X.w) X.A (noteFrame ev X.env) (fun _ s2 => wpAny (model X.prog X.w) X.A (setFlight ev none) (fun _ s3 => wpAny (model X.prog X.w) X.A (handleBy ev X.env [.ExceptHandler (some (.Name x np)) (some n) (b₀ :: suite) pos']) (SP X pins D) X.xe s3) X.xe s2) X.xe sE := by
  obtain ⟨ea, gr, sG, pG, σ1, H1, cls, dd, rfl, J1, inB, lift, sky, unk, eos, ebare, yes, hyes, hout, hin⟩ := air
  have J : Inv X pins σ1 H1 sG := J1.ofTry okX
  rw [show (X.tr (X.pn ++ pins) xe).stack = X.env :: X.outer from hs] at inB sky
  have frm : X.A.frames = some (X.env :: X.outer) := hs ▸ okX.frames
  have inB' : ∀ b o, sG.heap.get? b = some o → b ∉ frs X.stack → gr.get? b = some o := by rw [hs]; exact inB
  refine Sky.land Zc.steady frm hf sky fun hA flA upA => ?_
  obtain ⟨obA, fvA, getA, zA, dA⟩ := flA.there
  have offFr : ea ∉ frs (X.env :: X.outer) := fun hm => (flA.2.2.1.mem hm).elim fun _ ⟨o', e', hn⟩ => by
    rw [getA] at e'
    cases e'
    exact hn _ dA
  have offL : ea ≠ X.env.locals := fun z => offFr (List.mem_filterMap.mpr ⟨X.env, List.mem_cons_self, z ▸ hf⟩)
  have offF : ea ∉ X.fs := fun hm => offFr ((List.mem_filterMap.mp hm).elim fun e ⟨he, q⟩ => List.mem_filterMap.mpr ⟨e, List.mem_cons_of_mem _ he, q⟩)
  have newG : sG.heap.get? ea = none := by
    cases e : sG.heap.get? ea with
    | none => rfl
    | some o => exact absurd ((inB ea o e offFr).symm.trans flA.2.1) (by simp)
  have new0 : X.s_0.heap.get? ea = none := by
    cases e : X.s_0.heap.get? ea with
    | none => rfl
    | some o => exact (J.base.there ea o e (by rw [hex]; simp)).elim fun o' q => absurd (q.symm.trans newG) (by simp)
  have off : ∀ p ∈ X.pn ++ pins, p.1 ≠ ea := fun p hp z => absurd ((J.pin p hp).1.symm.trans (z ▸ newG)) (by simp)
  have JA : Inv X pins σ1 H1 { sE with heap := hA } := J.landed inB' flA.1 (lift.trans upA) eos ebare
  have SA := JA.suite getA dA unk offL offF
  refine wpAny_handleBy_cons (codeAny_handlers_test ?_) (fun q => nomatch q)
  have clsOf : PySem.W.Looks (model X.prog X.w) hA (typeOf (.ref ea)) cls := fun _ _ _ _ k q => wpAny_typeOf_ref (k _ _ getA) (by rw [zA.1]; exact q)
  have look : ∀ {Q : Value → Shared → Prop} {E : Value → Shared → Prop}, Q c { sE with heap := hA } → wpAny (model X.prog X.w) (X.A.mark (some (.ref ea))) (eval (.Name x np) X.env) Q E { sE with heap := hA } := fun {Q E} q => by
    rcases hc with ⟨hg, hdb, hm | ⟨hm, hv, hnn⟩⟩
    · exact ld_glob (X := X.suite ea ((ea, obA) :: (X.pn ++ pins))) SA hg hm q hdb
    · exact ld_blt (X := X.suite ea ((ea, obA) :: (X.pn ++ pins))) SA hg hm hv q hnn hdb
  refine look ((PySem.W.exm_one (M := model X.prog X.w) JA.kIn clsOf hyes).here ?_)
  cases yes with
  | false =>
    refine wpAny_handleBy_nil ?_
    obtain ⟨_, _, _, ob, fv, tr, _, _, e1, _, e3, e4, _⟩ := id flA
    have up : wpAny (model X.prog X.w) X.A (setFlight (.ref ea) X.env.frame) (fun _ s4 => wpAny (model X.prog X.w) X.A (throw (.ref ea) : Sem Flow) (SP X pins D) X.xe s4) X.xe { sE with heap := hA } := by
      rw [hf]
      exact HandSPX.setFlight_upZ flA fun h4 held u4 => wpAny_throw (tk _ _ ⟨ea, gr, sG, pins, σ1, H1, cls, dd, rfl, J, inB', (lift.trans upA).trans u4, .inr (.inr (by rw [hs]; exact held)), unk, eos, ebare, hout rfl⟩)
    unfold PySem.passOn
    refine wpAny_bind (wpAny_field e1 e3 e4 ?_)
    rw [if_neg (show ¬ ((Value.ref tr == Value.none) = true) by simp)]
    first
      | exact wpAny_bind up
      | exact wpAny_bind (wpAny_pure (wpAny_bind up))
  | true =>
    refine codeAny_handlers_suite_as (HandSPX.lands_againZ flA fun hB flB upB => ?_)
    obtain ⟨obB, fvB, getB, zB, dB⟩ := flB.there
    have SB := (J.landed (s' := { sE with heap := hB }) inB' flB.1 ((lift.trans upA).trans upB) eos ebare).suite getB dB unk offL offF
    refine store_ok (X := X.suite ea ((ea, obB) :: (X.pn ++ pins))) (v := .ref ea) SB hN hi (.inl hln) rfl (fun s5 S5 => ?_) (.inr hln)
    refine wpAny_mono ((hsu ea (X.pn ++ pins)).run [] s5 _ _ _ (track okX S5 new0 off zB ⟨_, dB⟩) (hin rfl ea unk)) (fun fl s6 r6 => ?_) (fun _ _ z => z.elim)
    have shut : ∀ {σ6 : St} {H6 : Hp} {R : Shared → Prop}, Inv (X.suite ea (X.pn ++ pins)) [] σ6 H6 s6 → (∀ s7, Inv X pins (σ6.set i none) H6 s7 → R s7) →
        wpAny (model X.prog X.w) X.A (do bindName X.env n .none; unbindBehindTheSuite X.env n pos') (fun _ s7 => R s7) X.xe s6 := fun S6 hR => gone_ok (unsuite0 S6 okX) hN hi hln hR
    cases fl with
    | ret u => exact r6.elim fun v ⟨_, _, S6, rv, q⟩ => shut S6 fun _ J7 => ⟨v, _, _, J7, rv, q⟩
    | _ => exact r6.elim fun _ ⟨_, S6, q⟩ => shut S6 fun _ J7 => ⟨_, _, J7, q⟩
theorem ps_try_asT (hs : X.stack = X.env :: X.outer) (hf : X.env.frame = some X.env.locals) (hex : X.ex = []) (hN : X.N.Nodup) (hi : X.N[i]? = some n) (hln : X.env.kindOf n = some .local) (hc : Names X x c) (tk : Takes X Wout)
    (bod : ∀ (W : WX) (pn : List (Addr × Obj)) (xe : Value → Shared → Prop), Takes (X.tr pn xe) W → PassesOwn (model X.prog X.w) X.A X.env xe → PSs (X.tr pn xe) body (tb W))
    (hsu : ∀ (a : Addr) (pn : List (Addr × Obj)), PSs (X.suite a pn) (b₀ :: suite) ts) :
    PS X (.Try body [.ExceptHandler (some (.Name x np)) (some n) (b₀ :: suite) pos'] [] [] pos) (fun D σ H => tb (wAsT X.K c i ts Wout D) D σ H) := by
  constructor
  intro pins s σ H D I h
  have okX := I.ok
  refine wpAny_Try_except (wpAny_mono ((bod (wAsT X.K c i ts Wout D) (X.pn ++ pins) _ (fun u s' z => caught hs hf hex hN hi hln hc tk hsu okX z) PassesOwn.looking).run [] s σ H D (I.toTry _) h) (fun fl s1 r => ?_) (fun _ _ z => z))
  cases fl with
  | next => exact r.elim fun _ ⟨_, J, q⟩ => wpAny_execs_nil ⟨_, _, J.ofTry okX, q⟩
  | ret u => exact r.elim fun v ⟨_, _, J, rv, q⟩ => ⟨v, _, _, J.ofTry okX, rv, q⟩
  | _ => exact r.elim fun _ ⟨_, J, q⟩ => ⟨_, _, J.ofTry okX, q⟩
end
/-! ### defs that may be called while an exception is handled -/
structure FnU (P : Program) (w : World) (K : PySem.W.Frag) (mg : Str → Option Value) (base : Heap) (k : Nat) (f : Addr) (fd : FuncData) (ps : List Str) (sp : Sp) : Prop where
  len : ∀ xs G R Z, sp xs G R Z → xs.length = ps.length
  run : ∀ (A : Around) (outer : List Env) (s : Shared) (H : Hp) (args : Args) (us : List Value) (vs : List V) (Q : VK) (E : XK), L2H.RoomH k A → Env0 P w K mg base A outer s H → BindsTo s fd args (ps.zip us) → Vals vs us → sp vs H Q E → codeAny (model P w) A (.call (.ref f) args) (CR CX0 outer P w H s Q E) s
def cxU (P : Program) (w : World) (K : PySem.W.Frag) (mg : Str → Option Value) (base : Heap) (N : List Str) (qual : Str) (scope : Scope) (f : Addr) (cd : Value) (A : Around) (outer : List Env) (s : Shared) (H : Hp) (E : XK) : Cx :=
  { cxOf CX0 P w K mg base N qual scope f cd A outer s H E with calm := false }
/-- the entry, from the quiet one: nothing but the calm speaks of what is handled -/
theorem inv_startU {P : Program} {w : World} {K : PySem.W.Frag} {mg : Str → Option Value} {base : Heap} {N ps : List Str} {qual : Str} {scope : Scope} {f : Addr} {cd : Value} {A : Around} {outer : List Env} {s s1 : Shared} {H : Hp} {E : XK} {us : List Value} {vs : List V}
    (S : FnScope N ps scope) (e0 : Env0 P w K mg base A outer s H) (hl : vs.length = ps.length) (r : Vals vs us)
    (ic : InCallC s s.heap.objs.size (bindL (envOfC qual scope s.heap.objs.size f cd).kindOf (ps.zip us) fun _ => none) (cellsFrom (s.heap.objs.size + 1) scope.names []) (bindC (envOfC qual scope s.heap.objs.size f cd).kindOf (ps.zip us) fun _ => none) s1) :
    Inv (cxU P w K mg base N qual scope f cd A outer s H E) [] (L2.start N vs) H s1 := by
  have e1 : Env0 P w K mg base { A with handled := none } outer s H := ⟨e0.frames, e0.mod, e0.bs, e0.bsz, e0.funs, e0.frf, e0.hok, e0.bare⟩
  have I := inv_start (CX := CX0) (E := E) (cd := cd) (f := f) (qual := qual) S (A := { A with handled := none }) rfl e1 hl r ic
  have o := I.ok
  exact
    { ok := { mod := o.mod, kind := o.kind, glob := o.glob, blt := o.blt, above := o.above, inj := o.inj, has := o.has, cab := o.cab, hd := fun z => Bool.noConfusion (show false = true from z), frames := Around.frames_deeper e0.frames, stk := o.stk, exf := o.exf, bs := o.bs, bsz := o.bsz, noex := o.noex, exfs := o.exfs, funs := o.funs, frf := o.frf }
      os := I.os, bare := I.bare, base := I.base, loc := I.loc, cell := I.cell, free := I.free, freeC := I.freeC, pin := I.pin, hok := I.hok, len := I.len }
theorem Fun_okU {P : Program} {w : World} {K : PySem.W.Frag} {mg : Str → Option Value} {base : Heap} {x qual : Str} {st : Stmt} {f : Addr} {fd : FuncData} {N ps : List Str} {k : Nat} {sp : Sp} (F : Fun K x qual st f fd) (S : FnScope N ps (defScope st)) (len : ∀ vs H Q E, sp vs H Q E → vs.length = ps.length)
    (bod : ∀ (cdv : Value) (A : Around) (outer : List Env) (s : Shared) (H : Hp) (vs : List V) (Q : VK) (E : XK), L2H.RoomH k (A.deeper (envOfC qual (defScope st) s.heap.objs.size f cdv)) → sp vs H Q E →
      ∃ t, PSs (cxU P w K mg base N qual (defScope st) f cdv A outer s H E).nox (defBody st) t ∧ t { nx := fun _ H' => Q .non H', rt := Q } (L2.start N vs) H) : FnU P w K mg base (k + 1) f fd ps sp := by
  rcases F.ex with ⟨oc, od, kV, doc, pm, an, cdv, ct, osl, rfl, lk, code⟩
  refine ⟨len, fun A outer s H args us vs Q E room env bind rel pre => ?_⟩
  have up : ∀ b o, base.get? b = some o → s.heap.get? b = some o := fun b o e => (env.bs b o e).1
  have KX : K.In s.heap := env.mod.kin.keeps up
  have kinds : ∀ y ∈ ps.zip us, (defScope st).names.lookup y.1 = some .local ∨ ((defScope st).names.lookup y.1 = some .cell ∧ ((cellsFrom (s.heap.objs.size + 1) (defScope st).names []).lookup y.1).isSome = true) := fun y hy =>
    (S.par y.1 (List.of_mem_zip (a := y.1) (b := y.2) hy).1).imp id fun q => ⟨q, PySem.W.cellsFrom_some _ _ _ (.inl q)⟩
  refine codeAny_call_function room.depth (KX _ _ lk) rfl S.co S.gen rfl (PySem.W.codeRec_of KX code) (bind _ _ _ _ (wpAny_newFunctionEnv_cells S.kind kinds fun ev hev s1 ic => ?_))
  subst hev
  refine ⟨(env.mod.nolimit.keeps up).keeps ic.toInCall.keep, codeAny_func ?_⟩
  obtain ⟨t, ht, rd⟩ := bod cdv A outer s H vs Q E (room.deeper _) pre
  refine wpAny_mono (ht.nox.run [] s1 (L2.start N vs) H _ (inv_startU S env (len _ _ _ _ pre) rel ic) rd) (fun fl s' z => ?_) fun _ _ z => z
  cases fl with
  | ret u => exact z.elim fun v ⟨_, H', J, rv, q⟩ => ⟨v, H', J.os, J.bare, J.base, J.hok, rv, q⟩
  | next => exact z.elim fun _ ⟨H', J, q⟩ => ⟨V.non, H', J.os, J.bare, J.base, J.hok, rfl, q⟩
  | _ => exact z.elim fun _ ⟨_, _, q⟩ => q.elim
theorem pe_callU {X : Cx} {k : Nat} {f : Addr} {fd : FuncData} {ps : List Str} {sp : Sp} {x : Str} {q pos : Pos} {e : Expr} {es : List Expr} {t : TA} (F : FnU X.prog X.w X.K X.mg X.base k f fd ps sp) (room : L2H.RoomH k X.A) (hg : Gl X x) (hm : X.mg x = some (.ref f)) (hk : PySem.W.keepIn X.K (.ref f) = true) (hb : Binds X.K fd ps [])
    (ha : PA X (e :: es) t) (hdb : (x == ("__debug__" : Str)) = false := by decide) (he : starEach (e :: es) X.env = (false, eval e X.env) :: starEach es X.env := by rfl) (hpl : (backTo pos (starEach es X.env)).any (·.1) = false := by rfl) : PE X (.Call (.Name x q) (e :: es) [] pos) (tCall sp [] E0 t) := by
  constructor
  intro pins s σ H Q I h
  refine wpAny_Call_Name_kw (ld_glob I hg hm (PySem.W.callWith_K (h₀ := X.base) I.ok.mod.kin hk (thn (ha.run pos pins s σ H _ I h) fun us s1 ⟨vs, H1, J, rel, pre⟩ => ⟨J.kIn, ?_⟩) he hpl) hdb)
  have pre : sp vs H1 Q E0 := by
    have z : sp (vs ++ []) H1 Q E0 := pre
    rwa [List.append_nil] at z
  have bind : BindsTo s1 fd ⟨us, []⟩ (ps.zip us) := by
    have z := hb s1 us J.kIn (by rw [List.append_nil, ← rel.length]; exact F.len _ _ _ _ pre)
    rwa [List.append_nil] at z
  refine wpAny_call (codeAny_mono (F.run X.A X.stack s1 H1 ⟨us, []⟩ us vs Q E0 room J.env0 bind rel pre) fun res s' z => ?_)
  rcases res with er | fl
  · exact False.elim z
  · cases fl with
    | ret u => exact J.after z
    | _ => exact False.elim z
theorem roomH_suite {k : Nat} {A : Around} {v : Option Value} (r : Room k A) : L2H.RoomH k (A.mark v) := ⟨r.dp, r.un⟩
/-! ### a tracked exception: its fields, isinstance of it -/
def tXt (K : PySem.W.Frag) (f : Str) (te : TE) : TE := fun σ H Q => te σ H fun x H1 => ∃ (a C dd : Addr) (fs : List (Str × V)) (v : V), x = .ref a ∧ H1 a = some (exi a (.ref C) (some dd)) ∧ XfC K C ∧ PySem.W.findIn K (.ref C) f = some none ∧ H1 dd = some (.xd fs) ∧ fs.lookup f = some v ∧ Q v H1
theorem inst_of {P : Program} {w : World} {H : Hp} {g : Heap} {a C dd : Addr} {fs : List (Str × V)} (ok : HOk P w H g) (ha : H a = some (exi a (.ref C) (some dd))) (hd : H dd = some (.xd fs)) :
    ∃ ob od, PySem.W.InstAt g a ob C (some od) ∧ ∃ mA : Str → Option Value, (∀ n, PySem.W.lookIn n od = some (mA n)) ∧ ∀ f, RelO (fs.lookup f) (mA f) := by
  obtain ⟨ob, fv, h1, hz, h2⟩ := exi_at ok ha
  obtain ⟨mA, hns, rel⟩ := (show ObjOk P w H g dd (.xd fs) from ok dd _ hd)
  obtain ⟨od, h3, h4⟩ := lookIn_ns hns
  exact ⟨ob, od, { at_ := h1, cls := hz.1, no := by unfold PySem.W.notCls; rw [h2] <;> rfl, dict := by rw [hz.2]; exact h3 }, mA, h4, rel⟩
theorem pe_xt {X : Cx} {e : Expr} {te : TE} {pos : Pos} {n : Str} (he : PE X e te) (hb : attributeBase e n X.env (eval e X.env) = eval e X.env := by rfl) : PE X (.Attribute e n pos) (tXt X.K n te) := by
  constructor
  intro pins s σ H Q I h
  refine attr_of hb (thn (he.run pins s σ H _ I h) fun u s1 ⟨y, H1, J, ry, a, C, dd, fs, v, ey, ea, T, hno, ed, l, q⟩ => ?_)
  subst ey
  obtain rfl : u = .ref a := ry
  obtain ⟨ob, od, at1, mA, h4, rel⟩ := inst_of J.hok ea ed
  obtain ⟨u, hu, ru⟩ := RelO.some_of (v := v) (o := mA n) (by rw [← l]; exact rel n)
  exact HandSPX.exc_get J.kIn at1 T.ga T.gg T.exC (PySem.W.findObj_own T.hdC hno rfl (by rw [h4, hu])) (handed_of ru) ⟨v, H1, J.tok _, ru, q⟩
/-- isinstance(e, c), e a tracked exception -/
def rIsX (K : PySem.W.Frag) : List V → Hp → VK → Prop := fun xs H Q => ∃ (a D dd : Addr) (fs : List (Str × V)) (c : V) (cv : Value) (b : Bool), xs = [.ref a, c] ∧ ClsV c cv ∧ H a = some (exi a (.ref D) (some dd)) ∧ H dd = some (.xd fs) ∧ ExcC K D ∧ PySem.W.kitOne K (.ref D) cv = some b ∧ Q (.bl b) H
theorem call_isX {X : Cx} : CallR X (.builtin "isinstance") (rIsX X.K) := by
  rintro pins s σ H xs us Q I r ⟨a, D, dd, fs, c, cv, b, rfl, k, ea, ed, C, e, q⟩
  obtain ⟨ue, uc, rfl, re, rc⟩ := vals2 r
  obtain rfl : ue = .ref a := re
  rw [k.eq rc]
  obtain ⟨ob, od, at1, _⟩ := inst_of I.hok ea ed
  have there : (PySem.W.clsIn X.K D).isSome = true := (PySem.W.any_some C.hd).elim fun cd ⟨hc, _⟩ => by rw [hc]; rfl
  exact PySem.W.kia_one (PySem.W.kitx_exc there C.hg C.hk C.hs C.ha C.hn C.ht C.hm) I.kIn at1 e (fun z => nomatch z) fun tk => ⟨.bl b, H, I.tok tk, rfl, q⟩
/-! ## Pre -/
/-! Names of readings, steps through a reading, data in the heap, the draws. -/
/-! ### the operators' readings, by names -/
def oAdd : R2 := rI0 fun i j => .int (i + j)
def oSub : R2 := rI0 fun i j => .int (i - j)
def oMul : R2 := rI CMul fun i j => .int (i * j)
def oMulW : R2 := rI CMulW fun i j => .int (i * j)
def oDiv : R2 := rI CDivW fun i j => .int (i / j)
def oMod : R2 := rI (fun _ j => 0 < j) fun i j => .int (i % j)
def oPow : R2 := rI CPow fun i j => .int (i ^ j.toNat)
def oShl : R2 := rI CPow fun i j => .int (i * 2 ^ j.toNat)
def oShr : R2 := rI (fun _ j => 0 ≤ j) fun i j => .int (i / 2 ^ j.toNat)
def oAnd : R2 := rI0 fun i j => .int (Builtin.bitAnd i j)
def oOr : R2 := rI0 fun i j => .int (Builtin.bitOr i j)
def oNeg : V → Hp → VK → Prop := rU fun i => .int (-i)
def oLt : R2 := rI0 fun i j => .bl (decide (i < j))
def oLe : R2 := rI0 fun i j => .bl (decide (i ≤ j))
def oGt : R2 := rI0 fun i j => .bl (decide (j < i))
def oGe : R2 := rI0 fun i j => .bl (decide (j ≤ i))
def oIsN : R2 := fun x y H Q => y = .non ∧ Q (.bl (decide (x = .non))) H
def oNotN : R2 := fun x y H Q => y = .non ∧ Q (.bl (!decide (x = .non))) H
def oAddS : R2 := fun x y H Q => ∃ i j, x = .str i ∧ y = .str j ∧ i.length + j.length ≤ sizeLine ∧ Q (.str (i ++ j)) H
def rLen (K : PySem.W.Frag) : List V → Hp → VK → Prop := fun vs G R => ∃ x n, vs = [x] ∧ LenV K x G n ∧ R (.int n) G
def rLenStr : List V → Hp → VK → Prop := fun xs H Q => ∃ z, xs = [.str z] ∧ z.length ≤ sizeLine ∧ Q (.int z.length) H
def rMax2 : List V → Hp → VK → Prop := fun vs G R => ∃ i j, vs = [.int i, .int j] ∧ R (.int (if j > i then j else i)) G
def rMin2 : List V → Hp → VK → Prop := fun vs G R => ∃ i j, vs = [.int i, .int j] ∧ R (.int (if j < i then j else i)) G
def rInt1 : List V → Hp → VK → Prop := fun xs H Q => (∃ i, xs = [.int i] ∧ Q (.int i) H) ∨ ∃ k, xs = [.bl k] ∧ Q (.int (if k then 1 else 0)) H
def rListOf (K : PySem.W.Frag) : List V → Hp → VK → Prop := fun xs H Q => ∃ p ys, xs = [.ref p] ∧ (SqL K H p ys ∨ SqT K H p ys) ∧ ∀ l, H l = none → Q (.ref l) (upd H l (.lst ys))
def rTupleOf (K : PySem.W.Frag) : List V → Hp → VK → Prop := fun xs H Q => ∃ p ys, xs = [.ref p] ∧ ((SqL K H p ys ∧ ∀ l, H l = none → Q (.ref l) (upd H l (.tup ys))) ∨ (SqT K H p ys ∧ Q (.ref p) H))
def tTruth (K : PySem.W.Frag) (te : TE) : TT := fun σ H Q => te σ H fun x H' => ∃ k, TruV K x H' k ∧ Q k H'
/-- raise C(e, ..) -/
def tRz (t : St → Hp → XK → Prop) (W : WX) : TS := fun _ σ H => t σ H fun cls d H' => W cls d σ H'
/-- try: .. except C as n: .. -/
def tTryT (K : PySem.W.Frag) (c : Value) (i : Nat) (tb : WX → TS) (ts : TS) (Wout : WX) : TS := fun D σ H => tb (wAsT K c i ts Wout D) D σ H
/-! ### steps: from a reading to what it asks -/
class Stp (P : Prop) (R : outParam Prop) : Prop where
  go : R → P
section
variable {K : PySem.W.Frag} {σ : St} {H : Hp} {Q : VK} {QT : Bool → Hp → Prop} {QA : List V → Hp → Prop} {D : Ends} {v x y : V} {ta tb te : TE} {tt tu : TT} {ts tw : TS} {r : R2} {i j : Int} {n : Nat} {b c : Bool} {nx bk ct : St → Hp → Prop} {rt : VK}
theorem i_seqA {g : TG} (h : te σ H fun x H1 => g x σ H1 (tw D)) : tSeq (tAsg te g) tw D σ H := h
instance s_seqA {g : TG} : Stp (tSeq (tAsg te g) tw D σ H) (te σ H fun x H1 => g x σ H1 (tw D)) := ⟨i_seqA⟩
theorem i_seqD (h : te σ H fun _ H1 => tw D σ H1) : tSeq (tDrop te) tw D σ H := h
instance s_seqD : Stp (tSeq (tDrop te) tw D σ H) (te σ H fun _ H1 => tw D σ H1) := ⟨i_seqD⟩
theorem i_seqG {ti : TIp} (hx : σ[n]? = some (some x)) (h : te σ H fun y H1 => ti x y H1 fun z H2 => tw D (σ.set n (some z)) H2) : tSeq (tAug n te ti) tw D σ H := ⟨x, hx, h⟩
theorem i_seq (h : ts ⟨tw ⟨nx, rt, bk, ct⟩, rt, bk, ct⟩ σ H) : tSeq ts tw ⟨nx, rt, bk, ct⟩ σ H := h
theorem i_var (h : σ[n]? = some (some v)) (q : Q v H) : tVar n σ H Q := ⟨v, h, q⟩
theorem i_c (q : Q v H) : tC v σ H Q := q
instance s_c : Stp (tC v σ H Q) (Q v H) := ⟨i_c⟩
theorem i_op (h : ta σ H fun x H1 => tb σ H1 fun y H2 => r x y H2 Q) : tOp r ta tb σ H Q := h
instance s_op : Stp (tOp r ta tb σ H Q) (ta σ H fun x H1 => tb σ H1 fun y H2 => r x y H2 Q) := ⟨i_op⟩
theorem i_un {r : V → Hp → VK → Prop} (h : ta σ H fun x H1 => r x H1 Q) : tUn r ta σ H Q := h
instance s_un {r : V → Hp → VK → Prop} : Stp (tUn r ta σ H Q) (ta σ H fun x H1 => r x H1 Q) := ⟨i_un⟩
theorem i_nil (h : QA [] H) : tNil σ H QA := h
instance s_nil : Stp (tNil σ H QA) (QA [] H) := ⟨i_nil⟩
theorem i_cons {tr : TA} (h : ta σ H fun x H1 => tr σ H1 fun xs H2 => QA (x :: xs) H2) : tCons ta tr σ H QA := h
instance s_cons {tr : TA} : Stp (tCons ta tr σ H QA) (ta σ H fun x H1 => tr σ H1 fun xs H2 => QA (x :: xs) H2) := ⟨i_cons⟩
theorem i_tup {t : TA} (h : t σ H fun xs H1 => xs.length ≤ sizeLine ∧ ∀ p, H1 p = none → Q (.ref p) (upd H1 p (.tup xs))) : tTup t σ H Q := h
instance s_tup {t : TA} : Stp (tTup t σ H Q) (t σ H fun xs H1 => xs.length ≤ sizeLine ∧ ∀ p, H1 p = none → Q (.ref p) (upd H1 p (.tup xs))) := ⟨i_tup⟩
theorem i_lst {t : TA} (h : t σ H fun xs H1 => xs.length ≤ sizeLine ∧ ∀ p, H1 p = none → Q (.ref p) (upd H1 p (.lst xs))) : tLst t σ H Q := h
instance s_lst {t : TA} : Stp (tLst t σ H Q) (t σ H fun xs H1 => xs.length ≤ sizeLine ∧ ∀ p, H1 p = none → Q (.ref p) (upd H1 p (.lst xs))) := ⟨i_lst⟩
theorem i_call {sp : Sp} {dvs : List V} {E : XK} {t : TA} (h : t σ H fun vs H1 => sp (vs ++ dvs) H1 Q E) : tCall sp dvs E t σ H Q := h
instance s_call {sp : Sp} {dvs : List V} {E : XK} {t : TA} : Stp (tCall sp dvs E t σ H Q) (t σ H fun vs H1 => sp (vs ++ dvs) H1 Q E) := ⟨i_call⟩
theorem i_cb {r : List V → Hp → VK → Prop} {t : TA} (h : t σ H fun vs H1 => r vs H1 Q) : tCB r t σ H Q := h
instance s_cb {r : List V → Hp → VK → Prop} {t : TA} : Stp (tCB r t σ H Q) (t σ H fun vs H1 => r vs H1 Q) := ⟨i_cb⟩
theorem i_test (h : te σ H fun x H' => ∃ k, x = .bl k ∧ QT k H') : tTest te σ H QT := h
instance s_test : Stp (tTest te σ H QT) (te σ H fun x H' => ∃ k, x = .bl k ∧ QT k H') := ⟨i_test⟩
theorem i_B (h : te σ H fun x H' => ∃ k, x = .bl k ∧ QT k H') : tB te σ H QT := h
instance s_B : Stp (tB te σ H QT) (te σ H fun x H' => ∃ k, x = .bl k ∧ QT k H') := ⟨i_B⟩
theorem i_bl (q : QT b H) : ∃ k, V.bl b = .bl k ∧ QT k H := ⟨b, rfl, q⟩
theorem i_blV {P : Bool → Prop} (q : P b) : ∃ k, V.bl b = .bl k ∧ P k := ⟨b, rfl, q⟩
theorem i_and (h : tt σ H fun c H1 => if c = true then tu σ H1 QT else QT false H1) : tAnd tt tu σ H QT := h
instance s_and : Stp (tAnd tt tu σ H QT) (tt σ H fun c H1 => if c = true then tu σ H1 QT else QT false H1) := ⟨i_and⟩
theorem i_or (h : tt σ H fun c H1 => if c = true then QT true H1 else tu σ H1 QT) : tOr tt tu σ H QT := h
instance s_or : Stp (tOr tt tu σ H QT) (tt σ H fun c H1 => if c = true then QT true H1 else tu σ H1 QT) := ⟨i_or⟩
theorem i_not (h : tt σ H fun c H1 => QT (!c) H1) : tNot tt σ H QT := h
instance s_not : Stp (tNot tt σ H QT) (tt σ H fun c H1 => QT (!c) H1) := ⟨i_not⟩
theorem i_andV (h : ta σ H fun x H1 => ∃ c, x = .bl c ∧ if c = true then tb σ H1 Q else Q (.bl false) H1) : tAndV ta tb σ H Q := h
instance s_andV : Stp (tAndV ta tb σ H Q) (ta σ H fun x H1 => ∃ c, x = .bl c ∧ if c = true then tb σ H1 Q else Q (.bl false) H1) := ⟨i_andV⟩
theorem i_orV (h : ta σ H fun x H1 => ∃ c, x = .bl c ∧ if c = true then Q (.bl true) H1 else tb σ H1 Q) : tOrV ta tb σ H Q := h
instance s_orV : Stp (tOrV ta tb σ H Q) (ta σ H fun x H1 => ∃ c, x = .bl c ∧ if c = true then Q (.bl true) H1 else tb σ H1 Q) := ⟨i_orV⟩
theorem i_notV (h : ta σ H fun x H1 => ∃ c, x = .bl c ∧ Q (.bl (!c)) H1) : tNotV ta σ H Q := h
instance s_notV : Stp (tNotV ta σ H Q) (ta σ H fun x H1 => ∃ c, x = .bl c ∧ Q (.bl (!c)) H1) := ⟨i_notV⟩
theorem i_ife (h : tt σ H fun c H1 => if c = true then ta σ H1 Q else tb σ H1 Q) : tIf tt ta tb σ H Q := h
instance s_ife : Stp (tIf tt ta tb σ H Q) (tt σ H fun c H1 => if c = true then ta σ H1 Q else tb σ H1 Q) := ⟨i_ife⟩
theorem i_ifS (h : tt σ H fun b H1 => if b = true then ts D σ H1 else tw D σ H1) : tIfS tt ts tw D σ H := h
instance s_ifS : Stp (tIfS tt ts tw D σ H) (tt σ H fun b H1 => if b = true then ts D σ H1 else tw D σ H1) := ⟨i_ifS⟩
theorem i_next (h : nx σ H) : tNext ⟨nx, rt, bk, ct⟩ σ H := h
instance s_next : Stp (tNext ⟨nx, rt, bk, ct⟩ σ H) (nx σ H) := ⟨i_next⟩
theorem i_break (h : bk σ H) : tBreak ⟨nx, rt, bk, ct⟩ σ H := h
instance s_break : Stp (tBreak ⟨nx, rt, bk, ct⟩ σ H) (bk σ H) := ⟨i_break⟩
theorem i_cont (h : ct σ H) : tCont ⟨nx, rt, bk, ct⟩ σ H := h
instance s_cont : Stp (tCont ⟨nx, rt, bk, ct⟩ σ H) (ct σ H) := ⟨i_cont⟩
theorem i_ret (h : te σ H rt) : tRet te ⟨nx, rt, bk, ct⟩ σ H := h
instance s_ret : Stp (tRet te ⟨nx, rt, bk, ct⟩ σ H) (te σ H rt) := ⟨i_ret⟩
theorem i_retN (h : rt .non H) : tRetN ⟨nx, rt, bk, ct⟩ σ H := h
instance s_retN : Stp (tRetN ⟨nx, rt, bk, ct⟩ σ H) (rt .non H) := ⟨i_retN⟩
theorem i_drop (h : te σ H fun _ H1 => nx σ H1) : tDrop te ⟨nx, rt, bk, ct⟩ σ H := h
instance s_drop : Stp (tDrop te ⟨nx, rt, bk, ct⟩ σ H) (te σ H fun _ H1 => nx σ H1) := ⟨i_drop⟩
theorem i_asg {g : TG} (h : te σ H fun x H1 => g x σ H1 nx) : tAsg te g ⟨nx, rt, bk, ct⟩ σ H := h
instance s_asg {g : TG} : Stp (tAsg te g ⟨nx, rt, bk, ct⟩ σ H) (te σ H fun x H1 => g x σ H1 nx) := ⟨i_asg⟩
theorem i_gname {R : St → Hp → Prop} (h : R (σ.set n (some v)) H) : gName n v σ H R := h
instance s_gname {R : St → Hp → Prop} : Stp (gName n v σ H R) (R (σ.set n (some v)) H) := ⟨i_gname⟩
theorem i_aug {ti : TIp} (hx : σ[n]? = some (some x)) (h : te σ H fun y H1 => ti x y H1 fun z H2 => nx (σ.set n (some z)) H2) : tAug n te ti ⟨nx, rt, bk, ct⟩ σ H := ⟨x, hx, h⟩
theorem i_ipI {f : Int → Int → Int} (q : Q (.int (f i j)) H) : ipI f (.int i) (.int j) H Q := ⟨i, j, rfl, rfl, q⟩
instance s_ipI {f : Int → Int → Int} : Stp (ipI f (.int i) (.int j) H Q) (Q (.int (f i j)) H) := ⟨i_ipI⟩
theorem i_add (q : Q (.int (i + j)) H) : oAdd (.int i) (.int j) H Q := ⟨i, j, rfl, rfl, q⟩
instance s_add : Stp (oAdd (.int i) (.int j) H Q) (Q (.int (i + j)) H) := ⟨i_add⟩
theorem i_sub (q : Q (.int (i - j)) H) : oSub (.int i) (.int j) H Q := ⟨i, j, rfl, rfl, q⟩
instance s_sub : Stp (oSub (.int i) (.int j) H Q) (Q (.int (i - j)) H) := ⟨i_sub⟩
theorem i_mul (h : CMul i j) (q : Q (.int (i * j)) H) : oMul (.int i) (.int j) H Q := ⟨i, j, rfl, rfl, h, q⟩
theorem i_mulW (h : CMulW i j) (q : Q (.int (i * j)) H) : oMulW (.int i) (.int j) H Q := ⟨i, j, rfl, rfl, h, q⟩
theorem i_div (h : CDivW i j) (q : Q (.int (i / j)) H) : oDiv (.int i) (.int j) H Q := ⟨i, j, rfl, rfl, h, q⟩
theorem i_mod (h : 0 < j) (q : Q (.int (i % j)) H) : oMod (.int i) (.int j) H Q := ⟨i, j, rfl, rfl, h, q⟩
theorem i_pow (h : CPow i j) (q : Q (.int (i ^ j.toNat)) H) : oPow (.int i) (.int j) H Q := ⟨i, j, rfl, rfl, h, q⟩
theorem i_shl (h : CPow i j) (q : Q (.int (i * 2 ^ j.toNat)) H) : oShl (.int i) (.int j) H Q := ⟨i, j, rfl, rfl, h, q⟩
theorem i_band (q : Q (.int (Builtin.bitAnd i j)) H) : oAnd (.int i) (.int j) H Q := ⟨i, j, rfl, rfl, q⟩
instance s_band : Stp (oAnd (.int i) (.int j) H Q) (Q (.int (Builtin.bitAnd i j)) H) := ⟨i_band⟩
theorem i_neg (q : Q (.int (-i)) H) : oNeg (.int i) H Q := ⟨i, rfl, q⟩
instance s_neg : Stp (oNeg (.int i) H Q) (Q (.int (-i)) H) := ⟨i_neg⟩
theorem i_lt (q : Q (.bl (decide (i < j))) H) : oLt (.int i) (.int j) H Q := ⟨i, j, rfl, rfl, q⟩
instance s_lt : Stp (oLt (.int i) (.int j) H Q) (Q (.bl (decide (i < j))) H) := ⟨i_lt⟩
theorem i_le (q : Q (.bl (decide (i ≤ j))) H) : oLe (.int i) (.int j) H Q := ⟨i, j, rfl, rfl, q⟩
instance s_le : Stp (oLe (.int i) (.int j) H Q) (Q (.bl (decide (i ≤ j))) H) := ⟨i_le⟩
theorem i_gt (q : Q (.bl (decide (j < i))) H) : oGt (.int i) (.int j) H Q := ⟨i, j, rfl, rfl, q⟩
instance s_gt : Stp (oGt (.int i) (.int j) H Q) (Q (.bl (decide (j < i))) H) := ⟨i_gt⟩
theorem i_ge (q : Q (.bl (decide (j ≤ i))) H) : oGe (.int i) (.int j) H Q := ⟨i, j, rfl, rfl, q⟩
instance s_ge : Stp (oGe (.int i) (.int j) H Q) (Q (.bl (decide (j ≤ i))) H) := ⟨i_ge⟩
theorem dec_eqI : decide (V.int i = V.int j) = decide (i = j) := by
  by_cases h : i = j
  · subst h; simp
  · rw [decide_eq_false h, decide_eq_false (fun z => h (V.int.inj z))]
theorem dec_eqS {a b : Str} : decide (V.str a = V.str b) = decide (a = b) := by
  by_cases h : a = b
  · subst h; simp
  · rw [decide_eq_false h, decide_eq_false (fun z => h (V.str.inj z))]
theorem i_eq (q : Q (.bl (decide (i = j))) H) : rEq (.int i) (.int j) H Q := ⟨rfl, by rw [dec_eqI]; exact q⟩
instance s_eq : Stp (rEq (.int i) (.int j) H Q) (Q (.bl (decide (i = j))) H) := ⟨i_eq⟩
theorem i_ne (q : Q (.bl (!decide (i = j))) H) : rNe (.int i) (.int j) H Q := ⟨rfl, by rw [dec_eqI]; exact q⟩
instance s_ne : Stp (rNe (.int i) (.int j) H Q) (Q (.bl (!decide (i = j))) H) := ⟨i_ne⟩
theorem i_eqS {a b : Str} (q : Q (.bl (decide (a = b))) H) : rEq (.str a) (.str b) H Q := ⟨rfl, by rw [dec_eqS]; exact q⟩
instance s_eqS {a b : Str} : Stp (rEq (.str a) (.str b) H Q) (Q (.bl (decide (a = b))) H) := ⟨i_eqS⟩
theorem i_neS {a b : Str} (q : Q (.bl (!decide (a = b))) H) : rNe (.str a) (.str b) H Q := ⟨rfl, by rw [dec_eqS]; exact q⟩
instance s_neS {a b : Str} : Stp (rNe (.str a) (.str b) H Q) (Q (.bl (!decide (a = b))) H) := ⟨i_neS⟩
theorem i_isN (q : Q (.bl (decide (x = .non))) H) : oIsN x .non H Q := ⟨rfl, q⟩
instance s_isN : Stp (oIsN x .non H Q) (Q (.bl (decide (x = .non))) H) := ⟨i_isN⟩
theorem i_notN (q : Q (.bl (!decide (x = .non))) H) : oNotN x .non H Q := ⟨rfl, q⟩
instance s_notN : Stp (oNotN x .non H Q) (Q (.bl (!decide (x = .non))) H) := ⟨i_notN⟩
theorem i_max (q : Q (.int (if j > i then j else i)) H) : rMax2 [.int i, .int j] H Q := ⟨i, j, rfl, q⟩
instance s_max : Stp (rMax2 [.int i, .int j] H Q) (Q (.int (if j > i then j else i)) H) := ⟨i_max⟩
theorem i_min (q : Q (.int (if j < i then j else i)) H) : rMin2 [.int i, .int j] H Q := ⟨i, j, rfl, q⟩
instance s_min : Stp (rMin2 [.int i, .int j] H Q) (Q (.int (if j < i then j else i)) H) := ⟨i_min⟩
theorem i_int1 (q : Q (.int i) H) : rInt1 [.int i] H Q := .inl ⟨i, rfl, q⟩
instance s_int1 : Stp (rInt1 [.int i] H Q) (Q (.int i) H) := ⟨i_int1⟩
theorem i_chain {r r' : R2} {tc : TE} (h : ta σ H fun x H1 => tb σ H1 fun y H2 => r x y H2 fun z H3 => ∃ k, z = .bl k ∧ if k = true then tc σ H3 fun w H4 => r' y w H4 Q else Q (.bl false) H3) : tChain r r' ta tb tc σ H Q := h
instance s_chain {r r' : R2} {tc : TE} : Stp (tChain r r' ta tb tc σ H Q) (ta σ H fun x H1 => tb σ H1 fun y H2 => r x y H2 fun z H3 => ∃ k, z = .bl k ∧ if k = true then tc σ H3 fun w H4 => r' y w H4 Q else Q (.bl false) H3) := ⟨i_chain⟩
theorem i_ixL {p : Addr} {xs : List V} (h : SqL K H p xs) (e : atI xs i = some v) (q : Q v H) : rIxL K (.ref p) (.int i) H Q := ⟨p, xs, i, v, rfl, rfl, h, e, q⟩
theorem i_ixT {p : Addr} {xs : List V} (h : SqT K H p xs) (e : atI xs i = some v) (q : Q v H) : rIxT K (.ref p) (.int i) H Q := ⟨p, xs, i, v, rfl, rfl, h, e, q⟩
theorem i_setL {R : Hp → Prop} {p : Addr} {xs : List V} (h : H p = some (.lst xs)) (e : ixN xs.length i = some n) (q : R (upd H p (.lst (xs.set n v)))) : rSetL (.ref p) (.int i) v H R := ⟨p, xs, i, n, rfl, rfl, h, e, q⟩
theorem i_gsub {to ti : TE} {t : TSet} {R : St → Hp → Prop} (h : to σ H fun o H1 => ti σ H1 fun i H2 => t o i v H2 fun H3 => R σ H3) : gSub to ti t v σ H R := h
instance s_gsub {to ti : TE} {t : TSet} {R : St → Hp → Prop} : Stp (gSub to ti t v σ H R) (to σ H fun o H1 => ti σ H1 fun i H2 => t o i v H2 fun H3 => R σ H3) := ⟨i_gsub⟩
theorem i_lenL {p : Addr} {xs : List V} (h : SqL K H p xs) (q : Q (.int xs.length) H) : rLen K [.ref p] H Q := ⟨.ref p, xs.length, rfl, .inl ⟨xs, h, rfl⟩, q⟩
theorem i_lenT {p : Addr} {xs : List V} (h : SqT K H p xs) (q : Q (.int xs.length) H) : rLen K [.ref p] H Q := ⟨.ref p, xs.length, rfl, .inr ⟨xs, h, rfl⟩, q⟩
theorem sqL {p : Addr} {xs : List V} (h : H p = some (.lst xs)) : SqL K H p xs := .inl (.inl h)
theorem sqT {p : Addr} {xs : List V} (h : H p = some (.tup xs)) : SqT K H p xs := .inl (.inl h)
theorem i_gtup {p : Addr} {xs : List V} {t : TGs} {R : St → Hp → Prop} (h : SqT K H p xs) (hl : xs.length = n) (q : t xs σ H R) : gTup K n t (.ref p) σ H R := ⟨p, xs, rfl, h, hl, q⟩
theorem i_gnil {R : St → Hp → Prop} (q : R σ H) : gNil [] σ H R := ⟨rfl, q⟩
instance s_gnil {R : St → Hp → Prop} : Stp (gNil [] σ H R) (R σ H) := ⟨i_gnil⟩
theorem i_gcons {t : TG} {u : TGs} {R : St → Hp → Prop} {xs : List V} (q : t v σ H fun σ' H' => u xs σ' H' R) : gCons t u (v :: xs) σ H R := ⟨v, xs, rfl, q⟩
instance s_gcons {t : TG} {u : TGs} {R : St → Hp → Prop} {xs : List V} : Stp (gCons t u (v :: xs) σ H R) (t v σ H fun σ' H' => u xs σ' H' R) := ⟨i_gcons⟩
end
/-- an if on a test that is a decided proposition, its opposite, a known bool -/
theorem i_ifd {p A B : Prop} {inst : Decidable p} (h1 : p → A) (h2 : ¬ p → B) : if decide p = true then A else B := by
  by_cases h : p
  · rw [decide_eq_true h]; exact h1 h
  · rw [decide_eq_false h]; exact h2 h
theorem i_ifn {p A B : Prop} {inst : Decidable p} (h1 : ¬ p → A) (h2 : p → B) : if (!decide p) = true then A else B := by
  by_cases h : p
  · rw [decide_eq_true h]; exact h2 h
  · rw [decide_eq_false h]; exact h1 h
theorem i_ifb {b : Bool} {A B : Prop} (h1 : b = true → A) (h2 : b = false → B) : if b = true then A else B := by
  cases b with
  | true => exact h1 rfl
  | false => exact h2 rfl
theorem i_ifT {A B : Prop} (h : A) : if true = true then A else B := h
instance s_ifT {A B : Prop} : Stp (if true = true then A else B) (A) := ⟨i_ifT⟩
theorem i_ifF {A B : Prop} (h : B) : if false = true then A else B := h
instance s_ifF {A B : Prop} : Stp (if false = true then A else B) (B) := ⟨i_ifF⟩
theorem i_ifnT {A B : Prop} (h : B) : if (!true) = true then A else B := h
instance s_ifnT {A B : Prop} : Stp (if (!true) = true then A else B) (B) := ⟨i_ifnT⟩
theorem i_ifnF {A B : Prop} (h : A) : if (!false) = true then A else B := h
instance s_ifnF {A B : Prop} : Stp (if (!false) = true then A else B) (A) := ⟨i_ifnF⟩
theorem i_yes {p A B : Prop} {inst : Decidable p} (hp : p) (h : A) : if decide p = true then A else B := by rw [decide_eq_true hp]; exact h
theorem i_no {p A B : Prop} {inst : Decidable p} (hp : ¬ p) (h : B) : if decide p = true then A else B := by rw [decide_eq_false hp]; exact h
theorem sz {n : Nat} (h : n ≤ 100000) : n ≤ sizeLine := Nat.le_trans h (by decide)
theorem szl {n : Nat} (h : n < 100000) : n < sizeLine := Nat.lt_of_lt_of_le h (by decide)
theorem cmul_l {i j : Int} (h1 : -1000000000000 ≤ i) (h2 : i ≤ 1000000000000) : CMul i j := .inl ⟨by omega, by omega⟩
theorem cmul_r {i j : Int} (h1 : -1000000000000 ≤ j) (h2 : j ≤ 1000000000000) : CMul i j := .inr ⟨by omega, by omega⟩
theorem cdiv {i j : Int} (h0 : 0 < j) (h : j ≤ 100000000000000000000000000000000000000000000000000000000000000000000000000000) : CDivW i j := wide_div (b := 300) h0 (by
  have e : (100000000000000000000000000000000000000000000000000000000000000000000000000000 : Nat) < 2 ^ 300 := by decide
  omega) (by decide) (by decide)
theorem cpow10 {j : Int} (h0 : 0 ≤ j) (h : j ≤ 100000) : CPow 10 j := ⟨h0, by omega, by decide⟩
theorem cpow2 {j : Int} (h0 : 0 ≤ j) (h : j ≤ 100000) : CPow 2 j := ⟨h0, by omega, by decide⟩
theorem cpow1 {j : Int} (h0 : 0 ≤ j) (h : j ≤ 100000) : CPow 1 j := ⟨h0, by omega, by decide⟩
/-! ### heaps: what is kept -/
theorem same_new {H : Hp} {p : Addr} {o : HO} (h : H p = none) : Same H (upd H p o) := fun b u e => by
  rw [upd_ne (ne_of_none e h)]
  exact e
theorem upd_keep {H : Hp} {p a : Addr} {o u : HO} (h : H p = none) (e : H a = some u) : upd H p o a = some u := same_new h _ _ e
theorem upd_off {H : Hp} {p a : Addr} {o u : HO} (h : a ≠ p) (e : H a = some u) : upd H p o a = some u := by
  rw [upd_ne h]
  exact e
/-- the heap without s -/
def hid (s : Addr) (H : Hp) : Hp := fun b => if b = s then none else H b
theorem hid_of {s : Addr} {H : Hp} {b : Addr} {o : HO} (h : hid s H b = some o) : H b = some o ∧ b ≠ s := by
  unfold hid at h
  split at h
  · cases h
  · exact ⟨h, by assumption⟩
theorem hid_to {s : Addr} {H : Hp} {b : Addr} {o : HO} (h : H b = some o) (n : b ≠ s) : hid s H b = some o := by
  unfold hid
  rw [if_neg n]
  exact h
theorem hid_same {s : Addr} {H : Hp} : Same (hid s H) H := fun _ _ h => (hid_of h).1
theorem hid_upd {s : Addr} {H : Hp} {o : HO} : hid s (upd H s o) = hid s H := by
  funext b
  unfold hid
  by_cases h : b = s
  · rw [if_pos h, if_pos h]
  · rw [if_neg h, if_neg h, upd_ne h]
theorem hid_mono {s : Addr} {H H' : Hp} (h : Same H H') : Same (hid s H) (hid s H') := fun b o e => by
  obtain ⟨e1, n⟩ := hid_of e
  exact hid_to (h b o e1) n
/-- the draws at d, their state at s -/
def Dr (d s : Addr) (H : Hp) : Prop := ∃ (c : Addr) (cs : List Int) (p b n t e : Int), H d = some (.lst [.ref c, .ref s]) ∧ H c = some (.lst (cs.map V.int)) ∧ H s = some (.lst [.int p, .int b, .int n, .int t, .int e]) ∧ d ≠ s ∧ c ≠ s ∧ 0 ≤ p ∧ 0 ≤ b ∧ cs.length ≤ 100000
theorem Dr.same {d s : Addr} {H H' : Hp} (h : Dr d s H) (k : Same H H') : Dr d s H' := by
  obtain ⟨c, cs, p, b, n, t, e, h1, h2, h3, h4⟩ := h
  exact ⟨c, cs, p, b, n, t, e, k _ _ h1, k _ _ h2, k _ _ h3, h4⟩
theorem Dr.s {d s : Addr} {H : Hp} (h : Dr d s H) : ∃ o, H s = some o := by
  obtain ⟨c, cs, p, b, n, t, e, h1, h2, h3, h4⟩ := h
  exact ⟨_, h3⟩
theorem Dr.ne {d s q : Addr} {H : Hp} (h : Dr d s H) (hq : H q = none) : q ≠ s := by
  obtain ⟨o, ho⟩ := h.s
  exact fun z => by
    rw [z, ho] at hq
    cases hq
theorem hid_new {s p : Addr} {H : Hp} {o : HO} (h : p ≠ s) : hid s (upd H p o) p = some o := hid_to upd_same h
/-! ### plain data in the heap -/
inductive Dt where
  | non | bl (b : Bool) | int (i : Int) | str (x : Str) | lst (l : List Dt) | tup (l : List Dt) | dic (l : List (Str × Dt))
mutual
inductive At (H : Hp) : V → Dt → Prop where
  | non : At H .non .non
  | bl (b : Bool) : At H (.bl b) (.bl b)
  | int (i : Int) : At H (.int i) (.int i)
  | str (x : Str) : At H (.str x) (.str x)
  | lst {a : Addr} {vs : List V} {ds : List Dt} (h : H a = some (.lst vs)) (hs : Ats H vs ds) : At H (.ref a) (.lst ds)
  | tup {a : Addr} {vs : List V} {ds : List Dt} (h : H a = some (.tup vs)) (hs : Ats H vs ds) : At H (.ref a) (.tup ds)
  | dic {a : Addr} {kvs : List (Key × V)} {ds : List (Str × Dt)} (h : H a = some (.dK kvs)) (hs : Atk H kvs ds) : At H (.ref a) (.dic ds)
inductive Ats (H : Hp) : List V → List Dt → Prop where
  | nil : Ats H [] []
  | cons {v : V} {d : Dt} {vs : List V} {ds : List Dt} (h : At H v d) (hs : Ats H vs ds) : Ats H (v :: vs) (d :: ds)
inductive Atk (H : Hp) : List (Key × V) → List (Str × Dt) → Prop where
  | nil : Atk H [] []
  | cons {k : Str} {v : V} {d : Dt} {vs : List (Key × V)} {ds : List (Str × Dt)} (h : At H v d) (hs : Atk H vs ds) : Atk H ((Sum.inr k, v) :: vs) ((k, d) :: ds)
end
mutual
theorem At.mono {H H' : Hp} (k : Same H H') : ∀ {v : V} {d : Dt}, At H v d → At H' v d
  | _, _, .non => .non
  | _, _, .bl b => .bl b
  | _, _, .int i => .int i
  | _, _, .str x => .str x
  | _, _, .lst h hs => .lst (k _ _ h) (Ats.mono k hs)
  | _, _, .tup h hs => .tup (k _ _ h) (Ats.mono k hs)
  | _, _, .dic h hs => .dic (k _ _ h) (Atk.mono k hs)
theorem Ats.mono {H H' : Hp} (k : Same H H') : ∀ {v : List V} {d : List Dt}, Ats H v d → Ats H' v d
  | _, _, .nil => .nil
  | _, _, .cons h hs => .cons (At.mono k h) (Ats.mono k hs)
theorem Atk.mono {H H' : Hp} (k : Same H H') : ∀ {v : List (Key × V)} {d : List (Str × Dt)}, Atk H v d → Atk H' v d
  | _, _, .nil => .nil
  | _, _, .cons h hs => .cons (At.mono k h) (Atk.mono k hs)
end
theorem Ats.length {H : Hp} : ∀ {vs : List V} {ds : List Dt}, Ats H vs ds → vs.length = ds.length
  | _, _, .nil => rfl
  | _, _, .cons _ hs => congrArg (· + 1) (Ats.length hs)
theorem Ats.get {H : Hp} : ∀ {vs : List V} {ds : List Dt} {i : Nat} {d : Dt}, Ats H vs ds → ds[i]? = some d → ∃ v, vs[i]? = some v ∧ At H v d
  | _, _, _, _, .nil, e => by simp at e
  | _, _, 0, _, .cons h _, e => by simp at e; subst e; exact ⟨_, rfl, h⟩
  | _, _, i + 1, d, .cons _ hs, e => by
    obtain ⟨v, h1, h2⟩ := Ats.get (i := i) (d := d) hs (by simpa using e)
    exact ⟨v, by simpa using h1, h2⟩
/-- the built-in class of a known value -/
inductive Ty0 (H : Hp) : V → String → Prop where
  | non : Ty0 H .non "NoneType"
  | bl (b : Bool) : Ty0 H (.bl b) "bool"
  | int (i : Int) : Ty0 H (.int i) "int"
  | str (x : Str) : Ty0 H (.str x) "str"
  | lst {a : Addr} {vs : List V} (h : H a = some (.lst vs)) : Ty0 H (.ref a) "list"
  | tup {a : Addr} {vs : List V} (h : H a = some (.tup vs)) : Ty0 H (.ref a) "tuple"
  | dic {a : Addr} {kvs : List (Key × V)} (h : H a = some (.dK kvs)) : Ty0 H (.ref a) "dict"
theorem Ty0.tx {K : PySem.W.Frag} {H : Hp} {v : V} {n : String} (h : Ty0 H v n) : TyX K H v (.type n) := by
  cases h with
  | non => exact .base .non
  | bl b => exact .base (.bl b)
  | int i => exact .base (.int i)
  | str x => exact .base (.str x)
  | lst h => exact .base (.lst h)
  | tup h => exact .base (.tup h)
  | dic h => exact .base (.dK h)
def Dt.ty : Dt → String
  | .non => "NoneType" | .bl _ => "bool" | .int _ => "int" | .str _ => "str" | .lst _ => "list" | .tup _ => "tuple" | .dic _ => "dict"
theorem At.ty {H : Hp} {v : V} {d : Dt} (h : At H v d) : Ty0 H v d.ty := by
  cases h with
  | non => exact .non
  | bl b => exact .bl b
  | int i => exact .int i
  | str x => exact .str x
  | lst h _ => exact .lst h
  | tup h _ => exact .tup h
  | dic h _ => exact .dic h
theorem Ty0.mono {H H' : Hp} {v : V} {n : String} (k : Same H H') (h : Ty0 H v n) : Ty0 H' v n := by
  cases h with
  | non => exact .non
  | bl b => exact .bl b
  | int i => exact .int i
  | str x => exact .str x
  | lst h => exact .lst (k _ _ h)
  | tup h => exact .tup (k _ _ h)
  | dic h => exact .dic (k _ _ h)
theorem i_isi {K : PySem.W.Frag} {H : Hp} {Q : VK} {v : V} {n c : String} {b : Bool} (h : Ty0 H v n) (e : kitB n c = some b) (q : Q (.bl b) H) : rIsi K [v, .ty c] H Q :=
  ⟨v, .ty c, .type n, .type c, b, rfl, .ty c, h.tx, kit_ty e, q⟩
/-! ### loops and comprehensions -/
/-- a for over J from σ and H on; a comprehension likewise -/
def ForW (J : It) (g : TG) (tb : TS) (D : Ends) (σ : St) (H1 : Hp) : Prop := tFor (fun _ G R => R J G) g tb D σ H1
def LcW (J : It) (g : TG) (tt : TT) (te : TE) (vs : List Nat) (σ : St) (H1 : Hp) (Q : VK) : Prop := tLc (fun _ G R => R J G) g tt te vs σ H1 Q
section
variable {K : PySem.W.Frag} {σ : St} {H : Hp} {Q : VK} {D : Ends} {g : TG} {tb : TS} {ta : TA} {tl te : TE} {tt : TT} {vs : List Nat} {n m : Int} {a : Addr} {xs : List V}
theorem i_forR1 (h : ta σ H fun vs H1 => ∃ j : Int, vs = [.int j] ∧ -(2 ^ 62) ≤ j ∧ j < 2 ^ 62 ∧ ForW (Itr 0 j.toNat) g tb D σ H1) : tFor (iRng1 ta) g tb D σ H := h
instance s_forR1 : Stp (tFor (iRng1 ta) g tb D σ H) (ta σ H fun vs H1 => ∃ j : Int, vs = [.int j] ∧ -(2 ^ 62) ≤ j ∧ j < 2 ^ 62 ∧ ForW (Itr 0 j.toNat) g tb D σ H1) := ⟨i_forR1⟩
theorem i_forR2 (h : ta σ H fun vs H1 => ∃ i j : Int, vs = [.int i, .int j] ∧ (-(2 ^ 62) ≤ i ∧ i < 2 ^ 62 ∧ -(2 ^ 62) ≤ j ∧ j < 2 ^ 62) ∧ ForW (Itr i (j - i).toNat) g tb D σ H1) : tFor (iRng2 ta) g tb D σ H := h
instance s_forR2 : Stp (tFor (iRng2 ta) g tb D σ H) (ta σ H fun vs H1 => ∃ i j : Int, vs = [.int i, .int j] ∧ (-(2 ^ 62) ≤ i ∧ i < 2 ^ 62 ∧ -(2 ^ 62) ≤ j ∧ j < 2 ^ 62) ∧ ForW (Itr i (j - i).toNat) g tb D σ H1) := ⟨i_forR2⟩
theorem i_forL (h : tl σ H fun x H1 => ∃ a, x = .ref a ∧ (∃ xs, SqL K H1 a xs) ∧ ForW (Itl K a) g tb D σ H1) : tFor (iList K tl) g tb D σ H := h
instance s_forL : Stp (tFor (iList K tl) g tb D σ H) (tl σ H fun x H1 => ∃ a, x = .ref a ∧ (∃ xs, SqL K H1 a xs) ∧ ForW (Itl K a) g tb D σ H1) := ⟨i_forL⟩
theorem i_forT (h : tl σ H fun x H1 => ∃ a, x = .ref a ∧ (∃ xs, SqT K H1 a xs) ∧ ForW (Itt K a) g tb D σ H1) : tFor (iTup K tl) g tb D σ H := h
instance s_forT : Stp (tFor (iTup K tl) g tb D σ H) (tl σ H fun x H1 => ∃ a, x = .ref a ∧ (∃ xs, SqT K H1 a xs) ∧ ForW (Itt K a) g tb D σ H1) := ⟨i_forT⟩
theorem f_rng1 (h1 : -1000000000000 ≤ n) (h2 : n ≤ 1000000000000) (q : ForW (Itr 0 n.toNat) g tb D σ H) : ∃ j : Int, [V.int n] = [.int j] ∧ -(2 ^ 62) ≤ j ∧ j < 2 ^ 62 ∧ ForW (Itr 0 j.toNat) g tb D σ H := ⟨n, rfl, by omega, by omega, q⟩
theorem f_rng2 (h1 : -1000000000000 ≤ m) (h2 : m ≤ 1000000000000) (h3 : -1000000000000 ≤ n) (h4 : n ≤ 1000000000000) (q : ForW (Itr m (n - m).toNat) g tb D σ H) :
    ∃ i j : Int, [V.int m, V.int n] = [.int i, .int j] ∧ (-(2 ^ 62) ≤ i ∧ i < 2 ^ 62 ∧ -(2 ^ 62) ≤ j ∧ j < 2 ^ 62) ∧ ForW (Itr i (j - i).toNat) g tb D σ H := ⟨m, n, rfl, ⟨by omega, by omega, by omega, by omega⟩, q⟩
theorem f_lst (h : SqL K H a xs) (q : ForW (Itl K a) g tb D σ H) : ∃ b, V.ref a = .ref b ∧ (∃ xs, SqL K H b xs) ∧ ForW (Itl K b) g tb D σ H := ⟨a, rfl, ⟨xs, h⟩, q⟩
theorem f_tup (h : SqT K H a xs) (q : ForW (Itt K a) g tb D σ H) : ∃ b, V.ref a = .ref b ∧ (∃ xs, SqT K H b xs) ∧ ForW (Itt K b) g tb D σ H := ⟨a, rfl, ⟨xs, h⟩, q⟩
theorem i_lcR1 (h : ta σ H fun ws H1 => ∃ j : Int, ws = [.int j] ∧ -(2 ^ 62) ≤ j ∧ j < 2 ^ 62 ∧ LcW (Itr 0 j.toNat) g tt te vs σ H1 Q) : tLc (iRng1 ta) g tt te vs σ H Q := h
instance s_lcR1 : Stp (tLc (iRng1 ta) g tt te vs σ H Q) (ta σ H fun ws H1 => ∃ j : Int, ws = [.int j] ∧ -(2 ^ 62) ≤ j ∧ j < 2 ^ 62 ∧ LcW (Itr 0 j.toNat) g tt te vs σ H1 Q) := ⟨i_lcR1⟩
theorem i_lcL (h : tl σ H fun x H1 => ∃ a, x = .ref a ∧ (∃ xs, SqL K H1 a xs) ∧ LcW (Itl K a) g tt te vs σ H1 Q) : tLc (iList K tl) g tt te vs σ H Q := h
instance s_lcL : Stp (tLc (iList K tl) g tt te vs σ H Q) (tl σ H fun x H1 => ∃ a, x = .ref a ∧ (∃ xs, SqL K H1 a xs) ∧ LcW (Itl K a) g tt te vs σ H1 Q) := ⟨i_lcL⟩
theorem i_lcT (h : tl σ H fun x H1 => ∃ a, x = .ref a ∧ (∃ xs, SqT K H1 a xs) ∧ LcW (Itt K a) g tt te vs σ H1 Q) : tLc (iTup K tl) g tt te vs σ H Q := h
instance s_lcT : Stp (tLc (iTup K tl) g tt te vs σ H Q) (tl σ H fun x H1 => ∃ a, x = .ref a ∧ (∃ xs, SqT K H1 a xs) ∧ LcW (Itt K a) g tt te vs σ H1 Q) := ⟨i_lcT⟩
theorem c_rng1 (h1 : -1000000000000 ≤ n) (h2 : n ≤ 1000000000000) (q : LcW (Itr 0 n.toNat) g tt te vs σ H Q) : ∃ j : Int, [V.int n] = [.int j] ∧ -(2 ^ 62) ≤ j ∧ j < 2 ^ 62 ∧ LcW (Itr 0 j.toNat) g tt te vs σ H Q := ⟨n, rfl, by omega, by omega, q⟩
theorem c_lst (h : SqL K H a xs) (q : LcW (Itl K a) g tt te vs σ H Q) : ∃ b, V.ref a = .ref b ∧ (∃ xs, SqL K H b xs) ∧ LcW (Itl K b) g tt te vs σ H Q := ⟨a, rfl, ⟨xs, h⟩, q⟩
theorem c_tup (h : SqT K H a xs) (q : LcW (Itt K a) g tt te vs σ H Q) : ∃ b, V.ref a = .ref b ∧ (∃ xs, SqT K H b xs) ∧ LcW (Itt K b) g tt te vs σ H Q := ⟨a, rfl, ⟨xs, h⟩, q⟩
theorem i_tyes {QT : Bool → Hp → Prop} (h : QT true H) : tYes σ H QT := h
instance s_tyes {QT : Bool → Hp → Prop} : Stp (tYes σ H QT) (QT true H) := ⟨i_tyes⟩
theorem i_amongL {i : Int} (h : SqL K H a xs) (h0 : 0 ≤ i) (h1 : i < xs.length) (q : ∀ v, xs[i.toNat]? = some v → Q v H) : rIxL K (.ref a) (.int i) H Q := by
  have hx : xs[i.toNat]? = some (xs[i.toNat]'(by omega)) := List.getElem?_eq_getElem _
  exact ⟨a, xs, i, _, rfl, rfl, h, at_of (j := i.toNat) (by omega) hx, q _ hx⟩
end
theorem l_while {tt : TT} {tb : TS} {nx bk ct : St → Hp → Prop} {rt : VK} {σ : St} {H : Hp} {m : Nat} (W : Nat → St → Hp → Prop) (h0 : W m σ H)
    (hs : ∀ m σ' H', W m σ' H' → tt σ' H' fun b H1 => if b = true then ∃ N : St → Hp → Prop, (∀ σ2 H2, N σ2 H2 → ∃ m', m' < m ∧ W m' σ2 H2) ∧ tb ⟨N, rt, nx, N⟩ σ' H1 else nx σ' H1) : tWhile tt tb ⟨nx, rt, bk, ct⟩ σ H := ⟨W, ⟨m, h0⟩, hs⟩
/-- into the body of a while -/
theorem i_turn {W : Nat → St → Hp → Prop} {tb : TS} {nx : St → Hp → Prop} {rt : VK} {σ : St} {H : Hp} {m : Nat} (h : tb ⟨fun σ2 H2 => ∃ m', m' < m ∧ W m' σ2 H2, rt, nx, fun σ2 H2 => ∃ m', m' < m ∧ W m' σ2 H2⟩ σ H) : ∃ N : St → Hp → Prop, (∀ σ2 H2, N σ2 H2 → ∃ m', m' < m ∧ W m' σ2 H2) ∧ tb ⟨N, rt, nx, N⟩ σ H := ⟨_, fun _ _ h => h, h⟩
instance s_bm {K : PySem.W.Frag} {σ : St} {H : Hp} {Q : VK} {T : String} {r : V → List V → Hp → VK → Prop} {to : TE} {t : TA} : Stp (tBM K T r to t σ H Q) (to σ H fun x H1 => tyV K T x H1 ∧ t σ H1 fun xs H2 => r x xs H2 Q) := ⟨fun h => h⟩
theorem i_app {K : PySem.W.Frag} {σ : St} {H : Hp} {Q : VK} {r : V → List V → Hp → VK → Prop} {t : TA} {l : Addr} {ys : List V} (hl : H l = some (.lst ys)) (h : t σ H fun vs H2 => r (.ref l) vs H2 Q) : tyV K "list" (.ref l) H ∧ t σ H fun vs H2 => r (.ref l) vs H2 Q := ⟨.inl ⟨rfl, ys, sqL hl⟩, h⟩
theorem i_put {H : Hp} {Q : VK} {l : Addr} {xs : List V} {y : V} (h : H l = some (.lst xs)) (hz : xs.length < 100000) (q : Q .non (upd H l (.lst (xs ++ [y])))) : rAppend (.ref l) [y] H Q := ⟨l, xs, y, rfl, rfl, h, szl hz, q⟩
/-- the rest of a block once for all ways through its first statement -/
theorem i_cut {ts tw : TS} {nx bk ct : St → Hp → Prop} {rt : VK} {σ : St} {H : Hp} (R : St → Hp → Prop) (hR : ∀ σ' H', R σ' H' → tw ⟨nx, rt, bk, ct⟩ σ' H') (h : ∀ nx : St → Hp → Prop, (∀ σ' H', R σ' H' → nx σ' H') → ts ⟨nx, rt, bk, ct⟩ σ H) : tSeq ts tw ⟨nx, rt, bk, ct⟩ σ H := h _ hR
section
variable {K : PySem.W.Frag} {σ : St} {H : Hp} {g : TG} {tb : TS} {n : Nat} {lo : Int} {a : Addr} {xs : List V} {nx bk ct : St → Hp → Prop} {rt : VK}
theorem l_rng (Pv : Nat → St → Hp → Prop) (h0 : Pv 0 σ H) (hs : ∀ i σ' H', i < n → Pv i σ' H' → g (.int (lo + i)) σ' H' fun σ2 H2 => tb ⟨Pv (i + 1), rt, nx, Pv (i + 1)⟩ σ2 H2) (hd : ∀ σ' H', Pv n σ' H' → nx σ' H') : ForW (Itr lo n) g tb ⟨nx, rt, bk, ct⟩ σ H :=
  for_range (D := ⟨nx, rt, bk, ct⟩) Pv h0 hs hd
theorem l_lst (Pv : Nat → St → Hp → Prop) (h0 : Pv 0 σ H) (hl : ∀ i σ' H', i ≤ xs.length → Pv i σ' H' → SqL K H' a xs) (hs : ∀ i x σ' H', xs[i]? = some x → Pv i σ' H' → g x σ' H' fun σ2 H2 => tb ⟨Pv (i + 1), rt, nx, Pv (i + 1)⟩ σ2 H2) (hd : ∀ σ' H', Pv xs.length σ' H' → nx σ' H') : ForW (Itl K a) g tb ⟨nx, rt, bk, ct⟩ σ H :=
  for_list (D := ⟨nx, rt, bk, ct⟩) Pv h0 hl hs hd
theorem l_tup (Pv : Nat → St → Hp → Prop) (h0 : Pv 0 σ H) (hl : ∀ i σ' H', i ≤ xs.length → Pv i σ' H' → SqT K H' a xs) (hs : ∀ i x σ' H', xs[i]? = some x → Pv i σ' H' → g x σ' H' fun σ2 H2 => tb ⟨Pv (i + 1), rt, nx, Pv (i + 1)⟩ σ2 H2) (hd : ∀ σ' H', Pv xs.length σ' H' → nx σ' H') : ForW (Itt K a) g tb ⟨nx, rt, bk, ct⟩ σ H :=
  for_tup (D := ⟨nx, rt, bk, ct⟩) Pv h0 hl hs hd
end
section
variable {K : PySem.W.Frag} {σ : St} {H : Hp} {g : TG} {tt : TT} {te : TE} {vs : List Nat} {n : Nat} {lo : Int} {a : Addr} {xs : List V} {Q : VK}
theorem m_rng (Pv : Addr → Nat → Hp → Prop) (h0 : ∀ D, H D = none → Pv D 0 (upd H D (.lst [])))
    (hs : ∀ D i H', i < n → Pv D i H' → g (.int (lo + i)) (wipe σ vs) H' fun σ2 H2 => wipe σ2 vs = wipe σ vs ∧ tt σ2 H2 fun b H3 => if b = true then te σ2 H3 fun y H4 => ∃ acc, H4 D = some (.lst acc) ∧ acc.length < sizeLine ∧ Pv D (i + 1) (upd H4 D (.lst (acc ++ [y]))) else Pv D (i + 1) H3)
    (hd : ∀ D H', Pv D n H' → Q (.ref D) H') : LcW (Itr lo n) g tt te vs σ H Q := fun D hD => lc_range (Pv D) (h0 D hD) (hs D) (hd D)
theorem m_lst (Pv : Addr → Nat → Hp → Prop) (h0 : ∀ D, H D = none → Pv D 0 (upd H D (.lst []))) (hl : ∀ D i H', i ≤ xs.length → Pv D i H' → SqL K H' a xs)
    (hs : ∀ D i x H', xs[i]? = some x → Pv D i H' → g x (wipe σ vs) H' fun σ2 H2 => wipe σ2 vs = wipe σ vs ∧ tt σ2 H2 fun b H3 => if b = true then te σ2 H3 fun y H4 => ∃ acc, H4 D = some (.lst acc) ∧ acc.length < sizeLine ∧ Pv D (i + 1) (upd H4 D (.lst (acc ++ [y]))) else Pv D (i + 1) H3)
    (hd : ∀ D H', Pv D xs.length H' → Q (.ref D) H') : LcW (Itl K a) g tt te vs σ H Q := fun D hD => lc_list (Pv D) (h0 D hD) (hl D) (hs D) (hd D)
theorem m_tup (Pv : Addr → Nat → Hp → Prop) (h0 : ∀ D, H D = none → Pv D 0 (upd H D (.lst []))) (hl : ∀ D i H', i ≤ xs.length → Pv D i H' → SqT K H' a xs)
    (hs : ∀ D i x H', xs[i]? = some x → Pv D i H' → g x (wipe σ vs) H' fun σ2 H2 => wipe σ2 vs = wipe σ vs ∧ tt σ2 H2 fun b H3 => if b = true then te σ2 H3 fun y H4 => ∃ acc, H4 D = some (.lst acc) ∧ acc.length < sizeLine ∧ Pv D (i + 1) (upd H4 D (.lst (acc ++ [y]))) else Pv D (i + 1) H3)
    (hd : ∀ D H', Pv D xs.length H' → Q (.ref D) H') : LcW (Itt K a) g tt te vs σ H Q := fun D hD => lc_tup (Pv D) (h0 D hD) (hl D) (hs D) (hd D)
theorem m_kept {D : Addr} {y : V} {R : Hp → Prop} {acc : List V} (h : H D = some (.lst acc)) (hz : acc.length < 100000) (q : R (upd H D (.lst (acc ++ [y])))) : ∃ acc, H D = some (.lst acc) ∧ acc.length < sizeLine ∧ R (upd H D (.lst (acc ++ [y]))) := ⟨acc, h, szl hz, q⟩
end
theorem getI {ns : List Int} {i : Nat} {y : V} (hi : (ns.map V.int)[i]? = some y) : ∃ z, ns[i]? = some z ∧ y = V.int z := by
  rw [List.getElem?_map, Option.map_eq_some_iff] at hi
  exact hi.elim fun z h => ⟨z, h.1, h.2.symm⟩
theorem take_more {α : Type} {l : List α} {i : Nat} {x : α} (h : l[i]? = some x) : l.take (i + 1) = l.take i ++ [x] := by rw [List.take_add_one, h]; rfl
mutual
def Dt.dep : Dt → Nat
  | .lst l => Dt.depL l + 1
  | .tup l => Dt.depL l + 1
  | .dic l => Dt.depK l + 1
  | _ => 0
def Dt.depL : List Dt → Nat
  | [] => 0
  | d :: r => max d.dep (Dt.depL r)
def Dt.depK : List (Str × Dt) → Nat
  | [] => 0
  | (_, d) :: r => max d.dep (Dt.depK r)
end
mutual
def Dt.okd : Dt → Bool
  | .lst l => decide (l.length ≤ 10000) && Dt.okL l
  | .tup l => decide (l.length ≤ 10000) && Dt.okL l
  | .dic l => (decide (l.length ≤ 1000) && decide ((l.map (·.1)).Nodup)) && Dt.okK l
  | _ => true
def Dt.okL : List Dt → Bool
  | [] => true
  | d :: r => d.okd && Dt.okL r
def Dt.okK : List (Str × Dt) → Bool
  | [] => true
  | (_, d) :: r => d.okd && Dt.okK r
end
def Dt.isI : Dt → Bool
  | .int _ => true
  | _ => false
/-- an int from lo to hi -/
def Dt.inR (lo hi : Int) : Dt → Prop
  | .int i => lo ≤ i ∧ i ≤ hi
  | _ => False
/-- a power of two up to m -/
def Dt.isAl (m : Int) : Dt → Prop
  | .int i => (∃ k : Nat, i = 2 ^ k) ∧ i ≤ m
  | _ => False
theorem Dt.inR_of {d : Dt} (h : d.isI = false) (lo hi : Int) : ¬ d.inR lo hi := by
  cases d <;> first | exact fun z => z | cases h
theorem Dt.isAl_of {d : Dt} (h : d.isI = false) (m : Int) : ¬ d.isAl m := by
  cases d <;> first | exact fun z => z | cases h
theorem i_disp1 {σ : St} {H : Hp} {Q : VK} {k : Str} {v : V} (h : ∀ p, H p = none → Q (.ref p) (upd H p (.dK [(Sum.inr k, v)]))) : tDisp [(tC (.str k), tC v)] σ H Q := fun p hp => ⟨upd_same, [(.inr k, v)], rfl, by simp, by rw [upd_upd]; exact h p hp⟩
/-! ### a def as it stands behind the top -/
structure DfG (K : PySem.W.Frag) (mg : Str → Option Value) (x : Str) (st : Stmt) (ps : List Str) (f : Addr) (fd : FuncData) : Prop where
  fn : Fun K x x st f fd
  gl : mg x = some (.ref f)
  bd : Binds K fd ps []
structure DfM (K : PySem.W.Frag) (x qual : Str) (st : Stmt) (ps : List Str) (f : Addr) (fd : FuncData) : Prop where
  fn : Fun K x qual st f fd
  bd : Binds K fd ps []
theorem fn_false {P : Program} {w : World} {K : PySem.W.Frag} {mg : Str → Option Value} {base : Heap} {CX : CXT} {k : Nat} {f : Addr} {fd : FuncData} {ps : List Str} : FnOk P w K mg base CX k f fd ps (fun _ _ _ _ => False) := ⟨fun _ _ _ _ h => h.elim, fun _ _ _ _ _ _ _ _ _ _ _ _ _ h => h.elim⟩
theorem FnU.mono {P : Program} {w : World} {K : PySem.W.Frag} {mg : Str → Option Value} {base : Heap} {j k : Nat} {f : Addr} {fd : FuncData} {ps : List Str} {sp : Sp} (F : FnU P w K mg base j f fd ps sp) (h : j ≤ k) : FnU P w K mg base k f fd ps sp := ⟨F.len, fun A outer s H args us vs Q E hr => F.run A outer s H args us vs Q E (hr.mono h)⟩
/-- the part of H' that is new since H -/
def nw (H H' : Hp) : Hp := fun b => match H b with
  | none => H' b
  | some _ => none
theorem nw_to {H H' : Hp} {b : Addr} {o : HO} (h : H b = none) (e : H' b = some o) : nw H H' b = some o := by
  unfold nw
  rw [h]
  exact e
theorem nw_of {H H' : Hp} {b : Addr} {o : HO} (h : nw H H' b = some o) : H b = none ∧ H' b = some o := by
  unfold nw at h
  cases e : H b with
  | none =>
    rw [e] at h
    exact ⟨rfl, h⟩
  | some u =>
    rw [e] at h
    cases h
theorem nw_old {H H1 H2 : Hp} (k : ∀ b o, H b = some o → ∃ u, H1 b = some u) : Same (nw H1 H2) (nw H H2) := fun b o e => by
  obtain ⟨e1, e2⟩ := nw_of e
  refine nw_to ?_ e2
  cases q : H b with
  | none => rfl
  | some u =>
    obtain ⟨u', q'⟩ := k b u q
    rw [q'] at e1
    cases e1
theorem nw_hid {d s : Addr} {H H' : Hp} (h : Dr d s H) : Same (nw H H') (hid s H') := fun b o e => by
  obtain ⟨e1, e2⟩ := nw_of e
  exact hid_to e2 (h.ne e1)
theorem nw_same {H H' : Hp} : Same (nw H H') H' := fun _ _ e => (nw_of e).2
theorem alive {d s : Addr} {H H1 : Hp} (h : Dr d s H1) (k : Same (hid s H) (hid s H1)) : ∀ b o, H b = some o → ∃ u, H1 b = some u := fun b o e => by
  by_cases hb : b = s
  · subst hb
    exact h.s
  · exact ⟨o, hid_same _ _ (k _ _ (hid_to e hb))⟩
/-- what is new since H stays new and stays as it is -/
theorem nw_grow {d s : Addr} {H H1 H2 : Hp} (h : Dr d s H) (k : Same (hid s H1) (hid s H2)) : Same (nw H H1) (nw H H2) := fun b o e => by
  obtain ⟨e1, e2⟩ := nw_of e
  exact nw_to e1 (hid_same _ _ (k _ _ (hid_to e2 (h.ne e1))))
/-- what the end asks of the law -/
def sp_end (K : PySem.W.Frag) : Sp := fun vs H Q _ => ∃ (a : Addr) (ns : List Int), vs = [.ref a] ∧ SqL K H a (ns.map V.int) ∧ ns.length ≤ 63 ∧ ∀ H', Q (.bl true) H'
/-- isinstance of a value of a built-in class -/
class KB (a c : String) (b : outParam Bool) : Prop where
  e : kitB a c = some b
instance kb_NoneType_int : KB "NoneType" "int" false := ⟨by decide +kernel⟩
instance kb_NoneType_bool : KB "NoneType" "bool" false := ⟨by decide +kernel⟩
instance kb_NoneType_str : KB "NoneType" "str" false := ⟨by decide +kernel⟩
instance kb_NoneType_list : KB "NoneType" "list" false := ⟨by decide +kernel⟩
instance kb_NoneType_tuple : KB "NoneType" "tuple" false := ⟨by decide +kernel⟩
instance kb_NoneType_dict : KB "NoneType" "dict" false := ⟨by decide +kernel⟩
instance kb_bool_int : KB "bool" "int" true := ⟨by decide +kernel⟩
instance kb_bool_bool : KB "bool" "bool" true := ⟨by decide +kernel⟩
instance kb_bool_str : KB "bool" "str" false := ⟨by decide +kernel⟩
instance kb_bool_list : KB "bool" "list" false := ⟨by decide +kernel⟩
instance kb_bool_tuple : KB "bool" "tuple" false := ⟨by decide +kernel⟩
instance kb_bool_dict : KB "bool" "dict" false := ⟨by decide +kernel⟩
instance kb_int_int : KB "int" "int" true := ⟨by decide +kernel⟩
instance kb_int_bool : KB "int" "bool" false := ⟨by decide +kernel⟩
instance kb_int_str : KB "int" "str" false := ⟨by decide +kernel⟩
instance kb_int_list : KB "int" "list" false := ⟨by decide +kernel⟩
instance kb_int_tuple : KB "int" "tuple" false := ⟨by decide +kernel⟩
instance kb_int_dict : KB "int" "dict" false := ⟨by decide +kernel⟩
instance kb_str_int : KB "str" "int" false := ⟨by decide +kernel⟩
instance kb_str_bool : KB "str" "bool" false := ⟨by decide +kernel⟩
instance kb_str_str : KB "str" "str" true := ⟨by decide +kernel⟩
instance kb_str_list : KB "str" "list" false := ⟨by decide +kernel⟩
instance kb_str_tuple : KB "str" "tuple" false := ⟨by decide +kernel⟩
instance kb_str_dict : KB "str" "dict" false := ⟨by decide +kernel⟩
instance kb_list_int : KB "list" "int" false := ⟨by decide +kernel⟩
instance kb_list_bool : KB "list" "bool" false := ⟨by decide +kernel⟩
instance kb_list_str : KB "list" "str" false := ⟨by decide +kernel⟩
instance kb_list_list : KB "list" "list" true := ⟨by decide +kernel⟩
instance kb_list_tuple : KB "list" "tuple" false := ⟨by decide +kernel⟩
instance kb_list_dict : KB "list" "dict" false := ⟨by decide +kernel⟩
instance kb_tuple_int : KB "tuple" "int" false := ⟨by decide +kernel⟩
instance kb_tuple_bool : KB "tuple" "bool" false := ⟨by decide +kernel⟩
instance kb_tuple_str : KB "tuple" "str" false := ⟨by decide +kernel⟩
instance kb_tuple_list : KB "tuple" "list" false := ⟨by decide +kernel⟩
instance kb_tuple_tuple : KB "tuple" "tuple" true := ⟨by decide +kernel⟩
instance kb_tuple_dict : KB "tuple" "dict" false := ⟨by decide +kernel⟩
instance kb_dict_int : KB "dict" "int" false := ⟨by decide +kernel⟩
instance kb_dict_bool : KB "dict" "bool" false := ⟨by decide +kernel⟩
instance kb_dict_str : KB "dict" "str" false := ⟨by decide +kernel⟩
instance kb_dict_list : KB "dict" "list" false := ⟨by decide +kernel⟩
instance kb_dict_tuple : KB "dict" "tuple" false := ⟨by decide +kernel⟩
instance kb_dict_dict : KB "dict" "dict" true := ⟨by decide +kernel⟩
theorem i_isiT {K : PySem.W.Frag} {H : Hp} {Q : VK} {v : V} {n c : String} {b : Bool} [k : KB n c b] (h : Ty0 H v n) (q : Q (.bl b) H) : rIsi K [v, .ty c] H Q := i_isi h k.e q
section
variable {A B : Prop}
instance s_nonI {i : Int} {inst : Decidable (V.int i = .non)} : Stp (if @decide (V.int i = .non) inst = true then A else B) B := ⟨i_no (by simp)⟩
instance s_nonB {i : Bool} {inst : Decidable (V.bl i = .non)} : Stp (if @decide (V.bl i = .non) inst = true then A else B) B := ⟨i_no (by simp)⟩
instance s_nonS {i : Str} {inst : Decidable (V.str i = .non)} : Stp (if @decide (V.str i = .non) inst = true then A else B) B := ⟨i_no (by simp)⟩
instance s_nonR {i : Addr} {inst : Decidable (V.ref i = .non)} : Stp (if @decide (V.ref i = .non) inst = true then A else B) B := ⟨i_no (by simp)⟩
instance s_nonN {inst : Decidable (V.non = .non)} : Stp (if @decide (V.non = .non) inst = true then A else B) A := ⟨i_yes rfl⟩
instance s_bneTT : Stp (if (true != true) = true then A else B) B := ⟨fun h => h⟩
instance s_bneFF : Stp (if (false != false) = true then A else B) B := ⟨fun h => h⟩
instance s_bneTF : Stp (if (true != false) = true then A else B) A := ⟨fun h => h⟩
instance s_bneFT : Stp (if (false != true) = true then A else B) A := ⟨fun h => h⟩
end
/-! ### for the steps: a heap fact kept on -/
theorem sget {H H' : Hp} {p : Addr} {o : HO} (k : Same H H') (e : H p = some o) : H' p = some o := k _ _ e
theorem hget {s : Addr} {H H' : Hp} {p : Addr} {o : HO} (k : Same (hid s H) (hid s H')) (n : p ≠ s) (e : H p = some o) : H' p = some o := (hid_of (k _ _ (hid_to e n))).1
theorem ne_dr {d s q : Addr} {H : Hp} (hq : H q = none) (h : Dr d s H) : q ≠ s := h.ne hq
theorem i_isiG {K : PySem.W.Frag} {H : Hp} {Q : VK} {v : V} {c : String} (h : ∃ n b, Ty0 H v n ∧ kitB n c = some b ∧ Q (.bl b) H) : rIsi K [v, .ty c] H Q := h.elim fun _ h => h.elim fun _ h => i_isi h.1 h.2.1 h.2.2
theorem i_isiE {H : Hp} {Q : VK} {v : V} {n c : String} {b : Bool} [k : KB n c b] (h : Ty0 H v n) (q : Q (.bl b) H) : ∃ n b, Ty0 H v n ∧ kitB n c = some b ∧ Q (.bl b) H := ⟨n, b, h, k.e, q⟩
/-! what a goal is, ahead of a step with side goals -/
section
variable {K : PySem.W.Frag} {σ : St} {H : Hp} {Q : VK} {D : Ends} {v x y : V} {te : TE} {tw : TS} {n : Nat} {p : Addr} {i j : Int}
theorem q_var (h : tVar n σ H Q) : tVar n σ H Q := h
theorem q_ixL (h : rIxL K x y H Q) : rIxL K x y H Q := h
theorem q_ixT (h : rIxT K x y H Q) : rIxT K x y H Q := h
theorem q_setL {R : Hp → Prop} (h : rSetL x y v H R) : rSetL x y v H R := h
theorem q_mul (h : oMul x y H Q) : oMul x y H Q := h
theorem q_div (h : oDiv x y H Q) : oDiv x y H Q := h
theorem q_mod (h : oMod x y H Q) : oMod x y H Q := h
theorem q_pow (h : oPow x y H Q) : oPow x y H Q := h
theorem q_shl (h : oShl x y H Q) : oShl x y H Q := h
theorem q_len {vs : List V} (h : rLen K vs H Q) : rLen K vs H Q := h
theorem q_isi {vs : List V} (h : rIsi K vs H Q) : rIsi K vs H Q := h
theorem q_app {c : String} {P : Prop} (h : tyV K c x H ∧ P) : tyV K c x H ∧ P := h
theorem q_seqG {ti : TIp} (h : tSeq (tAug n te ti) tw D σ H) : tSeq (tAug n te ti) tw D σ H := h
theorem q_aug {ti : TIp} (h : tAug n te ti D σ H) : tAug n te ti D σ H := h
theorem q_gtup {t : TGs} {R : St → Hp → Prop} (h : gTup K n t x σ H R) : gTup K n t x σ H R := h
theorem q_sz {A : Nat} {P : Prop} (h : A ≤ sizeLine ∧ P) : A ≤ sizeLine ∧ P := h
end
theorem free2 {H H' : Hp} {p : Addr} (e : H' p = none) (k : Same H H') : H p = none := by
  cases q : H p with
  | none => rfl
  | some o =>
    rw [k p o q] at e
    cases e
theorem dead2 {d s p : Addr} {H H' : Hp} (e : H' p = none) (h : Dr d s H') (k : Same (hid s H) (hid s H')) : H p = none := by
  cases q : H p with
  | none => rfl
  | some o =>
    obtain ⟨u, hu⟩ := alive h k p o q
    rw [hu] at e
    cases e
theorem nw_wide {d s : Addr} {H H1 H2 H3 : Hp} (h : Dr d s H1) (k1 : Same (hid s H) (hid s H1)) (k2 : Same (hid s H2) (hid s H3)) : Same (nw H1 H2) (nw H H3) := fun b o e => by
  obtain ⟨e1, e2⟩ := nw_of e
  exact nw_to (dead2 e1 h k1) (hget k2 (h.ne e1) e2)
theorem nw_wide0 {H H1 H2 H3 : Hp} (k1 : Same H H1) (k2 : Same H2 H3) : Same (nw H1 H2) (nw H H3) := fun b o e => by
  obtain ⟨e1, e2⟩ := nw_of e
  exact nw_to (free2 e1 k1) (k2 _ _ e2)
theorem nw_hidw {d s : Addr} {H1 H2 H3 : Hp} (h : Dr d s H1) (k2 : Same (hid s H2) (hid s H3)) : Same (nw H1 H2) (hid s H3) := fun b o e => by
  obtain ⟨e1, e2⟩ := nw_of e
  exact k2 _ _ (hid_to e2 (h.ne e1))
theorem nw_to2 {H H' : Hp} {b : Addr} {o : HO} (e : H' b = some o) (h : H b = none) : nw H H' b = some o := nw_to h e
/-- {k: v} of a name -/
theorem i_disp1V {σ : St} {H : Hp} {Q : VK} {k : Str} {n : Nat} {v : V} (hx : σ[n]? = some (some v)) (h : ∀ p, H p = none → Q (.ref p) (upd H p (.dK [(Sum.inr k, v)]))) : tDisp [(tC (.str k), tVar n)] σ H Q := fun p hp => ⟨v, hx, upd_same, [(.inr k, v)], rfl, by simp, by rw [upd_upd]; exact h p hp⟩
theorem hid2_upd {r s : Addr} {H : Hp} {o : HO} (n : r ≠ s) : hid r (hid s (upd H r o)) = hid r (hid s H) := by
  funext b
  unfold hid
  by_cases h : b = r
  · rw [if_pos h, if_pos h]
  · rw [if_neg h, if_neg h, upd_ne h]
/-- an object that is new since G may change: the draws stand -/
theorem Dr.upd {d s r : Addr} {G H : Hp} {o : HO} (hG : Dr d s G) (hr : G r = none) (sm : Same (hid s G) (hid s H)) (hD : Dr d s H) : Dr d s (L2.upd H r o) := by
  obtain ⟨c0, cs0, p0, b0, q0, t0, e0, g1, g2, g3, g4, g5, g6⟩ := hG
  obtain ⟨c, cs, p, b, q, t, e, h1, h2, h3, h4, h5, h6⟩ := hD
  have k1 := (hid_of (sm _ _ (hid_to g1 g4))).1
  rw [h1] at k1
  have ec : c = c0 := by
    have z := Option.some.inj k1
    injection z with z
    injection z with z1 z2
    injection z1
  subst ec
  exact ⟨c, cs, p, b, q, t, e, upd_off (ne_of_none g1 hr) h1, upd_off (ne_of_none g2 hr) h2, upd_off (ne_of_none g3 hr) h3, h4, h5, h6⟩
theorem nw_hid2 {d s r : Addr} {H H' : Hp} {o : HO} (h : Dr d s H) (hr : H r = some o) : Same (nw H H') (hid r (hid s H')) := fun b u e => by
  obtain ⟨e1, e2⟩ := nw_of e
  refine hid_to (hid_to e2 (h.ne e1)) fun z => ?_
  rw [z, hr] at e1
  cases e1
theorem same_step {H1 H4 : Hp} {D : Addr} {o : HO} (hn : H1 D = none) (k : Same H1 H4) : Same H1 (upd H4 D o) := fun b u e => upd_off (ne_of_none e hn) (k _ _ e)
theorem hid_step {s D : Addr} {H1 H4 : Hp} {o : HO} (hn : H1 D = none) (k : Same (hid s H1) (hid s H4)) : Same (hid s H1) (hid s (upd H4 D o)) := fun b u e => by
  obtain ⟨e1, e2⟩ := hid_of e
  obtain ⟨e3, _⟩ := hid_of (k _ _ e)
  exact hid_to (upd_off (ne_of_none e1 hn) e3) e2
/-! ## Made -/
/-! ### an exception that is made and kept as a value -/
def tMkX (t : St → Hp → XK → Prop) : TE := fun σ H Q => t σ H fun cls d H' => ∀ a, H' a = none → Q (.ref a) (upd H' a (exi a cls d))
theorem pe_mkx {X : Cx} {e : Expr} {t : St → Hp → XK → Prop} (he : PMk X e t) : PE X e (tMkX t) := by
  constructor
  intro pins s σ H Q I h
  refine thn (he pins s σ H _ I h) fun u s1 hu => ?_
  obtain ⟨a, oe, vs, sI, H', cls, d, rfl, J, k, hne, ha, hz, hd, h1, na, os, ag, r, q⟩ := hu
  have I2 := J.laidN (t' := s1.toks) (o := exi a cls d) k hne na (exi_ok ha hz hd)
  exact ⟨.ref a, upd H' a (exi a cls d), ⟨I2.ok, os.trans J.os, ag, I2.base, I2.loc, I2.cell, I2.free, I2.freeC, I2.pin, I2.hok, I2.len⟩, rfl, q a na⟩
theorem FnU.ok {P : Program} {w : World} {K : PySem.W.Frag} {mg : Str → Option Value} {base : Heap} {k : Nat} {f : Addr} {fd : FuncData} {ps : List Str} {sp : Sp} (F : FnU P w K mg base k f fd ps sp) : FnOk P w K mg base CX0 k f fd ps sp :=
  ⟨F.len, fun A outer s H args us vs Q E hr => F.run A outer s H args us vs Q E ⟨hr.dp, hr.un⟩⟩
instance s_mkx {t : St → Hp → XK → Prop} {σ : St} {H : Hp} {Q : VK} : Stp (tMkX t σ H Q) (t σ H fun cls d H' => ∀ a, H' a = none → Q (.ref a) (upd H' a (exi a cls d))) := ⟨fun h => h⟩
instance s_bits {to : TE} {σ : St} {H : Hp} {Q : VK} : Stp (tBits to σ H Q) (to σ H fun x H1 => ∃ i, x = .int i ∧ Q (.int (Builtin.Int.intBits i : Nat)) H1) := ⟨fun h => h⟩
/-- what a class of refusals has: how it is made, and no field of its own -/
structure ErC (K : PySem.W.Frag) (C : Addr) (fs : List Str) : Prop where
  ox : OexC K C
  nf : ∀ f ∈ fs, PySem.W.findIn K (.ref C) f = some none
/-! ## Draws -/
local macro_rules | `(tactic| mem_news) => `(tactic| first
  | assumption | exact Same.refl _
  | (with_reducible refine Same.trans ?_ (same_new (by assumption)); mem_news)
  | (with_reducible refine Same.trans ?_ (by assumption); mem_news)
  | (with_reducible refine Same.trans ?_ (hid_mono (same_new (by assumption))); mem_news)
  | (with_reducible refine Same.trans ?_ (hid_mono (by assumption)); mem_news)
  | (with_reducible refine same_step (by nest_room) ?_; mem_news)
  | (with_reducible refine hid_step (by nest_room) ?_; mem_news)
  | (with_reducible refine nw_wide0 ?_ ?_ <;> mem_news)
  | (with_reducible refine nw_wide (by assumption) ?_ ?_ <;> mem_news)
  | (with_reducible refine nw_hidw (by leaf_len) ?_; mem_news)
  | (with_reducible refine Same.trans nw_same ?_; mem_news)
  | (with_reducible refine Same.trans hid_same ?_; mem_news))
local macro_rules | `(tactic| leaf_len) => `(tactic| first | assumption | (refine Dr.same (by assumption) ?_; mem_news))
local macro_rules | `(tactic| nest_fact) => `(tactic| first | assumption | (refine Ne.symm ?_; assumption) | exact ne_dr (by assumption) (by leaf_len))
local macro_rules | `(tactic| nest_room) => `(tactic| first | assumption | (refine free2 (by assumption) ?_; mem_news) | (refine dead2 (by assumption) (by leaf_len) ?_; mem_news))
local macro_rules | `(tactic| kct_strs) => `(tactic| first
  | assumption | exact upd_same | (refine upd_off (by assumption) ?_; kct_strs) | (refine upd_keep (by assumption) ?_; kct_strs) | (refine sget (by assumption) ?_; kct_strs) | (refine hget (by assumption) (by nest_fact) ?_; kct_strs)
  | (refine nw_to (by nest_room) ?_; kct_strs) | (refine hid_to ?_ (by nest_fact); kct_strs))
local macro_rules | `(tactic| one_item) => `(tactic| first
  | assumption | exact At.non | exact At.bl _ | exact At.int _ | exact At.str _ | exact Ats.nil
  | (refine At.mono ?_ (by assumption); mem_news) | (refine Ats.mono ?_ (by assumption); mem_news)
  | (refine At.tup (by kct_strs) ?_; one_item) | (refine At.lst (by kct_strs) ?_; one_item)
  | (refine Ats.cons ?_ ?_ <;> one_item))
local macro_rules | `(tactic| kbj_are) => `(tactic| first
  | with_reducible refine Stp.go ?_
  | (with_reducible refine q_var ?_; with_reducible refine i_var (by with_unfolding_all rfl) ?_)
  | with_reducible refine i_blV ?_
  | (with_reducible refine q_isi ?_; with_reducible refine i_isiT (by assumption) ?_)
  | (with_reducible refine q_ixL ?_; with_reducible refine i_ixL (sqL (by kct_strs)) (by with_unfolding_all rfl) ?_)
  | (with_reducible refine q_ixT ?_; with_reducible refine i_ixT (sqT (by kct_strs)) (by with_unfolding_all rfl) ?_)
  | (with_reducible refine q_setL ?_; with_reducible refine i_setL (by kct_strs) (by with_unfolding_all rfl) ?_)
  | (with_reducible refine q_mul ?_; with_reducible refine i_mul (by first | exact cmul_r (by omega) (by omega) | exact cmul_l (by omega) (by omega)) ?_)
  | (with_reducible refine q_div ?_; with_reducible refine i_div (by exact cdiv (by omega) (by omega)) ?_)
  | (with_reducible refine q_mod ?_; with_reducible refine i_mod (by omega) ?_)
  | (with_reducible refine q_len ?_; first | with_reducible refine i_lenL (sqL (by kct_strs)) ?_ | with_reducible refine i_lenT (sqT (by kct_strs)) ?_)
  | (with_reducible refine q_app ?_; with_reducible refine i_app (by kct_strs) ?_)
  | (with_reducible refine q_pow ?_; with_reducible refine i_pow (by first | exact cpow10 (by omega) (by omega) | exact cpow2 (by omega) (by omega)) ?_)
  | (with_reducible refine q_shl ?_; with_reducible refine i_shl (by first | exact cpow1 (by omega) (by omega) | exact cpow2 (by omega) (by omega)) ?_)
  | (with_reducible refine q_seqG ?_; with_reducible refine i_seqG (by with_unfolding_all rfl) ?_)
  | (with_reducible refine q_aug ?_; with_reducible refine i_aug (by with_unfolding_all rfl) ?_)
  | (with_reducible refine q_gtup ?_; with_reducible refine i_gtup (sqT (by kct_strs)) (by with_unfolding_all rfl) ?_)
  | with_reducible refine i_disp1 (fun p hp => ?_)
  | (with_reducible refine q_sz ?_; with_reducible refine ⟨sz (by simp), fun p hp => ?_⟩))
local macro_rules | `(tactic| fold_lay) => `(tactic| repeat kbj_are)
local macro_rules | `(tactic| fold_depth) => `(tactic| (with_reducible refine i_seq ?_; fold_lay))
local macro_rules | `(tactic| kbj_rows) => `(tactic| repeat (first | kbj_are | with_reducible refine i_seq ?_))
/-! ### the promises of the draws -/
def sp_next_cell : Sp := fun vs H Q _ => ∃ (d s : Addr), vs = [.ref d] ∧ Dr d s H ∧ ∀ H', Dr d s H' → Same (hid s H) (hid s H') → Q .non H'
def sp_mixed : Sp := fun vs H Q _ => ∃ (e t m : Int), vs = [.int e, .int t, .int m] ∧ 0 < m ∧ ∀ v, 0 ≤ v → v < m → Q (.int v) H
/-- below 2 the draw is 0 -/
def sp_take : Sp := fun vs H Q _ => ∃ (d s : Addr) (m : Int), vs = [.ref d, .int m] ∧ Dr d s H ∧ m ≤ 10000000000000000000000000000000000000000000000000000000000000000000000 ∧
  ∀ v H', 0 ≤ v → (v < m ∨ v = 0) → Dr d s H' → Same (hid s H) (hid s H') → Q (.int v) H'
def N_l_next_cell : List Str := ["_law_draws_here", "_law_cells", "_law_state", "_law_cell"]
def t_l_next_cell (K : PySem.W.Frag) : TS := (tSeq (tAsg (tOp (rIxL K) (tVar 0) (tC (.int 0))) (gName 1))
  (tSeq (tAsg (tOp (rIxL K) (tVar 0) (tC (.int 1))) (gName 2))
  (tIfS (tTest (tOp oLt (tOp (rIxL K) (tVar 2) (tC (.int 0))) (tCB (rLen K) (tCons (tVar 1) tNil)))) (tSeq (tAsg (tCB rInt1 (tCons (tOp (rIxL K) (tVar 1) (tOp (rIxL K) (tVar 2) (tC (.int 0)))) tNil)) (gName 3))
  (tSeq (tAsg (tOp oAdd (tOp (rIxL K) (tVar 2) (tC (.int 0))) (tC (.int 1))) (gSub (tVar 2) (tC (.int 0)) rSetL))
  (tSeq (tAsg (tOp oMod (tCB rInt1 (tCons (tOp oAdd (tOp oAdd (tOp oMul (tOp (rIxL K) (tVar 2) (tC (.int 4))) (tC (.int 31))) (tOp oMod (tVar 3) (tC (.int 2147483647)))) (tC (.int 1))) tNil)) (tC (.int 2147483647))) (gSub (tVar 2) (tC (.int 4)) rSetL))
  (tIfS (tTest (tOp oGe (tVar 3) (tOp oPow (tC (.int 10)) (tC (.int 18))))) (tAsg (tVar 3) (gSub (tVar 2) (tC (.int 1)) rSetL)) (tAsg (tC (.int 2)) (gSub (tVar 2) (tC (.int 2)) rSetL)))))) tNext)))
theorem pure_next_cell {K : PySem.W.Frag} {vs : List V} {H : Hp} {Q : VK} {E : XK} (h : sp_next_cell vs H Q E) : t_l_next_cell K { nx := fun _ H' => Q .non H', rt := Q } (start N_l_next_cell vs) H := by
  obtain ⟨d, s, rfl, hD, k⟩ := h
  obtain ⟨c, cs, p, b, n, t, e, h1, h2, h3, h4, h5, h6, h7, h8⟩ := id hD
  have fin : ∀ (H' : Hp) (p' b' n' t' e' : Int), H' s = some (.lst [.int p', .int b', .int n', .int t', .int e']) → (∀ q, q ≠ s → H' q = H q) → 0 ≤ p' → 0 ≤ b' → Q .non H' := fun H' p' b' n' t' e' hs hk hp hb =>
    k H' ⟨c, cs, p', b', n', t', e', by rw [hk _ h4]; exact h1, by rw [hk _ h5]; exact h2, hs, h4, h5, hp, hb, h8⟩ fun q o hq => by
      obtain ⟨q1, q2⟩ := hid_of hq
      exact hid_to (by rw [hk _ q2]; exact q1) q2
  unfold t_l_next_cell
  fold_lay
  refine i_ifd (fun hlt => ?_) (fun hlt => ?_)
  · have hx : ∃ z, cs[p.toNat]? = some z := by
      rw [List.length_map] at hlt
      exact ⟨cs[p.toNat]'(by omega), List.getElem?_eq_getElem _⟩
    obtain ⟨z, hz⟩ := hx
    fold_lay
    refine i_ixL (sqL (by kct_strs)) (at_of (j := p.toNat) (by omega) (by rw [List.getElem?_map, hz]; rfl)) ?_
    fold_lay
    refine i_ifd (fun hge => ?_) (fun hge => ?_)
    · fold_lay
      refine fin _ (p + 1) z n t _ upd_same (fun q hq => by rw [upd_ne hq, upd_ne hq, upd_ne hq]) (by omega) ?_
      have : (0 : Int) ≤ 10 ^ (18 : Int).toNat := by decide
      omega
    · fold_lay
      exact fin _ (p + 1) b 2 t _ upd_same (fun q hq => by rw [upd_ne hq, upd_ne hq, upd_ne hq]) (by omega) h7
  · fold_lay
    exact fin _ p b n t e h3 (fun _ _ => rfl) h6 h7

def N_l_mixed : List Str := ["_law_seed", "_law_turn", "_law_many", "_law_value", "_law_k", "_law_first", "_law_second"]
def t_l_mixed (K : PySem.W.Frag) : TS := (tSeq (tAsg (tC (.int 0)) (gName 3))
  (tSeq (tFor (iRng1 (tCons (tC (.int 2)) tNil)) (gName 4) (tSeq (tAsg (tOp oMod (tCB rInt1 (tCons (tOp oMul (tOp oAdd (tOp oAdd (tVar 0) (tC (.int 7))) (tOp oMul (tOp oAdd (tOp oMul (tC (.int 2)) (tVar 1)) (tVar 4)) (tC (.int 1000003)))) (tC (.int 48271))) tNil)) (tC (.int 2147483647))) (gName 5))
  (tSeq (tAsg (tOp oMod (tCB rInt1 (tCons (tOp oAdd (tOp oAdd (tOp oMul (tVar 5) (tVar 5)) (tOp oMul (tOp oDiv (tVar 5) (tC (.int 3571))) (tC (.int 69621)))) (tVar 1)) tNil)) (tC (.int 2147483399))) (gName 6))
  (tAsg (tOp oAdd (tOp oMul (tVar 3) (tC (.int 126322553))) (tOp oDiv (tVar 6) (tC (.int 17)))) (gName 3)))))
  (tRet (tOp oMod (tCB rInt1 (tCons (tVar 3) tNil)) (tVar 2)))))
theorem pure_mixed {K : PySem.W.Frag} {vs : List V} {H : Hp} {Q : VK} {E : XK} (h : sp_mixed vs H Q E) : t_l_mixed K { nx := fun _ H' => Q .non H', rt := Q } (start N_l_mixed vs) H := by
  obtain ⟨e, t, m, rfl, hm, k⟩ := h
  unfold t_l_mixed
  fold_lay
  fold_depth
  refine f_rng1 (by omega) (by omega) (l_rng (fun i σ H' => H' = H ∧ ∃ (v : Int) (x1 x2 x3 : Option V), σ = [some (.int e), some (.int t), some (.int m), some (.int v), x1, x2, x3]) ⟨rfl, 0, none, none, none, rfl⟩ ?_ ?_)
  · rintro i σ H' hi ⟨rfl, v, x1, x2, x3, rfl⟩
    fold_lay
    exact ⟨rfl, _, _, _, _, rfl⟩
  · rintro σ H' ⟨rfl, v, x1, x2, x3, rfl⟩
    fold_lay
    exact k _ (Int.emod_nonneg _ (by omega)) (Int.emod_lt_of_pos _ hm)
theorem c_next_cell {d s : Addr} {H : Hp} {Q : VK} {E : XK} (hD : Dr d s H) (h : ∀ H', Dr d s H' → Same (hid s H) (hid s H') → Q .non H') : sp_next_cell [.ref d] H Q E := ⟨d, s, rfl, hD, h⟩
theorem c_take {d s : Addr} {m : Int} {H : Hp} {Q : VK} {E : XK} (hD : Dr d s H) (hm : m ≤ 10000000000000000000000000000000000000000000000000000000000000000000000) (h : ∀ v H', 0 ≤ v → (v < m ∨ v = 0) → Dr d s H' → Same (hid s H) (hid s H') → Q (.int v) H') : sp_take [.ref d, .int m] H Q E := ⟨d, s, m, rfl, hD, hm, h⟩
def N_l_take : List Str := ["_law_draws_here", "_law_many", "_law_state", "_law_value"]
def t_l_take (K : PySem.W.Frag) : TS := (tSeq (tIfS (tTest (tOp oLt (tVar 1) (tC (.int 2)))) (tRet (tC (.int 0))) tNext)
  (tSeq (tAsg (tOp (rIxL K) (tVar 0) (tC (.int 1))) (gName 2))
  (tSeq (tAsg (tOp oAdd (tOp (rIxL K) (tVar 2) (tC (.int 3))) (tC (.int 1))) (gSub (tVar 2) (tC (.int 3)) rSetL))
  (tSeq (tIfS (tAnd (tTest (tOp oLt (tOp (rIxL K) (tVar 2) (tC (.int 1))) (tC (.int 2)))) (tTest (tOp oLt (tOp (rIxL K) (tVar 2) (tC (.int 2))) (tC (.int 1))))) (tDrop (tCall sp_next_cell [] E0 (tCons (tVar 0) tNil))) tNext)
  (tSeq (tIfS (tTest (tOp oGt (tOp (rIxL K) (tVar 2) (tC (.int 1))) (tC (.int 1)))) (tSeq (tAsg (tOp oMod (tCB rInt1 (tCons (tOp (rIxL K) (tVar 2) (tC (.int 1))) tNil)) (tVar 1)) (gName 3))
  (tSeq (tAsg (tOp oDiv (tOp (rIxL K) (tVar 2) (tC (.int 1))) (tVar 1)) (gSub (tVar 2) (tC (.int 1)) rSetL))
  (tRet (tVar 3)))) tNext)
  (tSeq (tIfS (tTest (tOp oGt (tOp (rIxL K) (tVar 2) (tC (.int 2))) (tC (.int 0)))) (tAsg (tOp oSub (tOp (rIxL K) (tVar 2) (tC (.int 2))) (tC (.int 1))) (gSub (tVar 2) (tC (.int 2)) rSetL)) tNext)
  (tRet (tCall sp_mixed [] E0 (tCons (tOp (rIxL K) (tVar 2) (tC (.int 4))) (tCons (tOp (rIxL K) (tVar 2) (tC (.int 3))) (tCons (tVar 1) tNil)))))))))))
theorem pure_take {K : PySem.W.Frag} {vs : List V} {H : Hp} {Q : VK} {E : XK} (h : sp_take vs H Q E) : t_l_take K { nx := fun _ H' => Q .non H', rt := Q } (start N_l_take vs) H := by
  obtain ⟨d, s, m, rfl, hD, hm, k⟩ := h
  unfold t_l_take
  fold_depth
  refine i_ifd (fun h2 => ?_) (fun h2 => ?_)
  · fold_lay
    exact k 0 H (by omega) (.inr rfl) hD (Same.refl _)
  obtain ⟨c, cs, p, b, n, t, e, a1, a2, a3, a4, a5, a6, a7, a8⟩ := id hD
  have mk : ∀ (H' : Hp) (p' b' n' t' e' : Int), H' s = some (.lst [.int p', .int b', .int n', .int t', .int e']) → (∀ q, q ≠ s → H' q = H q) → 0 ≤ p' → 0 ≤ b' → Dr d s H' ∧ Same (hid s H) (hid s H') := fun H' p' b' n' t' e' hs hk hp hb =>
    ⟨⟨c, cs, p', b', n', t', e', by rw [hk _ a4]; exact a1, by rw [hk _ a5]; exact a2, hs, a4, a5, hp, hb, a8⟩, fun q o hq => by
      obtain ⟨q1, q2⟩ := hid_of hq
      exact hid_to (by rw [hk _ q2]; exact q1) q2⟩
  fold_lay
  refine i_cut (fun σ' H' => σ' = [some (.ref d), some (.int m), some (.ref s), none] ∧ Dr d s H' ∧ Same (hid s H) (hid s H')) ?_ (fun nx key => ?_)
  · rintro σ' H2 ⟨rfl, hD2, s2⟩
    obtain ⟨c, cs, p, b, n, t, e, b1, b2, b3, b4, b5, b6, b7, b8⟩ := id hD2
    fold_depth
    refine i_ifd (fun h3 => ?_) (fun h3 => ?_)
    · fold_lay
      refine k _ _ (Int.emod_nonneg _ (by omega)) (.inl (Int.emod_lt_of_pos _ (by omega))) ⟨c, cs, p, b / m, n, t, e, by kct_strs, by kct_strs, upd_same, b4, b5, b6, Int.ediv_nonneg b7 (by omega), b8⟩ ?_
      rw [hid_upd]
      exact s2
    fold_lay
    refine i_cut (fun σ' H' => σ' = [some (.ref d), some (.int m), some (.ref s), none] ∧ Dr d s H' ∧ Same (hid s H) (hid s H')) ?_ (fun nx key => ?_)
    · rintro σ' H3 ⟨rfl, hD3, s3⟩
      obtain ⟨c, cs, p, b, n, t, e, c1, c2, c3, c4, c5, c6, c7, c8⟩ := id hD3
      fold_lay
      exact ⟨_, _, _, rfl, by omega, fun v v0 v1 => k v H3 v0 (.inl v1) hD3 s3⟩
    · fold_lay
      refine i_ifd (fun h4 => ?_) (fun h4 => ?_)
      · fold_lay
        refine key _ _ ⟨rfl, ⟨c, cs, p, b, n - 1, t, e, by kct_strs, by kct_strs, upd_same, b4, b5, b6, b7, b8⟩, ?_⟩
        rw [hid_upd]
        exact s2
      · fold_lay
        exact key _ _ ⟨rfl, hD2, s2⟩
  · have mm := mk (upd H s (.lst [.int p, .int b, .int n, .int (t + 1), .int e])) p b n (t + 1) e upd_same (fun q hq => by rw [upd_ne hq]) a6 a7
    fold_lay
    refine i_ifd (fun h3 => ?_) (fun h3 => ?_)
    · fold_lay
      refine i_ifd (fun h4 => ?_) (fun h4 => ?_)
      · fold_lay
        exact c_next_cell mm.1 fun H' d1 d2 => key _ _ ⟨rfl, d1, mm.2.trans d2⟩
      · fold_lay
        exact key _ _ ⟨rfl, mm⟩
    · fold_lay
      exact key _ _ ⟨rfl, mm⟩
/-! ## Draws2 -/
/-! ### between, number, count, alignment, power, long -/
def sp_between : Sp := fun vs H Q _ => ∃ (d s : Addr) (lo hi : Int), vs = [.ref d, .int lo, .int hi] ∧ Dr d s H ∧ hi - lo ≤ 1000000000000000000000000000000000000000000000000000000000000000000000 ∧
  ∀ v H', lo ≤ v → (v ≤ hi ∨ v = lo) → Dr d s H' → Same (hid s H) (hid s H') → Q (.int v) H'
theorem c_between {d s : Addr} {lo hi : Int} {H : Hp} {Q : VK} {E : XK} (hD : Dr d s H) (hm : hi - lo ≤ 1000000000000000000000000000000000000000000000000000000000000000000000) (h : ∀ v H', lo ≤ v → (v ≤ hi ∨ v = lo) → Dr d s H' → Same (hid s H) (hid s H') → Q (.int v) H') : sp_between [.ref d, .int lo, .int hi] H Q E := ⟨d, s, lo, hi, rfl, hD, hm, h⟩
def N_l_between : List Str := ["_law_draws_here", "_law_low", "_law_high", "_law_kind"]
def t_l_between (K : PySem.W.Frag) : TS := (tSeq (tIfS (tTest (tOp oLe (tVar 2) (tVar 1))) (tRet (tVar 1)) tNext)
  (tSeq (tAsg (tCall sp_take [] E0 (tCons (tVar 0) (tCons (tC (.int 6)) tNil))) (gName 3))
  (tSeq (tIfS (tTest (tOp rEq (tVar 3) (tC (.int 0)))) (tRet (tVar 1)) tNext)
  (tSeq (tIfS (tTest (tOp rEq (tVar 3) (tC (.int 1)))) (tRet (tVar 2)) tNext)
  (tRet (tOp oAdd (tVar 1) (tCall sp_take [] E0 (tCons (tVar 0) (tCons (tOp oAdd (tOp oSub (tVar 2) (tVar 1)) (tC (.int 1))) tNil)))))))))
theorem pure_between {K : PySem.W.Frag} {vs : List V} {H : Hp} {Q : VK} {E : XK} (h : sp_between vs H Q E) : t_l_between K { nx := fun _ H' => Q .non H', rt := Q } (start N_l_between vs) H := by
  obtain ⟨d, s, lo, hi, rfl, hD, hm, k⟩ := h
  unfold t_l_between
  fold_depth
  refine i_ifd (fun h1 => ?_) (fun h1 => ?_)
  · fold_lay
    exact k _ _ (by omega) (.inr rfl) hD (Same.refl _)
  fold_lay
  refine c_take hD (by omega) fun v H1 v0 v1 hD1 s1 => ?_
  fold_lay; fold_depth
  refine i_ifd (fun h2 => ?_) (fun h2 => ?_)
  · fold_lay
    exact k _ _ (by omega) (.inr rfl) hD1 s1
  fold_lay; fold_depth
  refine i_ifd (fun h3 => ?_) (fun h3 => ?_)
  · fold_lay
    exact k _ _ (by omega) (.inl (by omega)) hD1 s1
  fold_lay
  refine c_take hD1 (by omega) fun w H2 w0 w1 hD2 s2 => ?_
  fold_lay
  exact k _ _ (by omega) (.inl (by omega)) hD2 (s1.trans s2)
def sp_alignment : Sp := fun vs H Q _ => ∃ (d s : Addr) (m : Int), vs = [.ref d, .int m] ∧ Dr d s H ∧ 0 ≤ m ∧ m ≤ 1000 ∧
  ∀ (k : Nat) H', (k : Int) ≤ m → Dr d s H' → Same (hid s H) (hid s H') → Q (.int (2 ^ k)) H'
theorem c_alignment {d s : Addr} {m : Int} {H : Hp} {Q : VK} {E : XK} (hD : Dr d s H) (h0 : 0 ≤ m) (h1 : m ≤ 1000) (h : ∀ (k : Nat) H', (k : Int) ≤ m → Dr d s H' → Same (hid s H) (hid s H') → Q (.int (2 ^ k)) H') : sp_alignment [.ref d, .int m] H Q E := ⟨d, s, m, rfl, hD, h0, h1, h⟩
theorem pow_succ2 (k : Nat) : (2 : Int) ^ k * 2 = 2 ^ (k + 1) := (Int.pow_succ 2 k).symm
def N_l_alignment : List Str := ["_law_draws_here", "_law_most", "_law_value", "_law_k"]
def t_l_alignment (K : PySem.W.Frag) : TS := (tSeq (tAsg (tC (.int 1)) (gName 2))
  (tSeq (tFor (iRng1 (tCons (tCall sp_between [] E0 (tCons (tVar 0) (tCons (tC (.int 0)) (tCons (tVar 1) tNil)))) tNil)) (gName 3) (tAsg (tOp oMul (tVar 2) (tC (.int 2))) (gName 2)))
  (tRet (tVar 2))))
theorem pure_alignment {K : PySem.W.Frag} {vs : List V} {H : Hp} {Q : VK} {E : XK} (h : sp_alignment vs H Q E) : t_l_alignment K { nx := fun _ H' => Q .non H', rt := Q } (start N_l_alignment vs) H := by
  obtain ⟨d, s, m, rfl, hD, h0, h1, k⟩ := h
  unfold t_l_alignment
  fold_lay; fold_depth
  refine c_between hD (by omega) fun v H1 v0 v1 hD1 s1 => ?_
  fold_lay
  refine f_rng1 (by omega) (by omega) (l_rng (fun i σ H' => H' = H1 ∧ ∃ x, σ = [some (.ref d), some (.int m), some (.int (2 ^ i)), x]) ⟨rfl, none, rfl⟩ ?_ ?_)
  · rintro i σ H' hi ⟨rfl, x, rfl⟩
    fold_lay
    rw [pow_succ2]
    exact ⟨rfl, _, rfl⟩
  · rintro σ H' ⟨rfl, x, rfl⟩
    fold_lay
    exact k _ _ (by omega) hD1 s1
def sp_power : Sp := fun vs H Q _ => ∃ (m : Int), vs = [.int m] ∧ 0 ≤ m ∧ m ≤ 100000 ∧ Q (.int (2 ^ m.toNat)) H
def N_l_power : List Str := ["_law_number_here", "_law_value", "_law_k"]
def t_l_power (K : PySem.W.Frag) : TS := (tSeq (tAsg (tC (.int 1)) (gName 1))
  (tSeq (tFor (iRng1 (tCons (tVar 0) tNil)) (gName 2) (tAsg (tOp oMul (tVar 1) (tC (.int 2))) (gName 1)))
  (tRet (tVar 1))))
theorem pure_power {K : PySem.W.Frag} {vs : List V} {H : Hp} {Q : VK} {E : XK} (h : sp_power vs H Q E) : t_l_power K { nx := fun _ H' => Q .non H', rt := Q } (start N_l_power vs) H := by
  obtain ⟨m, rfl, h0, h1, k⟩ := h
  unfold t_l_power
  fold_lay; fold_depth
  refine f_rng1 (by omega) (by omega) (l_rng (fun i σ H' => H' = H ∧ ∃ x, σ = [some (.int m), some (.int (2 ^ i)), x]) ⟨rfl, none, rfl⟩ ?_ ?_)
  · rintro i σ H' hi ⟨rfl, x, rfl⟩
    fold_lay
    rw [pow_succ2]
    exact ⟨rfl, _, rfl⟩
  · rintro σ H' ⟨rfl, x, rfl⟩
    fold_lay
    exact k
def sp_number : Sp := fun vs H Q _ => ∃ (d s : Addr) (lo hi : Int), vs = [.ref d, .int lo, .int hi] ∧ Dr d s H ∧ lo ≤ hi ∧ hi - lo ≤ 100000000000000000000000000000000000000000000000000000000000000000000 ∧
  ∀ v H', lo ≤ v → v ≤ hi → Dr d s H' → Same (hid s H) (hid s H') → Q (.int v) H'
theorem c_number {d s : Addr} {lo hi : Int} {H : Hp} {Q : VK} {E : XK} (hD : Dr d s H) (hl : lo ≤ hi) (hm : hi - lo ≤ 100000000000000000000000000000000000000000000000000000000000000000000) (h : ∀ v H', lo ≤ v → v ≤ hi → Dr d s H' → Same (hid s H) (hid s H') → Q (.int v) H') : sp_number [.ref d, .int lo, .int hi] H Q E := ⟨d, s, lo, hi, rfl, hD, hl, hm, h⟩
theorem two_pow_pos (k : Nat) : (0 : Int) < 2 ^ k := Int.pow_pos (by decide)
def N_l_number : List Str := ["_law_draws_here", "_law_low", "_law_high", "_law_kind"]
def t_l_number (K : PySem.W.Frag) : TS := (tSeq (tIfS (tTest (tOp oLt (tOp oSub (tVar 2) (tVar 1)) (tC (.int 16)))) (tRet (tCall sp_between [] E0 (tCons (tVar 0) (tCons (tVar 1) (tCons (tVar 2) tNil))))) tNext)
  (tSeq (tAsg (tCall sp_take [] E0 (tCons (tVar 0) (tCons (tC (.int 8)) tNil))) (gName 3))
  (tSeq (tIfS (tTest (tOp oLt (tVar 3) (tC (.int 4)))) (tRet (tOp (rIxL K) (tLst (tCons (tVar 1) (tCons (tVar 2) (tCons (tOp oAdd (tVar 1) (tC (.int 1))) (tCons (tOp oSub (tVar 2) (tC (.int 1))) tNil))))) (tVar 3))) tNext)
  (tSeq (tIfS (tTest (tOp oLt (tVar 3) (tC (.int 6)))) (tRet (tOp oAdd (tVar 1) (tCall sp_take [] E0 (tCons (tVar 0) (tCons (tOp oAdd (tCB rMin2 (tCons (tOp oSub (tVar 2) (tVar 1)) (tCons (tC (.int 40)) tNil))) (tC (.int 1))) tNil))))) tNext)
  (tSeq (tIfS (tTest (tOp rEq (tVar 3) (tC (.int 6)))) (tRet (tCB rMax2 (tCons (tVar 1) (tCons (tCB rMin2 (tCons (tVar 2) (tCons (tOp oSub (tOp oAdd (tCall sp_alignment [] E0 (tCons (tVar 0) (tCons (tC (.int 30)) tNil))) (tCall sp_take [] E0 (tCons (tVar 0) (tCons (tC (.int 3)) tNil)))) (tC (.int 1))) tNil))) tNil)))) tNext)
  (tRet (tOp oAdd (tVar 1) (tCall sp_take [] E0 (tCons (tVar 0) (tCons (tOp oAdd (tOp oSub (tVar 2) (tVar 1)) (tC (.int 1))) tNil))))))))))
theorem pure_number {K : PySem.W.Frag} {vs : List V} {H : Hp} {Q : VK} {E : XK} (h : sp_number vs H Q E) : t_l_number K { nx := fun _ H' => Q .non H', rt := Q } (start N_l_number vs) H := by
  obtain ⟨d, s, lo, hi, rfl, hD, hl, hm, k⟩ := h
  unfold t_l_number
  fold_depth
  refine i_ifd (fun h1 => ?_) (fun h1 => ?_)
  · fold_lay
    exact c_between hD (by omega) fun v H1 v0 v1 hD1 s1 => k _ _ v0 (by omega) hD1 s1
  fold_lay
  refine c_take hD (by omega) fun v H1 v0 v1 hD1 s1 => ?_
  fold_lay; fold_depth
  refine i_ifd (fun h2 => ?_) (fun h2 => ?_)
  · fold_lay
    rename_i p hp
    have fin : ∀ x, lo ≤ x → x ≤ hi → Q (.int x) (upd H1 p (.lst [.int lo, .int hi, .int (lo + 1), .int (hi - 1)])) := fun x x0 x1 => k _ _ x0 x1 (hD1.same (same_new hp)) (s1.trans (hid_mono (same_new hp)))
    have hv : v = 0 ∨ v = 1 ∨ v = 2 ∨ v = 3 := by omega
    rcases hv with rfl | rfl | rfl | rfl
    · fold_lay; exact fin _ (by omega) (by omega)
    · fold_lay; exact fin _ (by omega) (by omega)
    · fold_lay; exact fin _ (by omega) (by omega)
    · fold_lay; exact fin _ (by omega) (by omega)
  fold_lay; fold_depth
  refine i_ifd (fun h3 => ?_) (fun h3 => ?_)
  · fold_lay
    refine c_take hD1 (by split <;> omega) fun w H2 w0 w1 hD2 s2 => ?_
    fold_lay
    refine k _ _ (by omega) ?_ hD2 (s1.trans s2)
    split at w1 <;> omega
  fold_lay; fold_depth
  refine i_ifd (fun h4 => ?_) (fun h4 => ?_)
  · fold_lay
    refine c_alignment hD1 (by omega) (by omega) fun j H2 j1 hD2 s2 => ?_
    fold_lay
    refine c_take hD2 (by omega) fun w H3 w0 w1 hD3 s3 => ?_
    fold_lay
    have hp := two_pow_pos j
    generalize (2 : Int) ^ j = z at hp
    refine k _ _ ?_ ?_ hD3 ((s1.trans s2).trans s3)
    · split
      · omega
      · omega
    · split
      · split <;> omega
      · omega
  fold_lay
  refine c_take hD1 (by omega) fun w H2 w0 w1 hD2 s2 => ?_
  fold_lay
  exact k _ _ (by omega) (by omega) hD2 (s1.trans s2)
def sp_count : Sp := fun vs H Q _ => ∃ (d s : Addr) (lo hi : Int), vs = [.ref d, .int lo, .int hi] ∧ Dr d s H ∧ 0 ≤ lo ∧ lo ≤ hi ∧ hi ≤ 100000000000000000000000000000000000000000000000000000000000000000000 ∧
  ∀ v H', 0 ≤ v → v ≤ hi → Dr d s H' → Same (hid s H) (hid s H') → Q (.int v) H'
theorem c_count {d s : Addr} {lo hi : Int} {H : Hp} {Q : VK} {E : XK} (hD : Dr d s H) (h0 : 0 ≤ lo) (hl : lo ≤ hi) (hm : hi ≤ 100000000000000000000000000000000000000000000000000000000000000000000) (h : ∀ v H', 0 ≤ v → v ≤ hi → Dr d s H' → Same (hid s H) (hid s H') → Q (.int v) H') : sp_count [.ref d, .int lo, .int hi] H Q E := ⟨d, s, lo, hi, rfl, hD, h0, hl, hm, h⟩
def N_l_count : List Str := ["_law_draws_here", "_law_small", "_law_great"]
def t_l_count (K : PySem.W.Frag) : TS := (tSeq (tIfS (tTest (tOp rEq (tCall sp_take [] E0 (tCons (tVar 0) (tCons (tC (.int 8)) tNil))) (tC (.int 7)))) (tRet (tCall sp_between [] E0 (tCons (tVar 0) (tCons (tVar 1) (tCons (tVar 2) tNil))))) tNext)
  (tRet (tCall sp_between [] E0 (tCons (tVar 0) (tCons (tC (.int 0)) (tCons (tVar 1) tNil))))))
theorem pure_count {K : PySem.W.Frag} {vs : List V} {H : Hp} {Q : VK} {E : XK} (h : sp_count vs H Q E) : t_l_count K { nx := fun _ H' => Q .non H', rt := Q } (start N_l_count vs) H := by
  obtain ⟨d, s, lo, hi, rfl, hD, h0, hl, hm, k⟩ := h
  unfold t_l_count
  fold_depth
  refine c_take hD (by omega) fun v H1 v0 v1 hD1 s1 => ?_
  fold_lay
  refine i_ifd (fun h1 => ?_) (fun h1 => ?_)
  · fold_lay
    exact c_between hD1 (by omega) fun v H2 v0 v1 hD2 s2 => k _ _ (by omega) (by omega) hD2 (s1.trans s2)
  · fold_lay
    exact c_between hD1 (by omega) fun v H2 v0 v1 hD2 s2 => k _ _ (by omega) (by omega) hD2 (s1.trans s2)
/-! ## Draws3 -/
/-! ### what is out of a range -/
def lng : Int := 10 ^ 999
theorem lng_big : 10000000000000000000000000000000000000000000000000000000000000000000000 < lng := by decide +kernel
theorem ten_lt (n : Nat) : ((10 : Int) ^ n).natAbs < 2 ^ (4 * n + 1) := by
  rw [Int.natAbs_pow]
  have h : (10 : Int).natAbs ^ n ≤ (2 ^ 4) ^ n := Nat.pow_le_pow_left (by decide) n
  rw [← Nat.pow_mul] at h
  exact Nat.lt_of_le_of_lt h (Nat.pow_lt_pow_right (by decide) (by omega))
def sp_long : Sp := fun vs H Q _ => vs = [] ∧ Q (.int lng) H
def N_l_long : List Str := ["_law_value", "_law_k"]
def t_l_long (K : PySem.W.Frag) : TS := (tSeq (tAsg (tOp oPow (tC (.int 10)) (tC (.int 39))) (gName 0))
  (tSeq (tFor (iRng1 (tCons (tC (.int 15)) tNil)) (gName 1) (tAsg (tOp oMulW (tVar 0) (tOp oPow (tC (.int 10)) (tC (.int 64)))) (gName 0)))
  (tRet (tVar 0))))
theorem pure_long {K : PySem.W.Frag} {vs : List V} {H : Hp} {Q : VK} {E : XK} (h : sp_long vs H Q E) : t_l_long K { nx := fun _ H' => Q .non H', rt := Q } (start N_l_long vs) H := by
  obtain ⟨rfl, k⟩ := h
  unfold t_l_long
  fold_lay; fold_depth
  refine f_rng1 (by omega) (by omega) (l_rng (fun i σ H' => H' = H ∧ ∃ x, σ = [some (.int (10 ^ (39 + 64 * i))), x]) ⟨rfl, none, rfl⟩ ?_ ?_)
  · rintro i σ H' hi ⟨rfl, x, rfl⟩
    have hi : i < 15 := hi
    fold_lay
    refine i_mulW (wide_mul (ten_lt _) (ten_lt _) (by omega) (by omega) ?_) ?_
    · show 4 * (39 + 64 * i) + 1 + (4 * 64 + 1) ≤ 1000000
      omega
    · fold_lay
      refine ⟨rfl, some (.int (0 + (i : Int))), ?_⟩
      have e : (10 : Int) ^ (39 + 64 * i) * 10 ^ (64 : Int).toNat = 10 ^ (39 + 64 * (i + 1)) := by
        rw [← Int.pow_add]
        rfl
      rw [e]
      rfl
  · rintro σ H' ⟨rfl, x, rfl⟩
    fold_lay
    exact k
def sp_not_integer : Sp := fun vs H Q _ => ∃ (d s : Addr), vs = [.ref d] ∧ Dr d s H ∧
  ∀ v dt H', At (nw H H') v dt → dt.isI = false → (dt.dep ≤ 1 ∧ dt.okd = true) → Dr d s H' → Same (hid s H) (hid s H') → Q v H'
theorem c_not_integer {d s : Addr} {H : Hp} {Q : VK} {E : XK} (hD : Dr d s H) (h : ∀ v dt H', At (nw H H') v dt → dt.isI = false → (dt.dep ≤ 1 ∧ dt.okd = true) → Dr d s H' → Same (hid s H) (hid s H') → Q v H') : sp_not_integer [.ref d] H Q E := ⟨d, s, rfl, hD, h⟩
def N_l_not_integer : List Str := ["_law_draws_here"]
def t_l_not_integer (K : PySem.W.Frag) : TS := (tRet (tOp (rIxL K) (tLst (tCons (tC (.bl true)) (tCons (tC (.bl false)) (tCons (tC .non) (tCons (tC (.str "")) (tCons (tC (.str "1")) (tCons (tC (.str "0")) (tCons (tLst tNil) (tCons (tTup tNil) (tCons (tLst (tCons (tC (.int 1)) tNil)) (tCons (tTup (tCons (tC (.int 0)) tNil)) (tCons (tDisp [((tC (.str "a")), (tC (.int 1)))]) tNil)))))))))))) (tCall sp_take [] E0 (tCons (tVar 0) (tCons (tC (.int 11)) tNil)))))
theorem pure_not_integer {K : PySem.W.Frag} {vs : List V} {H : Hp} {Q : VK} {E : XK} (h : sp_not_integer vs H Q E) : t_l_not_integer K { nx := fun _ H' => Q .non H', rt := Q } (start N_l_not_integer vs) H := by
  obtain ⟨d, s, rfl, hD, k⟩ := h
  unfold t_l_not_integer
  fold_lay
  rename_i p1 h1 p2 h2 p3 h3 p4 h4 p5 h5 p6 h6
  have s1 := same_new (o := .lst []) h1
  have s2 := s1.trans (same_new (o := .tup []) h2)
  have s3 := s2.trans (same_new (o := .lst [.int 1]) h3)
  have s4 := s3.trans (same_new (o := .tup [.int 0]) h4)
  have s5 := s4.trans (same_new (o := .dK [(Sum.inr "a", .int 1)]) h5)
  have n1 := hD.ne h1
  have n2 := (hD.same s1).ne h2
  have n3 := (hD.same s2).ne h3
  have n4 := (hD.same s3).ne h4
  have n5 := (hD.same s4).ne h5
  have s6 := s5.trans (same_new (o := .lst [.bl true, .bl false, .non, .str "", .str "1", .str "0", .ref p1, .ref p2, .ref p3, .ref p4, .ref p5]) h6)
  refine c_take (hD.same s6) (by omega) fun v H7 v0 v1 hD7 s7 => ?_
  have st : Same (hid s H) (hid s H7) := (hid_mono s6).trans s7
  have kp0 : ∀ q o, upd (upd (upd (upd (upd (upd H p1 (.lst [])) p2 (.tup [])) p3 (.lst [.int 1])) p4 (.tup [.int 0])) p5 (.dK [(Sum.inr "a", .int 1)])) p6 (.lst [.bl true, .bl false, .non, .str "", .str "1", .str "0", .ref p1, .ref p2, .ref p3, .ref p4, .ref p5]) q = some o → q ≠ s → hid s H7 q = some o := fun q o hq nq => s7 _ _ (hid_to hq nq)
  have kp : ∀ q o, upd (upd (upd (upd (upd (upd H p1 (.lst [])) p2 (.tup [])) p3 (.lst [.int 1])) p4 (.tup [.int 0])) p5 (.dK [(Sum.inr "a", .int 1)])) p6 (.lst [.bl true, .bl false, .non, .str "", .str "1", .str "0", .ref p1, .ref p2, .ref p3, .ref p4, .ref p5]) q = some o → q ≠ s → H q = none → nw H H7 q = some o := fun q o hq nq hn => nw_to hn (hid_same _ _ (kp0 q o hq nq))
  have a6 : H7 p6 = some (.lst [.bl true, .bl false, .non, .str "", .str "1", .str "0", .ref p1, .ref p2, .ref p3, .ref p4, .ref p5]) := hid_same _ _ (kp0 p6 _ upd_same ((hD.same s5).ne h6))
  have hv : v = 0 ∨ v = 1 ∨ v = 2 ∨ v = 3 ∨ v = 4 ∨ v = 5 ∨ v = 6 ∨ v = 7 ∨ v = 8 ∨ v = 9 ∨ v = 10 := by omega
  rcases hv with rfl | rfl | rfl | rfl | rfl | rfl | rfl | rfl | rfl | rfl | rfl
  · fold_lay; exact k _ _ _ (.bl true) rfl ⟨by decide, by decide⟩ hD7 st
  · fold_lay; exact k _ _ _ (.bl false) rfl ⟨by decide, by decide⟩ hD7 st
  · fold_lay; exact k _ _ _ .non rfl ⟨by decide, by decide⟩ hD7 st
  · fold_lay; exact k _ _ _ (.str _) rfl ⟨by decide, by decide⟩ hD7 st
  · fold_lay; exact k _ _ _ (.str _) rfl ⟨by decide, by decide⟩ hD7 st
  · fold_lay; exact k _ _ _ (.str _) rfl ⟨by decide, by decide⟩ hD7 st
  · fold_lay; exact k _ _ _ (.lst (kp p1 _ (by kct_strs) n1 (h1)) .nil) rfl ⟨by decide, by decide⟩ hD7 st
  · fold_lay; exact k _ _ _ (.tup (kp p2 _ (by kct_strs) n2 (s1.free h2)) .nil) rfl ⟨by decide, by decide⟩ hD7 st
  · fold_lay; exact k _ _ _ (.lst (kp p3 _ (by kct_strs) n3 (s2.free h3)) (.cons (.int 1) .nil)) rfl ⟨by decide, by decide⟩ hD7 st
  · fold_lay; exact k _ _ _ (.tup (kp p4 _ (by kct_strs) n4 (s3.free h4)) (.cons (.int 0) .nil)) rfl ⟨by decide, by decide⟩ hD7 st
  · fold_lay; exact k _ _ _ (.dic (kp p5 _ (by kct_strs) n5 (s4.free h5)) (.cons (.int 1) .nil)) rfl ⟨by decide, by decide⟩ hD7 st

def sp_not_within : Sp := fun vs H Q _ => ∃ (d s : Addr) (lo hi : Int), vs = [.ref d, .int lo, .int hi] ∧ Dr d s H ∧ -1000000000000 ≤ lo ∧ lo ≤ hi ∧ hi ≤ 1000000000000 ∧
  ∀ v dt H', At (nw H H') v dt → ¬ dt.inR lo hi → (dt.dep ≤ 1 ∧ dt.okd = true) → Dr d s H' → Same (hid s H) (hid s H') → Q v H'
theorem c_not_within {d s : Addr} {lo hi : Int} {H : Hp} {Q : VK} {E : XK} (hD : Dr d s H) (h1 : -1000000000000 ≤ lo) (h2 : lo ≤ hi) (h3 : hi ≤ 1000000000000)
    (h : ∀ v dt H', At (nw H H') v dt → ¬ dt.inR lo hi → (dt.dep ≤ 1 ∧ dt.okd = true) → Dr d s H' → Same (hid s H) (hid s H') → Q v H') : sp_not_within [.ref d, .int lo, .int hi] H Q E := ⟨d, s, lo, hi, rfl, hD, h1, h2, h3, h⟩
theorem out_int {i lo hi : Int} (h : i < lo ∨ hi < i) : ¬ (Dt.int i).inR lo hi := fun z => by
  obtain ⟨z1, z2⟩ := z
  omega
theorem ten30 : (10 : Int) ^ (30 : Int).toNat = 1000000000000000000000000000000 := by decide +kernel
def N_l_not_within : List Str := ["_law_draws_here", "_law_low", "_law_high", "_law_kind"]
def t_l_not_within (K : PySem.W.Frag) : TS := (tSeq (tAsg (tCall sp_take [] E0 (tCons (tVar 0) (tCons (tC (.int 7)) tNil))) (gName 3))
  (tSeq (tIfS (tTest (tOp oLt (tVar 3) (tC (.int 2)))) (tRet (tOp (rIxL K) (tLst (tCons (tOp oSub (tVar 1) (tC (.int 1))) (tCons (tOp oAdd (tVar 2) (tC (.int 1))) tNil))) (tVar 3))) tNext)
  (tSeq (tIfS (tTest (tOp rEq (tVar 3) (tC (.int 2)))) (tRet (tOp oAdd (tOp oAdd (tVar 2) (tC (.int 1))) (tCall sp_take [] E0 (tCons (tVar 0) (tCons (tOp oPow (tC (.int 10)) (tC (.int 30))) tNil))))) tNext)
  (tSeq (tIfS (tTest (tOp rEq (tVar 3) (tC (.int 3)))) (tRet (tOp oSub (tOp oSub (tVar 1) (tC (.int 1))) (tCall sp_take [] E0 (tCons (tVar 0) (tCons (tOp oPow (tC (.int 10)) (tC (.int 30))) tNil))))) tNext)
  (tSeq (tIfS (tTest (tOp rEq (tVar 3) (tC (.int 4)))) (tRet (tOp (rIxL K) (tLst (tCons (tCall sp_long [] E0 tNil) (tCons (tUn oNeg (tCall sp_long [] E0 tNil)) tNil))) (tCall sp_take [] E0 (tCons (tVar 0) (tCons (tC (.int 2)) tNil))))) tNext)
  (tRet (tCall sp_not_integer [] E0 (tCons (tVar 0) tNil))))))))
theorem pure_not_within {K : PySem.W.Frag} {vs : List V} {H : Hp} {Q : VK} {E : XK} (h : sp_not_within vs H Q E) : t_l_not_within K { nx := fun _ H' => Q .non H', rt := Q } (start N_l_not_within vs) H := by
  obtain ⟨d, s, lo, hi, rfl, hD, b1, b2, b3, k⟩ := h
  have kI : ∀ (i : Int) H', (i < lo ∨ hi < i) → Dr d s H' → Same (hid s H) (hid s H') → Q (.int i) H' := fun i H' hi' hD' hs' => k _ (.int i) _ (.int i) (out_int hi') ⟨Nat.zero_le _, rfl⟩ hD' hs'
  unfold t_l_not_within
  fold_lay
  refine c_take hD (by omega) fun v H1 v0 v1 hD1 s1 => ?_
  fold_lay; fold_depth
  refine i_ifd (fun h2 => ?_) (fun h2 => ?_)
  · fold_lay
    rename_i p hp
    have st : Same (hid s H) (hid s (upd H1 p (.lst [.int (lo - 1), .int (hi + 1)]))) := s1.trans (hid_mono (same_new hp))
    have dt := hD1.same (same_new (o := .lst [.int (lo - 1), .int (hi + 1)]) hp)
    have hv : v = 0 ∨ v = 1 := by omega
    rcases hv with rfl | rfl
    · fold_lay; exact kI _ _ (by omega) dt st
    · fold_lay; exact kI _ _ (by omega) dt st
  fold_lay; fold_depth
  refine i_ifd (fun h3 => ?_) (fun h3 => ?_)
  · fold_lay
    rw [ten30]
    refine c_take hD1 (by omega) fun w H2 w0 w1 hD2 s2 => ?_
    fold_lay
    exact kI _ _ (by omega) hD2 (s1.trans s2)
  fold_lay; fold_depth
  refine i_ifd (fun h4 => ?_) (fun h4 => ?_)
  · fold_lay
    rw [ten30]
    refine c_take hD1 (by omega) fun w H2 w0 w1 hD2 s2 => ?_
    fold_lay
    exact kI _ _ (by omega) hD2 (s1.trans s2)
  fold_lay; fold_depth
  refine i_ifd (fun h5 => ?_) (fun h5 => ?_)
  · fold_lay
    refine ⟨rfl, ?_⟩
    fold_lay
    refine ⟨rfl, ?_⟩
    fold_lay
    rename_i p hp
    have hb := lng_big
    generalize lng = z at hb
    have st : Same (hid s H) (hid s (upd H1 p (.lst [.int z, .int (-z)]))) := s1.trans (hid_mono (same_new hp))
    have dt := hD1.same (same_new (o := .lst [.int z, .int (-z)]) hp)
    refine c_take dt (by omega) fun w H2 w0 w1 hD2 s2 => ?_
    have a2 : H2 p = some (.lst [.int z, .int (-z)]) := hid_same _ _ (s2 _ _ (hid_to upd_same (hD1.ne hp)))
    have hv : w = 0 ∨ w = 1 := by omega
    rcases hv with rfl | rfl
    · fold_lay; exact kI _ _ (by omega) hD2 (st.trans s2)
    · fold_lay; exact kI _ _ (by omega) hD2 (st.trans s2)
  fold_lay
  exact c_not_integer hD1 fun v dt H2 a1 a2 a3 hD2 s2 => k _ _ _ (a1.mono (nw_old (alive hD1 s1))) (Dt.inR_of a2 _ _) a3 hD2 (s1.trans s2)
def sp_among (K : PySem.W.Frag) : Sp := fun vs H Q _ => ∃ (d s r : Addr) (xs : List V), vs = [.ref d, .ref r] ∧ Dr d s H ∧ H r = some (.lst xs) ∧ r ≠ s ∧ 0 < xs.length ∧ xs.length ≤ 100000 ∧
  ∀ v H', v ∈ xs → Dr d s H' → Same (hid s H) (hid s H') → Q v H'
theorem c_among {K : PySem.W.Frag} {d s r : Addr} {xs : List V} {H : Hp} {Q : VK} {E : XK} (hD : Dr d s H) (hr : H r = some (.lst xs)) (n : r ≠ s) (h0 : 0 < xs.length) (h1 : xs.length ≤ 100000)
    (h : ∀ v H', v ∈ xs → Dr d s H' → Same (hid s H) (hid s H') → Q v H') : sp_among K [.ref d, .ref r] H Q E := ⟨d, s, r, xs, rfl, hD, hr, n, h0, h1, h⟩
def N_l_among : List Str := ["_law_draws_here", "_law_row"]
def t_l_among (K : PySem.W.Frag) : TS := (tRet (tOp (rIxL K) (tVar 1) (tCall sp_take [] E0 (tCons (tVar 0) (tCons (tCB (rLen K) (tCons (tVar 1) tNil)) tNil)))))
theorem pure_among {K : PySem.W.Frag} {vs : List V} {H : Hp} {Q : VK} {E : XK} (h : sp_among K vs H Q E) : t_l_among K { nx := fun _ H' => Q .non H', rt := Q } (start N_l_among vs) H := by
  obtain ⟨d, s, r, xs, rfl, hD, hr, n, h0, h1, k⟩ := h
  unfold t_l_among
  fold_lay
  refine c_take hD (by omega) fun v H1 v0 v1 hD1 s1 => ?_
  have a1 : H1 r = some (.lst xs) := hid_same _ _ (s1 _ _ (hid_to hr n))
  refine i_amongL (sqL a1) v0 (by omega) (fun w hw => ?_)
  exact k _ _ (List.mem_of_getElem? hw) hD1 s1
def sp_not_alignment : Sp := fun vs H Q _ => ∃ (d s : Addr) (m : Int), vs = [.ref d, .int m] ∧ Dr d s H ∧ 1 ≤ m ∧ m ≤ 1000000000000 ∧
  ∀ v dt H', At (nw H H') v dt → ¬ dt.isAl m → (dt.dep ≤ 1 ∧ dt.okd = true) → Dr d s H' → Same (hid s H) (hid s H') → Q v H'
theorem c_not_alignment {d s : Addr} {m : Int} {H : Hp} {Q : VK} {E : XK} (hD : Dr d s H) (h1 : 1 ≤ m) (h2 : m ≤ 1000000000000)
    (h : ∀ v dt H', At (nw H H') v dt → ¬ dt.isAl m → (dt.dep ≤ 1 ∧ dt.okd = true) → Dr d s H' → Same (hid s H) (hid s H') → Q v H') : sp_not_alignment [.ref d, .int m] H Q E := ⟨d, s, m, rfl, hD, h1, h2, h⟩
theorem al_int {i m : Int} (h : i < 1 ∨ m < i) : ¬ (Dt.int i).isAl m := fun z => by
  obtain ⟨⟨k, z1⟩, z2⟩ := z
  have := two_pow_pos k
  omega
theorem al_odd {i m : Int} (h : i % 2 = 1) (h1 : i ≠ 1) : ¬ (Dt.int i).isAl m := fun z => by
  obtain ⟨⟨k, z1⟩, z2⟩ := z
  cases k with
  | zero => exact h1 z1
  | succ k =>
    rw [Int.pow_succ] at z1
    omega
theorem al_half {i m : Int} (h : ¬ (Dt.int i).isAl m) (h0 : 1 ≤ i) : ¬ (Dt.int (2 * i)).isAl m := fun z => by
  obtain ⟨⟨k, z1⟩, z2⟩ := z
  cases k with
  | zero => simp at z1; omega
  | succ k =>
    rw [Int.pow_succ] at z1
    exact h ⟨⟨k, by omega⟩, by omega⟩
def N_l_not_alignment : List Str := ["_law_draws_here", "_law_most", "_law_kind"]
def t_l_not_alignment (K : PySem.W.Frag) : TS := (tSeq (tAsg (tCall sp_take [] E0 (tCons (tVar 0) (tCons (tC (.int 8)) tNil))) (gName 2))
  (tSeq (tIfS (tTest (tOp oLt (tVar 2) (tC (.int 6)))) (tRet (tOp (rIxL K) (tLst (tCons (tC (.int 0)) (tCons (tUn oNeg (tC (.int 1))) (tCons (tUn oNeg (tC (.int 2))) (tCons (tC (.int 3)) (tCons (tOp oAdd (tVar 1) (tVar 1)) (tCons (tOp oAdd (tOp oAdd (tVar 1) (tVar 1)) (tC (.int 1))) tNil))))))) (tVar 2))) tNext)
  (tSeq (tIfS (tTest (tOp rEq (tVar 2) (tC (.int 6)))) (tRet (tCall (sp_among K) [] E0 (tCons (tVar 0) (tCons (tLst (tCons (tC (.int 6)) (tCons (tC (.int 12)) (tCons (tOp oPow (tC (.int 10)) (tC (.int 30))) (tCons (tCall sp_long [] E0 tNil) (tCons (tUn oNeg (tVar 1)) (tCons (tOp oMul (tVar 1) (tC (.int 3))) tNil))))))) tNil)))) tNext)
  (tRet (tCall sp_not_integer [] E0 (tCons (tVar 0) tNil))))))
theorem pure_not_alignment {K : PySem.W.Frag} {vs : List V} {H : Hp} {Q : VK} {E : XK} (h : sp_not_alignment vs H Q E) : t_l_not_alignment K { nx := fun _ H' => Q .non H', rt := Q } (start N_l_not_alignment vs) H := by
  obtain ⟨d, s, m, rfl, hD, b1, b2, k⟩ := h
  have kI : ∀ (i : Int) H', ¬ (Dt.int i).isAl m → Dr d s H' → Same (hid s H) (hid s H') → Q (.int i) H' := fun i H' hi' hD' hs' => k _ (.int i) _ (.int i) hi' ⟨Nat.zero_le _, rfl⟩ hD' hs'
  unfold t_l_not_alignment
  fold_lay
  refine c_take hD (by omega) fun v H1 v0 v1 hD1 s1 => ?_
  fold_lay; fold_depth
  refine i_ifd (fun h2 => ?_) (fun h2 => ?_)
  · fold_lay
    rename_i p hp
    have st : Same (hid s H) (hid s (upd H1 p (.lst [.int 0, .int (-1), .int (-2), .int 3, .int (m + m), .int (m + m + 1)]))) := s1.trans (hid_mono (same_new hp))
    have dt := hD1.same (same_new (o := .lst [.int 0, .int (-1), .int (-2), .int 3, .int (m + m), .int (m + m + 1)]) hp)
    have hv : v = 0 ∨ v = 1 ∨ v = 2 ∨ v = 3 ∨ v = 4 ∨ v = 5 := by omega
    rcases hv with rfl | rfl | rfl | rfl | rfl | rfl
    · fold_lay; exact kI _ _ (al_int (by omega)) dt st
    · fold_lay; exact kI _ _ (al_int (by omega)) dt st
    · fold_lay; exact kI _ _ (al_int (by omega)) dt st
    · fold_lay; exact kI _ _ (al_odd (by decide) (by decide)) dt st
    · fold_lay; exact kI _ _ (al_int (by omega)) dt st
    · fold_lay; exact kI _ _ (al_int (by omega)) dt st
  fold_lay; fold_depth
  refine i_ifd (fun h3 => ?_) (fun h3 => ?_)
  · fold_lay
    refine ⟨rfl, ?_⟩
    fold_lay
    rename_i p hp
    have hb := lng_big
    generalize lng = z at hb
    rw [ten30]
    have st : Same (hid s H) (hid s (upd H1 p (.lst [.int 6, .int 12, .int 1000000000000000000000000000000, .int z, .int (-m), .int (m * 3)]))) := s1.trans (hid_mono (same_new hp))
    have dt := hD1.same (same_new (o := .lst [.int 6, .int 12, .int 1000000000000000000000000000000, .int z, .int (-m), .int (m * 3)]) hp)
    refine c_among dt upd_same (hD1.ne hp) (by simp) (by simp) fun w H2 hw hD2 s2 => ?_
    have a3 : ¬ (Dt.int 3).isAl m := al_odd (by decide) (by decide)
    simp only [List.mem_cons, List.not_mem_nil, or_false] at hw
    rcases hw with rfl | rfl | rfl | rfl | rfl | rfl
    · exact kI _ _ (al_half a3 (by decide)) hD2 (st.trans s2)
    · exact kI _ _ (al_half (al_half a3 (by decide)) (by decide)) hD2 (st.trans s2)
    · exact kI _ _ (al_int (by omega)) hD2 (st.trans s2)
    · exact kI _ _ (al_int (by omega)) hD2 (st.trans s2)
    · exact kI _ _ (al_int (by omega)) hD2 (st.trans s2)
    · exact kI _ _ (al_int (by omega)) hD2 (st.trans s2)
  fold_lay
  exact c_not_integer hD1 fun v dt H2 a1 a2 a3 hD2 s2 => k _ _ _ (a1.mono (nw_old (alive hD1 s1))) (Dt.isAl_of a2 _) a3 hD2 (s1.trans s2)
def sp_draws (K : PySem.W.Frag) : Sp := fun vs H Q _ => ∃ (a : Addr) (ns : List Int), vs = [.ref a] ∧ SqL K H a (ns.map V.int) ∧ ns.length ≤ 10000 ∧
  ∀ d s H', Dr d s H' → Same H H' → H d = none → H s = none → Q (.ref d) H'
def N_l_draws : List Str := ["_law_script", "_law_cell"]
def t_l_draws (K : PySem.W.Frag) : TS := (tRet (tLst (tCons (tLc (iList K (tVar 0)) (gName 1) tYes (tCB rInt1 (tCons (tVar 1) tNil)) [1]) (tCons (tLst (tCons (tC (.int 0)) (tCons (tC (.int 0)) (tCons (tC (.int 0)) (tCons (tC (.int 0)) (tCons (tC (.int 11)) tNil)))))) tNil))))
theorem pure_draws {K : PySem.W.Frag} {vs : List V} {H : Hp} {Q : VK} {E : XK} (h : sp_draws K vs H Q E) : t_l_draws K { nx := fun _ H' => Q .non H', rt := Q } (start N_l_draws vs) H := by
  obtain ⟨a, ns, rfl, ha, hl, k⟩ := h
  unfold t_l_draws
  fold_lay
  refine c_lst ha (m_lst (xs := ns.map V.int) (fun D i H' => Same H H' ∧ H D = none ∧ H' D = some (.lst ((ns.take i).map V.int))) ?_ ?_ ?_ ?_)
  · exact fun D hD => ⟨same_new hD, hD, upd_same⟩
  · exact fun D i H' _ h => h.1.seq ha
  · rintro D i x H' hx ⟨h1, h2, h3⟩
    obtain ⟨z, hz, rfl⟩ := getI hx
    fold_lay
    refine ⟨rfl, ?_⟩
    fold_lay
    refine ⟨_, h3, szl (by simp; omega), ?_, h2, ?_⟩
    · exact fun b o e => upd_off (ne_of_none e h2) (h1 b o e)
    · rw [upd_same, take_more hz, List.map_append]
      rfl
  · rintro D H' ⟨h1, h2, h3⟩
    rw [List.length_map, List.take_length] at h3
    fold_lay
    rename_i p hp q hq
    have nD : D ≠ p := ne_of_none h3 hp
    have np : p ≠ q := fun z => by
      rw [← z, upd_same] at hq
      cases hq
    refine k q p _ ⟨D, ns, 0, 0, 0, 0, 11, upd_same, by kct_strs, by kct_strs, Ne.symm np, nD, by omega, by omega, by omega⟩ ?_ ?_ ?_
    · exact (h1.trans (same_new hp)).trans (same_new hq)
    · exact (h1.trans (same_new hp)).free hq
    · exact h1.free hp
/-! ## Basics -/
/-! ### basics.py -/
/-- where the classes of the refusals stand -/
structure Cl where
  (k_StoreError k_BadValue k_Broken k_Unknown k_NotHeld k_Fault k_NoRoom k_Cut k_BadLine : Addr)
  x_SIZES : Addr := 0
def vI : V → Bool
  | .int _ => true
  | _ => false
def vR (lo hi : Int) : V → Bool
  | .int i => decide (lo ≤ i) && decide (i ≤ hi)
  | _ => false
def sp_is_whole (K : PySem.W.Frag) : Sp := fun vs H Q _ => ∃ (v : V) (n : String), vs = [v] ∧ Ty0 H v n ∧ Q (.bl (vI v)) H
theorem c_is_whole {K : PySem.W.Frag} {v : V} {n : String} {H : Hp} {Q : VK} {E : XK} (h : Ty0 H v n) (q : Q (.bl (vI v)) H) : sp_is_whole K [v] H Q E := ⟨v, n, rfl, h, q⟩
def N_p_is_whole : List Str := ["value"]
def t_p_is_whole (K : PySem.W.Frag) : TS := (tRet (tAndV (tCB (rIsi K) (tCons (tVar 0) (tCons (tC (.ty "int")) tNil))) (tNotV (tCB (rIsi K) (tCons (tVar 0) (tCons (tC (.ty "bool")) tNil))))))
theorem pure_is_whole {K : PySem.W.Frag} {vs : List V} {H : Hp} {Q : VK} {E : XK} (h : sp_is_whole K vs H Q E) : t_p_is_whole K { nx := fun _ H' => Q .non H', rt := Q } (start N_p_is_whole vs) H := by
  obtain ⟨v, n, rfl, ht, q⟩ := h
  unfold t_p_is_whole
  cases id ht <;> (kbj_rows; exact q)
def sp_whole_between (K : PySem.W.Frag) : Sp := fun vs H Q _ => ∃ (v : V) (n : String) (lo hi : Int), vs = [v, .int lo, .int hi] ∧ Ty0 H v n ∧ Q (.bl (vR lo hi v)) H
theorem c_whole_between {K : PySem.W.Frag} {v : V} {n : String} {lo hi : Int} {H : Hp} {Q : VK} {E : XK} (h : Ty0 H v n) (q : Q (.bl (vR lo hi v)) H) : sp_whole_between K [v, .int lo, .int hi] H Q E := ⟨v, n, lo, hi, rfl, h, q⟩
theorem vI_int {v : V} (h : vI v = true) : ∃ i, v = .int i := by
  cases v <;> first | exact ⟨_, rfl⟩ | cases h
theorem vR_no {v : V} {lo hi : Int} (h : vI v = false) : vR lo hi v = false := by
  cases v <;> first | rfl | cases h
def N_p_whole_between : List Str := ["value", "low", "high"]
def t_p_whole_between (K : PySem.W.Frag) : TS := (tRet (tAndV (tCall (sp_is_whole K) [] E0 (tCons (tVar 0) tNil)) (tChain oLe oLe (tVar 1) (tVar 0) (tVar 2))))
theorem pure_whole_between {K : PySem.W.Frag} {vs : List V} {H : Hp} {Q : VK} {E : XK} (h : sp_whole_between K vs H Q E) : t_p_whole_between K { nx := fun _ H' => Q .non H', rt := Q } (start N_p_whole_between vs) H := by
  obtain ⟨v, n, lo, hi, rfl, ht, q⟩ := h
  unfold t_p_whole_between
  fold_lay
  refine c_is_whole ht ?_
  fold_lay
  refine i_ifb (fun h => ?_) (fun h => ?_)
  · obtain ⟨i, rfl⟩ := vI_int h
    fold_lay
    refine i_ifd (fun h1 => ?_) (fun h1 => ?_)
    · fold_lay
      simpa [vR, h1] using q
    · simpa [vR, h1] using q
  · rw [vR_no h] at q
    exact q
def vP : V → Bool
  | .int i => decide (1 ≤ i) && decide (Builtin.bitAnd i (i - 1) = 0)
  | _ => false
theorem vP_no {v : V} (h : vI v = false) : vP v = false := by
  cases v <;> first | rfl | cases h
theorem pow_iff {i : Int} : (1 ≤ i ∧ Builtin.bitAnd i (i - 1) = 0) ↔ ∃ k : Nat, i = 2 ^ k := by
  constructor
  · rintro ⟨h1, h2⟩
    have e1 : i = (i.toNat : Int) := by omega
    have e2 : (i - 1).toNat = i.toNat - 1 := by omega
    rw [bitAnd_pp (by omega) (by omega), e2] at h2
    have h3 : i.toNat &&& (i.toNat - 1) = 0 := by exact_mod_cast h2
    obtain ⟨k, hk⟩ := (Nat.and_sub_one_eq_zero_iff_isPowerOfTwo (by omega)).mp h3
    refine ⟨k, ?_⟩
    rw [e1, hk]
    exact Int.natCast_pow 2 k
  · rintro ⟨k, rfl⟩
    have hp := two_pow_pos k
    refine ⟨by omega, ?_⟩
    have e0 : ((2 : Int) ^ k).toNat = 2 ^ k := by
      have : (2 : Int) ^ k = ((2 ^ k : Nat) : Int) := (Int.natCast_pow 2 k).symm
      rw [this]
      rfl
    have e2 : ((2 : Int) ^ k - 1).toNat = 2 ^ k - 1 := by omega
    rw [bitAnd_pp (by omega) (by omega), e2, e0, (Nat.and_sub_one_eq_zero_iff_isPowerOfTwo (by have := Nat.two_pow_pos k; omega)).mpr ⟨k, rfl⟩]
    rfl
theorem vP_iff {i : Int} : vP (.int i) = true ↔ ∃ k : Nat, i = 2 ^ k := by
  rw [← pow_iff]
  simp [vP]
def sp_is_power (K : PySem.W.Frag) : Sp := fun vs H Q _ => ∃ (v : V) (n : String), vs = [v] ∧ Ty0 H v n ∧ Q (.bl (vP v)) H
theorem c_is_power {K : PySem.W.Frag} {v : V} {n : String} {H : Hp} {Q : VK} {E : XK} (h : Ty0 H v n) (q : Q (.bl (vP v)) H) : sp_is_power K [v] H Q E := ⟨v, n, rfl, h, q⟩
def N_p_is_power : List Str := ["value"]
def t_p_is_power (K : PySem.W.Frag) : TS := (tRet (tAndV (tCall (sp_is_whole K) [] E0 (tCons (tVar 0) tNil)) (tAndV (tOp oGe (tVar 0) (tC (.int 1))) (tOp rEq (tOp oAnd (tVar 0) (tOp oSub (tVar 0) (tC (.int 1)))) (tC (.int 0))))))
theorem pure_is_power {K : PySem.W.Frag} {vs : List V} {H : Hp} {Q : VK} {E : XK} (h : sp_is_power K vs H Q E) : t_p_is_power K { nx := fun _ H' => Q .non H', rt := Q } (start N_p_is_power vs) H := by
  obtain ⟨v, n, rfl, ht, q⟩ := h
  unfold t_p_is_power
  fold_lay
  refine c_is_whole ht ?_
  fold_lay
  refine i_ifb (fun h => ?_) (fun h => ?_)
  · obtain ⟨i, rfl⟩ := vI_int h
    fold_lay
    refine i_ifd (fun h1 => ?_) (fun h1 => ?_)
    · fold_lay
      simpa [vP, h1] using q
    · simpa [vP, h1] using q
  · rw [vP_no h] at q
    exact q
def vA (m : Int) : V → Bool
  | .int i => vP (.int i) && decide (i ≤ m)
  | _ => false
theorem vA_iff {i m : Int} : vA m (.int i) = true ↔ (Dt.int i).isAl m := by
  show (vP (.int i) && decide (i ≤ m)) = true ↔ _
  rw [Bool.and_eq_true, vP_iff, decide_eq_true_iff]
  rfl
def sp_is_align (K : PySem.W.Frag) : Sp := fun vs H Q _ => ∃ (v : V) (n : String) (m : Int), vs = [v, .int m] ∧ Ty0 H v n ∧ Q (.bl (vA m v)) H
theorem c_is_align {K : PySem.W.Frag} {v : V} {n : String} {m : Int} {H : Hp} {Q : VK} {E : XK} (h : Ty0 H v n) (q : Q (.bl (vA m v)) H) : sp_is_align K [v, .int m] H Q E := ⟨v, n, m, rfl, h, q⟩
theorem vP_int {v : V} (h : vP v = true) : ∃ i, v = .int i := by
  cases v <;> first | exact ⟨_, rfl⟩ | cases h
theorem vA_no {v : V} {m : Int} (h : vP v = false) : vA m v = false := by
  cases v <;> first | rfl | (show (vP _ && _) = false; rw [h]; rfl)
def N_p_is_align : List Str := ["value", "most"]
def t_p_is_align (K : PySem.W.Frag) : TS := (tRet (tAndV (tCall (sp_is_power K) [] E0 (tCons (tVar 0) tNil)) (tOp oLe (tVar 0) (tVar 1))))
theorem pure_is_align {K : PySem.W.Frag} {vs : List V} {H : Hp} {Q : VK} {E : XK} (h : sp_is_align K vs H Q E) : t_p_is_align K { nx := fun _ H' => Q .non H', rt := Q } (start N_p_is_align vs) H := by
  obtain ⟨v, n, m, rfl, ht, q⟩ := h
  unfold t_p_is_align
  fold_lay
  refine c_is_power ht ?_
  fold_lay
  refine i_ifb (fun h => ?_) (fun h => ?_)
  · obtain ⟨i, rfl⟩ := vP_int h
    fold_lay
    simpa [vA, h] using q
  · rw [vA_no h] at q
    exact q
/-! ### a refusal: its class, its fields -/
structure BvC (K : PySem.W.Frag) (C : Addr) : Prop where
  ox : OexC K C
  np : PySem.W.findIn K (.ref C) "parameter" = some none
  nt : PySem.W.findIn K (.ref C) "told" = some none
/-- a refusal's dict at d: BadValue(p) -/
def BadAt (H : Hp) (d : Addr) (v : V) : Prop := ∃ t1 t2, H d = some (.xd [("told", .ref t2), ("parameter", v)]) ∧ H t2 = some (.tup [.str "BadValue", .ref t1]) ∧ H t1 = some (.tup [v])
def sp_init_BadValue (K : PySem.W.Frag) (C : Addr) : Sp := fun vs H Q _ => ∃ (e : Addr) (v : V), vs = [.ref e, v] ∧ H e = some (exo e C none) ∧ BvC K C ∧
  ∀ (d t1 t2 : Addr) H', H' e = some (exo e C (some d)) → H' d = some (exd d [("told", .ref t2), ("parameter", v)]) → H' t1 = some (.tup [v]) → H' t2 = some (.tup [.str "BadValue", .ref t1]) → H d = none → (∀ b o, b ≠ e → H b = some o → H' b = some o) → Q .non H'
def N_c_BadValue_init : List Str := ["self", "parameter"]
def t_c_BadValue_init (K : PySem.W.Frag) : TS := (tSeq (tOst K "parameter" (tVar 0) (tVar 1))
  (tOst K "told" (tVar 0) (tTup (tCons (tC (.str "BadValue")) (tCons (tTup (tCons (tVar 1) tNil)) tNil)))))
theorem pure_init_BadValue {K : PySem.W.Frag} {C : Addr} {vs : List V} {H : Hp} {Q : VK} {E : XK} (h : sp_init_BadValue K C vs H Q E) : t_c_BadValue_init K { nx := fun _ H' => Q .non H', rt := Q } (start N_c_BadValue_init vs) H := by
  obtain ⟨e, v, rfl, he, hC, k⟩ := h
  unfold t_c_BadValue_init
  refine i_seq ?_
  refine ⟨v, rfl, .ref e, rfl, e, C, rfl, hC.ox, hC.np, .inl ⟨he, fun d hd ne => ?_⟩⟩
  have h1 : upd (upd H d (exd d [("parameter", v)])) e (exo e C (some d)) d = some (exd d [("parameter", v)]) := by rw [upd_ne ne, upd_same]
  refine ⟨v, rfl, sz (by simp), fun t1 ht1 => ?_⟩
  refine ⟨sz (by simp), fun t2 ht2 => ?_⟩
  have n1 : d ≠ t1 := ne_of_none h1 ht1
  have n3 : e ≠ t1 := ne_of_none upd_same ht1
  have ht2' := ht2
  have nt : t2 ≠ t1 := fun z => by rw [z, upd_same] at ht2'; cases ht2'
  have n2 : d ≠ t2 := ne_of_none (upd_off n1 h1) ht2
  have n4 : e ≠ t2 := ne_of_none (upd_off n3 upd_same) ht2
  refine ⟨.ref e, rfl, e, C, rfl, hC.ox, hC.nt, .inr ⟨d, [("parameter", v)], ?_, ?_, by show 1 ≤ 900; decide, ?_⟩⟩
  · exact upd_off n4 (upd_off n3 upd_same)
  · exact upd_off n2 (upd_off n1 h1)
  · refine k d t1 t2 _ ?_ upd_same ?_ ?_ hd ?_
    · exact upd_off (Ne.symm ne) (upd_off n4 (upd_off n3 upd_same))
    · exact upd_off (Ne.symm n1) (upd_off (Ne.symm nt) upd_same)
    · exact upd_off (Ne.symm n2) upd_same
    · intro b o nb hb
      have nd : b ≠ d := ne_of_none hb hd
      have h2 : upd (upd H d (exd d [("parameter", v)])) e (exo e C (some d)) b = some o := upd_off nb (upd_off nd hb)
      have n5 : b ≠ t1 := ne_of_none h2 ht1
      have h3 := upd_off (o := .tup [v]) n5 h2
      exact upd_off nd (upd_off (ne_of_none h3 ht2) h3)
/-- raise BadValue(e): what is asked of e's value -/
def RzB (K : PySem.W.Frag) (C : Addr) (W : WX) (σ : St) (v : V) (H1 : Hp) : Prop := [v].length ≤ 1000 ∧ ∀ a, H1 a = none → sp_init_BadValue K C (.ref a :: ([v] ++ [])) (upd H1 a (exo a C none))
  (fun u H2 => u = .non ∧ ∃ (d : Addr) (fs : List (Str × V)), H2 a = some (exo a C (some d)) ∧ H2 d = some (exd d fs) ∧ H1 d = none ∧ W (.ref C) (some d) σ (upd (del H2 a) d (.xd fs))) (fun _ _ _ => False)
theorem i_rz {K : PySem.W.Frag} {C : Addr} {te : TE} {W : WX} {D : Ends} {σ : St} {H : Hp} (h : te σ H fun v H1 => RzB K C W σ v H1) : tRz (tMkO C (sp_init_BadValue K C) [] (tCons te tNil)) W D σ H := h
instance s_rz {K : PySem.W.Frag} {C : Addr} {te : TE} {W : WX} {D : Ends} {σ : St} {H : Hp} : Stp (tRz (tMkO C (sp_init_BadValue K C) [] (tCons te tNil)) W D σ H) (te σ H fun v H1 => RzB K C W σ v H1) := ⟨i_rz⟩
theorem c_bad {K : PySem.W.Frag} {C : Addr} {W : WX} {σ : St} {v : V} {H1 : Hp} (hC : BvC K C) (h : ∀ d H', BadAt H' d v → Same H1 H' → W (.ref C) (some d) σ H') : RzB K C W σ v H1 := by
  refine ⟨by show 1 ≤ 1000; decide, fun a ha => ⟨a, v, rfl, upd_same, hC, fun d t1 t2 H2 h1 h2 h3 h4 h5 h6 => ⟨rfl, d, _, h1, h2, ?_, ?_⟩⟩⟩
  · by_cases e : d = a
    · rw [e, upd_same] at h5
      cases h5
    · rw [upd_ne e] at h5
      exact h5
  · have nda : d ≠ a := fun e => by
      rw [e, upd_same] at h5
      cases h5
    have hd1 : H1 d = none := by
      rw [upd_ne nda] at h5
      exact h5
    have n1 : t1 ≠ d := fun e => by
      rw [e, h2] at h3
      cases h3
    have n2 : t2 ≠ d := fun e => by
      rw [e, h2] at h4
      cases h4
    have m1 : t1 ≠ a := fun e => by
      rw [e, h1] at h3
      cases h3
    have m2 : t2 ≠ a := fun e => by
      rw [e, h1] at h4
      cases h4
    refine h d _ ⟨t1, t2, upd_same, ?_, ?_⟩ (fun b o hb => ?_)
    · rw [upd_ne n2, del_ne m2]
      exact h4
    · rw [upd_ne n1, del_ne m1]
      exact h3
    · have nb : b ≠ a := ne_of_none hb ha
      rw [upd_ne (ne_of_none hb hd1), del_ne nb]
      exact h6 b o nb (upd_off nb hb)
def sp_align_up : Sp := fun vs H Q _ => ∃ (n m : Int), vs = [.int n, .int m] ∧ 0 ≤ n ∧ n ≤ 1000000000 ∧ (∃ k : Nat, m = 2 ^ k) ∧ m ≤ 1073741824 ∧ Q (.int ((n + m - 1) / m * m)) H
theorem c_align_up {n m : Int} {H : Hp} {Q : VK} {E : XK} (h0 : 0 ≤ n) (h1 : n ≤ 1000000000) (h2 : ∃ k : Nat, m = 2 ^ k) (h3 : m ≤ 1073741824) (q : Q (.int ((n + m - 1) / m * m)) H) : sp_align_up [.int n, .int m] H Q E := ⟨n, m, rfl, h0, h1, h2, h3, q⟩
theorem vR_yes {lo hi i : Int} (h1 : lo ≤ i) (h2 : i ≤ hi) : vR lo hi (.int i) = true := by simp [vR, h1, h2]
theorem vA_yes {m i : Int} (h1 : ∃ k : Nat, i = 2 ^ k) (h2 : i ≤ m) : vA m (.int i) = true := vA_iff.mpr ⟨h1, h2⟩
def N_p_align_up : List Str := ["number", "align"]
def t_p_align_up (K : PySem.W.Frag) : TS := (tSeq (tIfS (tNot (tB (tCall (sp_whole_between K) [] E0 (tCons (tVar 0) (tCons (tC (.int 0)) (tCons (tC (.int 1000000000)) tNil)))))) tNever tNext)
  (tSeq (tIfS (tNot (tB (tCall (sp_is_align K) [] E0 (tCons (tVar 1) (tCons (tC (.int 1073741824)) tNil))))) tNever tNext)
  (tRet (tOp oMul (tOp oDiv (tOp oSub (tOp oAdd (tVar 0) (tVar 1)) (tC (.int 1))) (tVar 1)) (tVar 1)))))
theorem pure_align_up {K : PySem.W.Frag} {vs : List V} {H : Hp} {Q : VK} {E : XK} (h : sp_align_up vs H Q E) : t_p_align_up K { nx := fun _ H' => Q .non H', rt := Q } (start N_p_align_up vs) H := by
  obtain ⟨n, m, rfl, h0, h1, h2, h3, q⟩ := h
  unfold t_p_align_up
  fold_depth
  refine c_whole_between (.int _) ?_
  rw [vR_yes h0 h1]
  fold_lay; fold_depth
  refine c_is_align (.int _) ?_
  rw [vA_yes h2 h3]
  fold_lay
  obtain ⟨k, hk⟩ := h2
  have hp := two_pow_pos k
  refine i_div (cdiv (by omega) (by omega)) ?_
  fold_lay
  exact q
/-! ### marks.py -/
def sp_check_number (K : PySem.W.Frag) (c : Cl) : Sp := fun vs H Q E => ∃ (v : V) (n : String) (lo hi : Int) (p : Str), vs = [v, .int lo, .int hi, .str p] ∧ Ty0 H v n ∧ BvC K c.k_BadValue ∧
  (vR lo hi v = true → Q .non H) ∧ (vR lo hi v = false → ∀ d H', BadAt H' d (.str p) → Same H H' → E (.ref c.k_BadValue) (some d) H')
theorem c_check_number {K : PySem.W.Frag} {c : Cl} {v : V} {n : String} {lo hi : Int} {p : Str} {H : Hp} {Q : VK} {E : XK} (h : Ty0 H v n) (hC : BvC K c.k_BadValue) (h1 : vR lo hi v = true → Q .non H) (h2 : vR lo hi v = false → ∀ d H', BadAt H' d (.str p) → Same H H' → E (.ref c.k_BadValue) (some d) H') :
    sp_check_number K c [v, .int lo, .int hi, .str p] H Q E := ⟨v, n, lo, hi, p, rfl, h, hC, h1, h2⟩
def N_p_check_number : List Str := ["value", "low", "high", "parameter"]
def t_p_check_number (K : PySem.W.Frag) (c : Cl) (E : XK) : TS := (tIfS (tOr (tNot (tB (tCall (sp_is_whole K) [] E0 (tCons (tVar 0) tNil)))) (tOr (tTest (tOp oLt (tVar 0) (tVar 1))) (tTest (tOp oGt (tVar 0) (tVar 2))))) (tRz (tMkO c.k_BadValue (sp_init_BadValue K c.k_BadValue) [] (tCons (tVar 3) tNil)) (fun cls d _ H => E cls d H)) tNext)
theorem pure_check_number {K : PySem.W.Frag} {c : Cl} {vs : List V} {H : Hp} {Q : VK} {E : XK} (h : sp_check_number K c vs H Q E) : t_p_check_number K c E { nx := fun _ H' => Q .non H', rt := Q } (start N_p_check_number vs) H := by
  obtain ⟨v, n, lo, hi, p, rfl, ht, hC, k1, k2⟩ := h
  unfold t_p_check_number
  fold_lay
  refine c_is_whole ht ?_
  fold_lay
  refine i_ifb (fun h => ?_) (fun h => ?_)
  · have h : vI v = false := by simpa using h
    fold_lay
    exact c_bad hC (k2 (vR_no h))
  · have h : vI v = true := by simpa using h
    obtain ⟨i, rfl⟩ := vI_int h
    fold_lay
    refine i_ifd (fun h1 => ?_) (fun h1 => ?_)
    · fold_lay
      exact c_bad hC (k2 (by simp [vR]; omega))
    · fold_lay
      refine i_ifd (fun h2 => ?_) (fun h2 => ?_)
      · fold_lay
        exact c_bad hC (k2 (by simp [vR]; omega))
      · fold_lay
        exact k1 (vR_yes (by omega) (by omega))
def sp_check_align (K : PySem.W.Frag) (c : Cl) : Sp := fun vs H Q E => ∃ (v : V) (n : String), vs = [v] ∧ Ty0 H v n ∧ BvC K c.k_BadValue ∧
  (vA 4096 v = true → Q .non H) ∧ (vA 4096 v = false → ∀ d H', BadAt H' d (.str "align") → Same H H' → E (.ref c.k_BadValue) (some d) H')
theorem c_check_align {K : PySem.W.Frag} {c : Cl} {v : V} {n : String} {H : Hp} {Q : VK} {E : XK} (h : Ty0 H v n) (hC : BvC K c.k_BadValue) (h1 : vA 4096 v = true → Q .non H) (h2 : vA 4096 v = false → ∀ d H', BadAt H' d (.str "align") → Same H H' → E (.ref c.k_BadValue) (some d) H') :
    sp_check_align K c [v] H Q E := ⟨v, n, rfl, h, hC, h1, h2⟩
def N_p_check_align : List Str := ["value"]
def t_p_check_align (K : PySem.W.Frag) (c : Cl) (E : XK) : TS := (tIfS (tOr (tNot (tB (tCall (sp_is_power K) [] E0 (tCons (tVar 0) tNil)))) (tTest (tOp oGt (tVar 0) (tC (.int 4096))))) (tRz (tMkO c.k_BadValue (sp_init_BadValue K c.k_BadValue) [] (tCons (tC (.str "align")) tNil)) (fun cls d _ H => E cls d H)) tNext)
theorem pure_check_align {K : PySem.W.Frag} {c : Cl} {vs : List V} {H : Hp} {Q : VK} {E : XK} (h : sp_check_align K c vs H Q E) : t_p_check_align K c E { nx := fun _ H' => Q .non H', rt := Q } (start N_p_check_align vs) H := by
  obtain ⟨v, n, rfl, ht, hC, k1, k2⟩ := h
  unfold t_p_check_align
  fold_lay
  refine c_is_power ht ?_
  fold_lay
  refine i_ifb (fun h => ?_) (fun h => ?_)
  · have h : vP v = false := by simpa using h
    fold_lay
    exact c_bad hC (k2 (vA_no h))
  · have h : vP v = true := by simpa using h
    obtain ⟨i, rfl⟩ := vP_int h
    fold_lay
    refine i_ifd (fun h1 => ?_) (fun h1 => ?_)
    · fold_lay
      refine c_bad hC (k2 ?_)
      show (vP (.int i) && decide (i ≤ 4096)) = false
      rw [decide_eq_false (by omega), Bool.and_false]
    · fold_lay
      refine k1 ?_
      show (vP (.int i) && decide (i ≤ 4096)) = true
      rw [decide_eq_true (by omega), h]
      rfl
/-! ## Inits -/
/-! ### the other refusals: how they are made -/
/-- the dict of a refusal at d: its fields (last first), and what is told -/
def ErAt (H : Hp) (d : Addr) (nm : Str) (fs : List (Str × V)) (vs : List V) : Prop := ∃ t1 t2, H d = some (.xd (("told", .ref t2) :: fs)) ∧ H t2 = some (.tup [.str nm, .ref t1]) ∧ H t1 = some (.tup vs)
/-- what __init__ promises of a refusal nm, its fields (last first) and values -/
def InitQ (e C : Addr) (nm : Str) (fs : List (Str × V)) (vs : List V) (H : Hp) (Q : VK) : Prop := ∀ (d t1 t2 : Addr) H', H' e = some (exo e C (some d)) → H' d = some (exd d (("told", .ref t2) :: fs)) → H' t1 = some (.tup vs) → H' t2 = some (.tup [.str nm, .ref t1]) → H d = none → (∀ b o, b ≠ e → H b = some o → H' b = some o) → Q .non H'
/-- C(..): what is asked of the values -/
def MkE (C : Addr) (sp : Sp) (vs : List V) (Q : XK) (H1 : Hp) : Prop := vs.length ≤ 1000 ∧ ∀ a, H1 a = none → sp (.ref a :: (vs ++ [])) (upd H1 a (exo a C none))
  (fun u H2 => u = .non ∧ ∃ (d : Addr) (fs : List (Str × V)), H2 a = some (exo a C (some d)) ∧ H2 d = some (exd d fs) ∧ H1 d = none ∧ Q (.ref C) (some d) (upd (del H2 a) d (.xd fs))) (fun _ _ _ => False)
instance s_mkE {C : Addr} {sp : Sp} {ta : TA} {σ : St} {H : Hp} {Q : XK} : Stp (tMkO C sp [] ta σ H Q) (ta σ H fun vs H1 => MkE C sp vs Q H1) := ⟨fun h => h⟩
theorem i_rzE {C : Addr} {sp : Sp} {ta : TA} {W : WX} {D : Ends} {σ : St} {H : Hp} (h : ta σ H fun vs H1 => MkE C sp vs (fun cls d H' => W cls d σ H') H1) : tRz (tMkO C sp [] ta) W D σ H := h
theorem c_mkE {C : Addr} {sp : Sp} {nm : Str} {fs : List (Str × V)} {vs : List V} {Q : XK} {H1 : Hp} (hv : vs.length ≤ 1000) (hs : ∀ (a : Addr) (H : Hp) (Q : VK), H a = some (exo a C none) → InitQ a C nm fs vs H Q → sp (.ref a :: (vs ++ [])) H Q (fun _ _ _ => False)) (h : ∀ d H', ErAt H' d nm fs vs → Same H1 H' → H1 d = none → Q (.ref C) (some d) H') : MkE C sp vs Q H1 := by
  refine ⟨hv, fun a ha => hs a _ _ upd_same fun d t1 t2 H2 h1 h2 h3 h4 h5 h6 => ?_⟩
  have nda : d ≠ a := fun e => by
    rw [e, upd_same] at h5
    cases h5
  have hd1 : H1 d = none := by
    rw [upd_ne nda] at h5
    exact h5
  refine ⟨rfl, d, _, h1, h2, hd1, ?_⟩
  have n1 : t1 ≠ d := fun e => by
    rw [e, h2] at h3
    cases h3
  have n2 : t2 ≠ d := fun e => by
    rw [e, h2] at h4
    cases h4
  have m1 : t1 ≠ a := fun e => by
    rw [e, h1] at h3
    cases h3
  have m2 : t2 ≠ a := fun e => by
    rw [e, h1] at h4
    cases h4
  refine h d _ ⟨t1, t2, upd_same, ?_, ?_⟩ (fun b o hb => ?_) hd1
  · rw [upd_ne n2, del_ne m2]
    exact h4
  · rw [upd_ne n1, del_ne m1]
    exact h3
  · have nb : b ≠ a := ne_of_none hb ha
    rw [upd_ne (ne_of_none hb hd1), del_ne nb]
    exact h6 b o nb (upd_off nb hb)

def sp_init_Broken (K : PySem.W.Frag) (C : Addr) : Sp := fun vs H Q _ => ∃ (e : Addr) (v1 v2 v3 : V), vs = [.ref e, v1, v2, v3] ∧ H e = some (exo e C none) ∧ ErC K C ["told", "place", "found", "due"] ∧ InitQ e C "Broken" [("due", v3), ("found", v2), ("place", v1)] [v1, v2, v3] H Q
def N_c_Broken_init : List Str := ["self", "place", "found", "due"]
def t_c_Broken_init (K : PySem.W.Frag) : TS := (tSeq (tOst K "place" (tVar 0) (tVar 1))
  (tSeq (tOst K "found" (tVar 0) (tVar 2))
  (tSeq (tOst K "due" (tVar 0) (tVar 3))
  (tOst K "told" (tVar 0) (tTup (tCons (tC (.str "Broken")) (tCons (tTup (tCons (tVar 1) (tCons (tVar 2) (tCons (tVar 3) tNil)))) tNil)))))))
theorem pure_init_Broken {K : PySem.W.Frag} {C : Addr} {vs : List V} {H : Hp} {Q : VK} {E : XK} (h : sp_init_Broken K C vs H Q E) : t_c_Broken_init K { nx := fun _ H' => Q .non H', rt := Q } (start N_c_Broken_init vs) H := by
  obtain ⟨e, v1, v2, v3, rfl, he, hC, k⟩ := h
  unfold t_c_Broken_init
  refine i_seq ?_
  refine ⟨v1, rfl, .ref e, rfl, e, C, rfl, hC.ox, hC.nf "place" (by simp), .inl ⟨he, fun d hd ne => ?_⟩⟩
  have ne2 : e ≠ d := Ne.symm ne
  refine i_seq ?_
  refine ⟨v2, rfl, .ref e, rfl, e, C, rfl, hC.ox, hC.nf "found" (by simp), .inr ⟨d, [("place", v1)], by kct_strs, by kct_strs, by simp, ?_⟩⟩
  refine i_seq ?_
  refine ⟨v3, rfl, .ref e, rfl, e, C, rfl, hC.ox, hC.nf "due" (by simp), .inr ⟨d, [("found", v2), ("place", v1)], by kct_strs, by kct_strs, by simp, ?_⟩⟩
  refine ⟨v1, rfl, ?_⟩
  refine ⟨v2, rfl, ?_⟩
  refine ⟨v3, rfl, ?_⟩
  refine ⟨sz (by simp), fun t1 ht1 => ?_⟩
  refine ⟨sz (by simp), fun t2 ht2 => ?_⟩
  have g1 : (upd (upd (upd (upd H d (exd d [("place", v1)])) e (exo e C (some d))) d (exd d [("found", v2), ("place", v1)])) d (exd d [("due", v3), ("found", v2), ("place", v1)])) d = some (exd d [("due", v3), ("found", v2), ("place", v1)]) := by kct_strs
  have g2 : (upd (upd (upd (upd H d (exd d [("place", v1)])) e (exo e C (some d))) d (exd d [("found", v2), ("place", v1)])) d (exd d [("due", v3), ("found", v2), ("place", v1)])) e = some (exo e C (some d)) := by kct_strs
  have n1 : t1 ≠ d := Ne.symm (ne_of_none g1 ht1)
  have n3 : t1 ≠ e := Ne.symm (ne_of_none g2 ht1)
  have n2 : t2 ≠ d := Ne.symm (ne_of_none (upd_keep ht1 g1) ht2)
  have n4 : t2 ≠ e := Ne.symm (ne_of_none (upd_keep ht1 g2) ht2)
  have nt : t1 ≠ t2 := ne_of_none upd_same ht2
  refine ⟨.ref e, rfl, e, C, rfl, hC.ox, hC.nf "told" (by simp), .inr ⟨d, [("due", v3), ("found", v2), ("place", v1)], upd_keep ht2 (upd_keep ht1 g2), upd_keep ht2 (upd_keep ht1 g1), by simp, ?_⟩⟩
  refine k d t1 t2 _ (upd_off ne2 (upd_keep ht2 (upd_keep ht1 g2))) upd_same (upd_off n1 (upd_keep ht2 upd_same)) (upd_off n2 upd_same) hd fun b o nb hb => ?_
  have nd : b ≠ d := ne_of_none hb hd
  have h2 : (upd (upd (upd (upd H d (exd d [("place", v1)])) e (exo e C (some d))) d (exd d [("found", v2), ("place", v1)])) d (exd d [("due", v3), ("found", v2), ("place", v1)])) b = some o := by kct_strs
  exact upd_off nd (upd_keep ht2 (upd_keep ht1 h2))
def sp_init_Unknown (K : PySem.W.Frag) (C : Addr) : Sp := fun vs H Q _ => ∃ (e : Addr) (v1 : V), vs = [.ref e, v1] ∧ H e = some (exo e C none) ∧ ErC K C ["told", "parameter"] ∧ InitQ e C "Unknown" [("parameter", v1)] [v1] H Q
def N_c_Unknown_init : List Str := ["self", "parameter"]
def t_c_Unknown_init (K : PySem.W.Frag) : TS := (tSeq (tOst K "parameter" (tVar 0) (tVar 1))
  (tOst K "told" (tVar 0) (tTup (tCons (tC (.str "Unknown")) (tCons (tTup (tCons (tVar 1) tNil)) tNil)))))
theorem pure_init_Unknown {K : PySem.W.Frag} {C : Addr} {vs : List V} {H : Hp} {Q : VK} {E : XK} (h : sp_init_Unknown K C vs H Q E) : t_c_Unknown_init K { nx := fun _ H' => Q .non H', rt := Q } (start N_c_Unknown_init vs) H := by
  obtain ⟨e, v1, rfl, he, hC, k⟩ := h
  unfold t_c_Unknown_init
  refine i_seq ?_
  refine ⟨v1, rfl, .ref e, rfl, e, C, rfl, hC.ox, hC.nf "parameter" (by simp), .inl ⟨he, fun d hd ne => ?_⟩⟩
  have ne2 : e ≠ d := Ne.symm ne
  refine ⟨v1, rfl, ?_⟩
  refine ⟨sz (by simp), fun t1 ht1 => ?_⟩
  refine ⟨sz (by simp), fun t2 ht2 => ?_⟩
  have g1 : (upd (upd H d (exd d [("parameter", v1)])) e (exo e C (some d))) d = some (exd d [("parameter", v1)]) := by kct_strs
  have g2 : (upd (upd H d (exd d [("parameter", v1)])) e (exo e C (some d))) e = some (exo e C (some d)) := by kct_strs
  have n1 : t1 ≠ d := Ne.symm (ne_of_none g1 ht1)
  have n3 : t1 ≠ e := Ne.symm (ne_of_none g2 ht1)
  have n2 : t2 ≠ d := Ne.symm (ne_of_none (upd_keep ht1 g1) ht2)
  have n4 : t2 ≠ e := Ne.symm (ne_of_none (upd_keep ht1 g2) ht2)
  have nt : t1 ≠ t2 := ne_of_none upd_same ht2
  refine ⟨.ref e, rfl, e, C, rfl, hC.ox, hC.nf "told" (by simp), .inr ⟨d, [("parameter", v1)], upd_keep ht2 (upd_keep ht1 g2), upd_keep ht2 (upd_keep ht1 g1), by simp, ?_⟩⟩
  refine k d t1 t2 _ (upd_off ne2 (upd_keep ht2 (upd_keep ht1 g2))) upd_same (upd_off n1 (upd_keep ht2 upd_same)) (upd_off n2 upd_same) hd fun b o nb hb => ?_
  have nd : b ≠ d := ne_of_none hb hd
  have h2 : (upd (upd H d (exd d [("parameter", v1)])) e (exo e C (some d))) b = some o := by kct_strs
  exact upd_off nd (upd_keep ht2 (upd_keep ht1 h2))
def sp_init_NotHeld (K : PySem.W.Frag) (C : Addr) : Sp := fun vs H Q _ => ∃ (e : Addr) (v1 v2 : V), vs = [.ref e, v1, v2] ∧ H e = some (exo e C none) ∧ ErC K C ["told", "place", "found"] ∧ InitQ e C "NotHeld" [("found", v2), ("place", v1)] [v1, v2] H Q
def N_c_NotHeld_init : List Str := ["self", "place", "found"]
def t_c_NotHeld_init (K : PySem.W.Frag) : TS := (tSeq (tOst K "place" (tVar 0) (tVar 1))
  (tSeq (tOst K "found" (tVar 0) (tVar 2))
  (tOst K "told" (tVar 0) (tTup (tCons (tC (.str "NotHeld")) (tCons (tTup (tCons (tVar 1) (tCons (tVar 2) tNil))) tNil))))))
theorem pure_init_NotHeld {K : PySem.W.Frag} {C : Addr} {vs : List V} {H : Hp} {Q : VK} {E : XK} (h : sp_init_NotHeld K C vs H Q E) : t_c_NotHeld_init K { nx := fun _ H' => Q .non H', rt := Q } (start N_c_NotHeld_init vs) H := by
  obtain ⟨e, v1, v2, rfl, he, hC, k⟩ := h
  unfold t_c_NotHeld_init
  refine i_seq ?_
  refine ⟨v1, rfl, .ref e, rfl, e, C, rfl, hC.ox, hC.nf "place" (by simp), .inl ⟨he, fun d hd ne => ?_⟩⟩
  have ne2 : e ≠ d := Ne.symm ne
  refine i_seq ?_
  refine ⟨v2, rfl, .ref e, rfl, e, C, rfl, hC.ox, hC.nf "found" (by simp), .inr ⟨d, [("place", v1)], by kct_strs, by kct_strs, by simp, ?_⟩⟩
  refine ⟨v1, rfl, ?_⟩
  refine ⟨v2, rfl, ?_⟩
  refine ⟨sz (by simp), fun t1 ht1 => ?_⟩
  refine ⟨sz (by simp), fun t2 ht2 => ?_⟩
  have g1 : (upd (upd (upd H d (exd d [("place", v1)])) e (exo e C (some d))) d (exd d [("found", v2), ("place", v1)])) d = some (exd d [("found", v2), ("place", v1)]) := by kct_strs
  have g2 : (upd (upd (upd H d (exd d [("place", v1)])) e (exo e C (some d))) d (exd d [("found", v2), ("place", v1)])) e = some (exo e C (some d)) := by kct_strs
  have n1 : t1 ≠ d := Ne.symm (ne_of_none g1 ht1)
  have n3 : t1 ≠ e := Ne.symm (ne_of_none g2 ht1)
  have n2 : t2 ≠ d := Ne.symm (ne_of_none (upd_keep ht1 g1) ht2)
  have n4 : t2 ≠ e := Ne.symm (ne_of_none (upd_keep ht1 g2) ht2)
  have nt : t1 ≠ t2 := ne_of_none upd_same ht2
  refine ⟨.ref e, rfl, e, C, rfl, hC.ox, hC.nf "told" (by simp), .inr ⟨d, [("found", v2), ("place", v1)], upd_keep ht2 (upd_keep ht1 g2), upd_keep ht2 (upd_keep ht1 g1), by simp, ?_⟩⟩
  refine k d t1 t2 _ (upd_off ne2 (upd_keep ht2 (upd_keep ht1 g2))) upd_same (upd_off n1 (upd_keep ht2 upd_same)) (upd_off n2 upd_same) hd fun b o nb hb => ?_
  have nd : b ≠ d := ne_of_none hb hd
  have h2 : (upd (upd (upd H d (exd d [("place", v1)])) e (exo e C (some d))) d (exd d [("found", v2), ("place", v1)])) b = some o := by kct_strs
  exact upd_off nd (upd_keep ht2 (upd_keep ht1 h2))
def sp_init_Fault (K : PySem.W.Frag) (C : Addr) : Sp := fun vs H Q _ => ∃ (e : Addr) (v1 v2 : V), vs = [.ref e, v1, v2] ∧ H e = some (exo e C none) ∧ ErC K C ["told", "kind", "place"] ∧ InitQ e C "Fault" [("place", v2), ("kind", v1)] [v1, v2] H Q
def N_c_Fault_init : List Str := ["self", "kind", "place"]
def t_c_Fault_init (K : PySem.W.Frag) : TS := (tSeq (tOst K "kind" (tVar 0) (tVar 1))
  (tSeq (tOst K "place" (tVar 0) (tVar 2))
  (tOst K "told" (tVar 0) (tTup (tCons (tC (.str "Fault")) (tCons (tTup (tCons (tVar 1) (tCons (tVar 2) tNil))) tNil))))))
theorem pure_init_Fault {K : PySem.W.Frag} {C : Addr} {vs : List V} {H : Hp} {Q : VK} {E : XK} (h : sp_init_Fault K C vs H Q E) : t_c_Fault_init K { nx := fun _ H' => Q .non H', rt := Q } (start N_c_Fault_init vs) H := by
  obtain ⟨e, v1, v2, rfl, he, hC, k⟩ := h
  unfold t_c_Fault_init
  refine i_seq ?_
  refine ⟨v1, rfl, .ref e, rfl, e, C, rfl, hC.ox, hC.nf "kind" (by simp), .inl ⟨he, fun d hd ne => ?_⟩⟩
  have ne2 : e ≠ d := Ne.symm ne
  refine i_seq ?_
  refine ⟨v2, rfl, .ref e, rfl, e, C, rfl, hC.ox, hC.nf "place" (by simp), .inr ⟨d, [("kind", v1)], by kct_strs, by kct_strs, by simp, ?_⟩⟩
  refine ⟨v1, rfl, ?_⟩
  refine ⟨v2, rfl, ?_⟩
  refine ⟨sz (by simp), fun t1 ht1 => ?_⟩
  refine ⟨sz (by simp), fun t2 ht2 => ?_⟩
  have g1 : (upd (upd (upd H d (exd d [("kind", v1)])) e (exo e C (some d))) d (exd d [("place", v2), ("kind", v1)])) d = some (exd d [("place", v2), ("kind", v1)]) := by kct_strs
  have g2 : (upd (upd (upd H d (exd d [("kind", v1)])) e (exo e C (some d))) d (exd d [("place", v2), ("kind", v1)])) e = some (exo e C (some d)) := by kct_strs
  have n1 : t1 ≠ d := Ne.symm (ne_of_none g1 ht1)
  have n3 : t1 ≠ e := Ne.symm (ne_of_none g2 ht1)
  have n2 : t2 ≠ d := Ne.symm (ne_of_none (upd_keep ht1 g1) ht2)
  have n4 : t2 ≠ e := Ne.symm (ne_of_none (upd_keep ht1 g2) ht2)
  have nt : t1 ≠ t2 := ne_of_none upd_same ht2
  refine ⟨.ref e, rfl, e, C, rfl, hC.ox, hC.nf "told" (by simp), .inr ⟨d, [("place", v2), ("kind", v1)], upd_keep ht2 (upd_keep ht1 g2), upd_keep ht2 (upd_keep ht1 g1), by simp, ?_⟩⟩
  refine k d t1 t2 _ (upd_off ne2 (upd_keep ht2 (upd_keep ht1 g2))) upd_same (upd_off n1 (upd_keep ht2 upd_same)) (upd_off n2 upd_same) hd fun b o nb hb => ?_
  have nd : b ≠ d := ne_of_none hb hd
  have h2 : (upd (upd (upd H d (exd d [("kind", v1)])) e (exo e C (some d))) d (exd d [("place", v2), ("kind", v1)])) b = some o := by kct_strs
  exact upd_off nd (upd_keep ht2 (upd_keep ht1 h2))
def sp_init_NoRoom (K : PySem.W.Frag) (C : Addr) : Sp := fun vs H Q _ => ∃ (e : Addr) (v1 : V), vs = [.ref e, v1] ∧ H e = some (exo e C none) ∧ ErC K C ["told", "paper"] ∧ InitQ e C "NoRoom" [("paper", v1)] [v1] H Q
def N_c_NoRoom_init : List Str := ["self", "paper"]
def t_c_NoRoom_init (K : PySem.W.Frag) : TS := (tSeq (tOst K "paper" (tVar 0) (tVar 1))
  (tOst K "told" (tVar 0) (tTup (tCons (tC (.str "NoRoom")) (tCons (tTup (tCons (tVar 1) tNil)) tNil)))))
theorem pure_init_NoRoom {K : PySem.W.Frag} {C : Addr} {vs : List V} {H : Hp} {Q : VK} {E : XK} (h : sp_init_NoRoom K C vs H Q E) : t_c_NoRoom_init K { nx := fun _ H' => Q .non H', rt := Q } (start N_c_NoRoom_init vs) H := by
  obtain ⟨e, v1, rfl, he, hC, k⟩ := h
  unfold t_c_NoRoom_init
  refine i_seq ?_
  refine ⟨v1, rfl, .ref e, rfl, e, C, rfl, hC.ox, hC.nf "paper" (by simp), .inl ⟨he, fun d hd ne => ?_⟩⟩
  have ne2 : e ≠ d := Ne.symm ne
  refine ⟨v1, rfl, ?_⟩
  refine ⟨sz (by simp), fun t1 ht1 => ?_⟩
  refine ⟨sz (by simp), fun t2 ht2 => ?_⟩
  have g1 : (upd (upd H d (exd d [("paper", v1)])) e (exo e C (some d))) d = some (exd d [("paper", v1)]) := by kct_strs
  have g2 : (upd (upd H d (exd d [("paper", v1)])) e (exo e C (some d))) e = some (exo e C (some d)) := by kct_strs
  have n1 : t1 ≠ d := Ne.symm (ne_of_none g1 ht1)
  have n3 : t1 ≠ e := Ne.symm (ne_of_none g2 ht1)
  have n2 : t2 ≠ d := Ne.symm (ne_of_none (upd_keep ht1 g1) ht2)
  have n4 : t2 ≠ e := Ne.symm (ne_of_none (upd_keep ht1 g2) ht2)
  have nt : t1 ≠ t2 := ne_of_none upd_same ht2
  refine ⟨.ref e, rfl, e, C, rfl, hC.ox, hC.nf "told" (by simp), .inr ⟨d, [("paper", v1)], upd_keep ht2 (upd_keep ht1 g2), upd_keep ht2 (upd_keep ht1 g1), by simp, ?_⟩⟩
  refine k d t1 t2 _ (upd_off ne2 (upd_keep ht2 (upd_keep ht1 g2))) upd_same (upd_off n1 (upd_keep ht2 upd_same)) (upd_off n2 upd_same) hd fun b o nb hb => ?_
  have nd : b ≠ d := ne_of_none hb hd
  have h2 : (upd (upd H d (exd d [("paper", v1)])) e (exo e C (some d))) b = some o := by kct_strs
  exact upd_off nd (upd_keep ht2 (upd_keep ht1 h2))
def sp_init_Cut (K : PySem.W.Frag) (C : Addr) : Sp := fun vs H Q _ => ∃ (e : Addr) (v1 v2 : V), vs = [.ref e, v1, v2] ∧ H e = some (exo e C none) ∧ ErC K C ["told", "needed", "left"] ∧ InitQ e C "Cut" [("left", v2), ("needed", v1)] [v1, v2] H Q
def N_c_Cut_init : List Str := ["self", "needed", "left"]
def t_c_Cut_init (K : PySem.W.Frag) : TS := (tSeq (tOst K "needed" (tVar 0) (tVar 1))
  (tSeq (tOst K "left" (tVar 0) (tVar 2))
  (tOst K "told" (tVar 0) (tTup (tCons (tC (.str "Cut")) (tCons (tTup (tCons (tVar 1) (tCons (tVar 2) tNil))) tNil))))))
theorem pure_init_Cut {K : PySem.W.Frag} {C : Addr} {vs : List V} {H : Hp} {Q : VK} {E : XK} (h : sp_init_Cut K C vs H Q E) : t_c_Cut_init K { nx := fun _ H' => Q .non H', rt := Q } (start N_c_Cut_init vs) H := by
  obtain ⟨e, v1, v2, rfl, he, hC, k⟩ := h
  unfold t_c_Cut_init
  refine i_seq ?_
  refine ⟨v1, rfl, .ref e, rfl, e, C, rfl, hC.ox, hC.nf "needed" (by simp), .inl ⟨he, fun d hd ne => ?_⟩⟩
  have ne2 : e ≠ d := Ne.symm ne
  refine i_seq ?_
  refine ⟨v2, rfl, .ref e, rfl, e, C, rfl, hC.ox, hC.nf "left" (by simp), .inr ⟨d, [("needed", v1)], by kct_strs, by kct_strs, by simp, ?_⟩⟩
  refine ⟨v1, rfl, ?_⟩
  refine ⟨v2, rfl, ?_⟩
  refine ⟨sz (by simp), fun t1 ht1 => ?_⟩
  refine ⟨sz (by simp), fun t2 ht2 => ?_⟩
  have g1 : (upd (upd (upd H d (exd d [("needed", v1)])) e (exo e C (some d))) d (exd d [("left", v2), ("needed", v1)])) d = some (exd d [("left", v2), ("needed", v1)]) := by kct_strs
  have g2 : (upd (upd (upd H d (exd d [("needed", v1)])) e (exo e C (some d))) d (exd d [("left", v2), ("needed", v1)])) e = some (exo e C (some d)) := by kct_strs
  have n1 : t1 ≠ d := Ne.symm (ne_of_none g1 ht1)
  have n3 : t1 ≠ e := Ne.symm (ne_of_none g2 ht1)
  have n2 : t2 ≠ d := Ne.symm (ne_of_none (upd_keep ht1 g1) ht2)
  have n4 : t2 ≠ e := Ne.symm (ne_of_none (upd_keep ht1 g2) ht2)
  have nt : t1 ≠ t2 := ne_of_none upd_same ht2
  refine ⟨.ref e, rfl, e, C, rfl, hC.ox, hC.nf "told" (by simp), .inr ⟨d, [("left", v2), ("needed", v1)], upd_keep ht2 (upd_keep ht1 g2), upd_keep ht2 (upd_keep ht1 g1), by simp, ?_⟩⟩
  refine k d t1 t2 _ (upd_off ne2 (upd_keep ht2 (upd_keep ht1 g2))) upd_same (upd_off n1 (upd_keep ht2 upd_same)) (upd_off n2 upd_same) hd fun b o nb hb => ?_
  have nd : b ≠ d := ne_of_none hb hd
  have h2 : (upd (upd (upd H d (exd d [("needed", v1)])) e (exo e C (some d))) d (exd d [("left", v2), ("needed", v1)])) b = some o := by kct_strs
  exact upd_off nd (upd_keep ht2 (upd_keep ht1 h2))
def sp_init_BadLine (K : PySem.W.Frag) (C : Addr) : Sp := fun vs H Q _ => ∃ (e : Addr) (v1 v2 : V), vs = [.ref e, v1, v2] ∧ H e = some (exo e C none) ∧ ErC K C ["told", "line", "column"] ∧ InitQ e C "BadLine" [("column", v2), ("line", v1)] [v1, v2] H Q
def N_c_BadLine_init : List Str := ["self", "line", "column"]
def t_c_BadLine_init (K : PySem.W.Frag) : TS := (tSeq (tOst K "line" (tVar 0) (tVar 1))
  (tSeq (tOst K "column" (tVar 0) (tVar 2))
  (tOst K "told" (tVar 0) (tTup (tCons (tC (.str "BadLine")) (tCons (tTup (tCons (tVar 1) (tCons (tVar 2) tNil))) tNil))))))
theorem pure_init_BadLine {K : PySem.W.Frag} {C : Addr} {vs : List V} {H : Hp} {Q : VK} {E : XK} (h : sp_init_BadLine K C vs H Q E) : t_c_BadLine_init K { nx := fun _ H' => Q .non H', rt := Q } (start N_c_BadLine_init vs) H := by
  obtain ⟨e, v1, v2, rfl, he, hC, k⟩ := h
  unfold t_c_BadLine_init
  refine i_seq ?_
  refine ⟨v1, rfl, .ref e, rfl, e, C, rfl, hC.ox, hC.nf "line" (by simp), .inl ⟨he, fun d hd ne => ?_⟩⟩
  have ne2 : e ≠ d := Ne.symm ne
  refine i_seq ?_
  refine ⟨v2, rfl, .ref e, rfl, e, C, rfl, hC.ox, hC.nf "column" (by simp), .inr ⟨d, [("line", v1)], by kct_strs, by kct_strs, by simp, ?_⟩⟩
  refine ⟨v1, rfl, ?_⟩
  refine ⟨v2, rfl, ?_⟩
  refine ⟨sz (by simp), fun t1 ht1 => ?_⟩
  refine ⟨sz (by simp), fun t2 ht2 => ?_⟩
  have g1 : (upd (upd (upd H d (exd d [("line", v1)])) e (exo e C (some d))) d (exd d [("column", v2), ("line", v1)])) d = some (exd d [("column", v2), ("line", v1)]) := by kct_strs
  have g2 : (upd (upd (upd H d (exd d [("line", v1)])) e (exo e C (some d))) d (exd d [("column", v2), ("line", v1)])) e = some (exo e C (some d)) := by kct_strs
  have n1 : t1 ≠ d := Ne.symm (ne_of_none g1 ht1)
  have n3 : t1 ≠ e := Ne.symm (ne_of_none g2 ht1)
  have n2 : t2 ≠ d := Ne.symm (ne_of_none (upd_keep ht1 g1) ht2)
  have n4 : t2 ≠ e := Ne.symm (ne_of_none (upd_keep ht1 g2) ht2)
  have nt : t1 ≠ t2 := ne_of_none upd_same ht2
  refine ⟨.ref e, rfl, e, C, rfl, hC.ox, hC.nf "told" (by simp), .inr ⟨d, [("column", v2), ("line", v1)], upd_keep ht2 (upd_keep ht1 g2), upd_keep ht2 (upd_keep ht1 g1), by simp, ?_⟩⟩
  refine k d t1 t2 _ (upd_off ne2 (upd_keep ht2 (upd_keep ht1 g2))) upd_same (upd_off n1 (upd_keep ht2 upd_same)) (upd_off n2 upd_same) hd fun b o nb hb => ?_
  have nd : b ≠ d := ne_of_none hb hd
  have h2 : (upd (upd (upd H d (exd d [("line", v1)])) e (exo e C (some d))) d (exd d [("column", v2), ("line", v1)])) b = some o := by kct_strs
  exact upd_off nd (upd_keep ht2 (upd_keep ht1 h2))
/-! ## Alike -/
/-! ### alike: two data that are one -/
mutual
def Dt.flat : Dt → Bool
  | .lst l => decide (l.length ≤ 10000) && Dt.flatL l
  | .tup l => decide (l.length ≤ 10000) && Dt.flatL l
  | .dic _ => false
  | _ => true
def Dt.flatL : List Dt → Bool
  | [] => true
  | d :: r => d.flat && Dt.flatL r
end
theorem flatL_get : ∀ {l : List Dt} {i : Nat} {d : Dt}, Dt.flatL l = true → l[i]? = some d → d.flat = true
  | [], _, _, _, h => by simp at h
  | x :: r, 0, d, h, e => by
    simp at e
    subst e
    exact (Bool.and_eq_true_iff.mp (by simpa [Dt.flatL] using h)).1
  | x :: r, i + 1, d, h, e => flatL_get (l := r) (i := i) (Bool.and_eq_true_iff.mp (by simpa [Dt.flatL] using h)).2 (by simpa using e)
theorem depL_get : ∀ {l : List Dt} {i : Nat} {d : Dt}, l[i]? = some d → d.dep ≤ Dt.depL l
  | [], _, _, h => by simp at h
  | x :: r, 0, d, e => by
    simp at e
    subst e
    simp only [Dt.depL]
    omega
  | x :: r, i + 1, d, e => by
    have := depL_get (l := r) (i := i) (d := d) (by simpa using e)
    simp only [Dt.depL]
    omega
def sp_alike : Nat → Sp
  | 0 => fun _ _ _ _ => False
  | n + 1 => fun vs H Q _ => ∃ (va vb : V) (d : Dt), vs = [va, vb] ∧ At H va d ∧ At H vb d ∧ d.dep ≤ n ∧ d.flat = true ∧ ∀ H', Same H H' → Q (.bl true) H'
theorem c_alike {n : Nat} {va vb : V} {d : Dt} {H : Hp} {Q : VK} {E : XK} (h1 : At H va d) (h2 : At H vb d) (h3 : d.dep ≤ n) (h4 : d.flat = true) (h : ∀ H', Same H H' → Q (.bl true) H') : sp_alike (n + 1) [va, vb] H Q E := ⟨va, vb, d, rfl, h1, h2, h3, h4, h⟩
/-- bools compared -/
theorem i_neB {a b : Bool} {H : Hp} {Q : VK} (q : Q (.bl (a != b)) H) : rNe (.bl a) (.bl b) H Q := ⟨rfl, by
  have e : (!decide (V.bl a = V.bl b)) = (a != b) := by cases a <;> cases b <;> rfl
  rw [e]
  exact q⟩
instance s_neB {a b : Bool} {H : Hp} {Q : VK} : Stp (rNe (.bl a) (.bl b) H Q) (Q (.bl (a != b)) H) := ⟨i_neB⟩
theorem i_eqB {a b : Bool} {H : Hp} {Q : VK} (q : Q (.bl (a == b)) H) : rEq (.bl a) (.bl b) H Q := ⟨rfl, by
  have e : decide (V.bl a = V.bl b) = (a == b) := by cases a <;> cases b <;> rfl
  rw [e]
  exact q⟩
instance s_eqB {a b : Bool} {H : Hp} {Q : VK} : Stp (rEq (.bl a) (.bl b) H Q) (Q (.bl (a == b)) H) := ⟨i_eqB⟩
theorem i_ixSL {K : PySem.W.Frag} {H : Hp} {Q : VK} {p : Addr} {xs : List V} {i : Int} {v : V} (h : SqL K H p xs) (e : atI xs i = some v) (q : Q v H) : rIx K (.ref p) (.int i) H Q := .inl (i_ixL h e q)
theorem i_ixST {K : PySem.W.Frag} {H : Hp} {Q : VK} {p : Addr} {xs : List V} {i : Int} {v : V} (h : SqT K H p xs) (e : atI xs i = some v) (q : Q v H) : rIx K (.ref p) (.int i) H Q := .inr (.inl (i_ixT h e q))
theorem i_all {K : PySem.W.Frag} {H : Hp} {Q : VK} {a : Addr} {m : Nat} (h : H a = some (.lst (List.replicate m (.bl true)))) (q : Q (.bl true) H) : rAll K [.ref a] H Q := by
  refine ⟨a, List.replicate m true, rfl, sqL (by rw [List.map_replicate]; exact h), ?_⟩
  rw [List.all_replicate]
  cases m <;> exact q
theorem nz {x : V} (h : x ≠ .non) : ¬ (x = .non) := h
def N_l_alike : List Str := ["_law_actual", "_law_due_here", "_law_k"]
def t_l_alike (K : PySem.W.Frag) (n : Nat) : TS := (tSeq (tIfS (tOr (tTest (tOp oIsN (tVar 1) (tC .non))) (tTest (tOp oIsN (tVar 0) (tC .non)))) (tRet (tAndV (tOp oIsN (tVar 1) (tC .non)) (tOp oIsN (tVar 0) (tC .non)))) tNext)
  (tSeq (tIfS (tOr (tB (tCB (rIsi K) (tCons (tVar 1) (tCons (tC (.ty "list")) tNil)))) (tB (tCB (rIsi K) (tCons (tVar 1) (tCons (tC (.ty "tuple")) tNil))))) (tSeq (tIfS (tOr (tTest (tOp rNe (tCB (rIsi K) (tCons (tVar 0) (tCons (tC (.ty "list")) tNil))) (tCB (rIsi K) (tCons (tVar 1) (tCons (tC (.ty "list")) tNil))))) (tTest (tOp rNe (tCB (rIsi K) (tCons (tVar 0) (tCons (tC (.ty "tuple")) tNil))) (tCB (rIsi K) (tCons (tVar 1) (tCons (tC (.ty "tuple")) tNil)))))) (tRet (tC (.bl false))) tNext)
  (tRet (tAndV (tOp rEq (tCB (rLen K) (tCons (tVar 0) tNil)) (tCB (rLen K) (tCons (tVar 1) tNil))) (tCB (rAll K) (tCons (tLc (iRng1 (tCons (tCB (rLen K) (tCons (tVar 1) tNil)) tNil)) (gName 2) tYes (tCall (sp_alike n) [] E0 (tCons (tOp (rIx K) (tVar 0) (tVar 2)) (tCons (tOp (rIx K) (tVar 1) (tVar 2)) tNil))) [2]) tNil))))) tNext)
  (tSeq (tIfS (tTest (tOp rNe (tCB (rIsi K) (tCons (tVar 1) (tCons (tC (.ty "bool")) tNil))) (tCB (rIsi K) (tCons (tVar 0) (tCons (tC (.ty "bool")) tNil))))) (tRet (tC (.bl false))) tNext)
  (tSeq (tIfS (tB (tCB (rIsi K) (tCons (tVar 1) (tCons (tC (.ty "int")) tNil)))) (tRet (tAndV (tCB (rIsi K) (tCons (tVar 0) (tCons (tC (.ty "int")) tNil))) (tOp rEq (tVar 0) (tVar 1)))) tNext)
  (tRet (tAndV (tCB (rIsi K) (tCons (tVar 0) (tCons (tC (.ty "str")) tNil))) (tOp rEq (tVar 0) (tVar 1))))))))
/-- the walk over two rows that hold the same data -/
theorem alike_row {K : PySem.W.Frag} {n : Nat} {a b : Addr} {xs ys : List V} {ds : List Dt} {H : Hp} {Q : VK} {x : Option V} (A : ∀ H', Same H H' → ∀ (i : Int) v (Q' : VK), atI xs i = some v → Q' v H' → rIx K (.ref a) (.int i) H' Q') (B : ∀ H', Same H H' → ∀ (i : Int) v (Q' : VK), atI ys i = some v → Q' v H' → rIx K (.ref b) (.int i) H' Q')
    (h1 : Ats H xs ds) (h2 : Ats H ys ds) (hl : ds.length ≤ 10000) (hd : Dt.depL ds + 1 ≤ n) (hf : Dt.flatL ds = true) (k : ∀ D H', Same H H' → H' D = some (.lst (List.replicate ds.length (.bl true))) → Q (.ref D) H') :
    LcW (Itr 0 ds.length) (gName 2) tYes (tCall (sp_alike n) [] E0 (tCons (tOp (rIx K) (tVar 0) (tVar 2)) (tCons (tOp (rIx K) (tVar 1) (tVar 2)) tNil))) [2] [some (.ref a), some (.ref b), x] H Q := by
  refine m_rng (fun D i H' => Same H H' ∧ H D = none ∧ H' D = some (.lst (List.replicate i (.bl true)))) ?_ ?_ ?_
  · exact fun D hD => ⟨same_new hD, hD, upd_same⟩
  · rintro D i H' hi ⟨s1, s2, s3⟩
    obtain ⟨d, hd'⟩ : ∃ d, ds[i]? = some d := ⟨_, List.getElem?_eq_getElem hi⟩
    obtain ⟨va, ea, ha⟩ := h1.get hd'
    obtain ⟨vb, eb, hb⟩ := h2.get hd'
    fold_lay
    refine ⟨rfl, ?_⟩
    fold_lay
    refine A H' s1 _ va _ (at_of (j := i) (by omega) ea) ?_
    fold_lay
    refine B H' s1 _ vb _ (at_of (j := i) (by omega) eb) ?_
    fold_lay
    cases n with
    | zero => omega
    | succ m =>
      have hdd := depL_get hd'
      refine c_alike (ha.mono s1) (hb.mono s1) (by omega) (flatL_get hf hd') fun H2 s4 => ?_
      refine ⟨_, s4 _ _ s3, szl (by rw [List.length_replicate]; omega), ?_, s2, ?_⟩
      · exact fun c o e => upd_off (ne_of_none e s2) (s4 _ _ (s1 _ _ e))
      · rw [upd_same, List.replicate_succ']
  · rintro D H' ⟨s1, s2, s3⟩
    exact k D H' s1 s3
theorem pure_alike {K : PySem.W.Frag} {n : Nat} {vs : List V} {H : Hp} {Q : VK} {E : XK} (h : sp_alike (n + 1) vs H Q E) : t_l_alike K n { nx := fun _ H' => Q .non H', rt := Q } (start N_l_alike vs) H := by
  obtain ⟨va, vb, d, rfl, h1, h2, h3, h4, k⟩ := h
  unfold t_l_alike
  cases h1 with
  | non => cases h2; kbj_rows; exact k H (Same.refl H)
  | bl b =>
    cases h2
    have t1 : Ty0 H (.bl b) "bool" := .bl b
    kbj_rows
    rw [beq_self_eq_true]
    exact k H (Same.refl H)
  | int i =>
    cases h2
    have t1 : Ty0 H (.int i) "int" := .int i
    kbj_rows
    rw [decide_eq_true rfl]
    exact k H (Same.refl H)
  | str x =>
    cases h2
    have t1 : Ty0 H (.str x) "str" := .str x
    kbj_rows
    rw [decide_eq_true rfl]
    exact k H (Same.refl H)
  | @lst a xs ds ea ha =>
    cases h2 with
    | @lst b ys _ eb hb =>
      have t1 : Ty0 H (.ref a) "list" := .lst ea
      have t2 : Ty0 H (.ref b) "list" := .lst eb
      have l1 := ha.length
      have l2 := hb.length
      simp only [Dt.flat, Bool.and_eq_true] at h4
      have f1 := of_decide_eq_true h4.1
      have h3' : Dt.depL ds + 1 ≤ n := by simpa only [Dt.dep] using h3
      kbj_rows
      refine i_yes (by omega) ?_
      kbj_rows
      refine c_rng1 (by omega) (by omega) ?_
      rw [show (ys.length : Int).toNat = ds.length by omega]
      refine alike_row (fun H' s i v Q' e q => i_ixSL (sqL (s _ _ ea)) e q) (fun H' s i v Q' e q => i_ixSL (sqL (s _ _ eb)) e q) ha hb f1 h3' h4.2 fun D H' s1 hD => ?_
      kbj_rows
      exact i_all hD (k H' s1)
  | @tup a xs ds ea ha =>
    cases h2 with
    | @tup b ys _ eb hb =>
      have t1 : Ty0 H (.ref a) "tuple" := .tup ea
      have t2 : Ty0 H (.ref b) "tuple" := .tup eb
      have l1 := ha.length
      have l2 := hb.length
      simp only [Dt.flat, Bool.and_eq_true] at h4
      have f1 := of_decide_eq_true h4.1
      have h3' : Dt.depL ds + 1 ≤ n := by simpa only [Dt.dep] using h3
      kbj_rows
      refine i_yes (by omega) ?_
      kbj_rows
      refine c_rng1 (by omega) (by omega) ?_
      rw [show (ys.length : Int).toNat = ds.length by omega]
      refine alike_row (fun H' s i v Q' e q => i_ixST (sqT (s _ _ ea)) e q) (fun H' s i v Q' e q => i_ixST (sqT (s _ _ eb)) e q) ha hb f1 h3' h4.2 fun D H' s1 hD => ?_
      kbj_rows
      exact i_all hD (k H' s1)
  | dic h hs => cases h4
/-! ## Data -/
/-! ### data: the same, a copy -/
def rLenD : List V → Hp → VK → Prop := fun vs G R => ∃ a kvs, vs = [V.ref a] ∧ G a = some (.dK kvs) ∧ R (.int kvs.length) G
def rListDk : List V → Hp → VK → Prop := fun vs G R => ∃ (a : Addr) (kvs : List (Key × V)), vs = [.ref a] ∧ Rd G a (.dK kvs) ∧ ∀ p, G p = none → R (.ref p) (upd G p (.lst (kvs.map fun kv => kV kv.1)))
theorem okL_get : ∀ {l : List Dt} {i : Nat} {d : Dt}, Dt.okL l = true → l[i]? = some d → d.okd = true
  | [], i, d, _, e => by simp at e
  | x :: r, i, d, h, e => by
    simp only [Dt.okL, Bool.and_eq_true] at h
    cases i with
    | zero =>
      simp at e
      rw [← e]
      exact h.1
    | succ i => exact okL_get (i := i) h.2 (by simpa using e)
theorem okK_mem : ∀ {l : List (Str × Dt)} {p : Str × Dt}, Dt.okK l = true → p ∈ l → p.2.okd = true ∧ p.2.dep ≤ Dt.depK l
  | [], p, _, e => by cases e
  | (k, x) :: r, p, h, e => by
    simp only [Dt.okK, Bool.and_eq_true] at h
    simp only [Dt.depK]
    rcases List.mem_cons.mp e with e | e
    · rw [e]
      exact ⟨h.1, by show x.dep ≤ _; omega⟩
    · have q := okK_mem h.2 e
      exact ⟨q.1, by omega⟩
theorem Atk.length {H : Hp} : ∀ {kvs : List (Key × V)} {ds : List (Str × Dt)}, Atk H kvs ds → kvs.length = ds.length
  | _, _, .nil => rfl
  | _, _, .cons _ hs => congrArg (· + 1) (Atk.length hs)
theorem Atk.keys {H : Hp} : ∀ {kvs : List (Key × V)} {ds : List (Str × Dt)}, Atk H kvs ds → (kvs.map fun kv => kV kv.1) = ds.map fun kd => V.str kd.1
  | _, _, .nil => rfl
  | _, _, .cons (k := k) _ hs => by
    rw [List.map_cons, List.map_cons, Atk.keys hs]
    rfl
theorem valV_cons {k j : Key} {v : V} {r : List (Key × V)} : valV ((j, v) :: r) k = if j = k then some v else valV r k := by
  unfold valV
  rw [List.find?_cons]
  by_cases h : j = k
  · rw [if_pos h]
    have : decide (j = k) = true := decide_eq_true h
    simp [this]
  · rw [if_neg h]
    have : decide (j = k) = false := decide_eq_false h
    simp [this]
/-- the value under a key that is there -/
theorem Atk.find {H : Hp} : ∀ {kvs : List (Key × V)} {ds : List (Str × Dt)} {k : Str} {d : Dt}, Atk H kvs ds → (ds.map (·.1)).Nodup → (k, d) ∈ ds → ∃ v, valV kvs (Sum.inr k) = some v ∧ At H v d
  | _, _, k, d, .nil, _, h => by cases h
  | _, _, k, d, .cons (k := j) (v := v) (d := e) hv hs, nd, h => by
    rw [valV_cons]
    rw [List.map_cons, List.nodup_cons] at nd
    rcases List.mem_cons.mp h with h | h
    · cases h
      rw [if_pos rfl]
      exact ⟨v, rfl, hv⟩
    · have nj : j ≠ k := fun z => nd.1 (by rw [z]; exact List.mem_map.mpr ⟨(k, d), h, rfl⟩)
      rw [if_neg (fun z => nj (Sum.inr.inj z))]
      exact Atk.find hs nd.2 h
def sp_is_int (K : PySem.W.Frag) : Sp := fun vs H Q _ => ∃ (v : V) (n : String), vs = [v] ∧ Ty0 H v n ∧ Q (.bl (vI v)) H
theorem c_is_int {K : PySem.W.Frag} {v : V} {n : String} {H : Hp} {Q : VK} {E : XK} (h : Ty0 H v n) (q : Q (.bl (vI v)) H) : sp_is_int K [v] H Q E := ⟨v, n, rfl, h, q⟩
def N_l_is_int : List Str := ["_law_value"]
def t_l_is_int (K : PySem.W.Frag) : TS := (tRet (tAndV (tCB (rIsi K) (tCons (tVar 0) (tCons (tC (.ty "int")) tNil))) (tNotV (tCB (rIsi K) (tCons (tVar 0) (tCons (tC (.ty "bool")) tNil))))))
theorem pure_is_int {K : PySem.W.Frag} {vs : List V} {H : Hp} {Q : VK} {E : XK} (h : sp_is_int K vs H Q E) : t_l_is_int K { nx := fun _ H' => Q .non H', rt := Q } (start N_l_is_int vs) H := by
  obtain ⟨v, n, rfl, ht, q⟩ := h
  exact pure_is_whole (K := K) (E := E) ⟨v, n, rfl, ht, q⟩
def Dt.eqI (j : Int) : Dt → Bool
  | .int i => decide (i = j)
  | _ => false
/-- what `same` says of two data, where we need it -/
def SameIs (d1 d2 : Dt) (b : Bool) : Prop := (d1 = d2 ∧ b = true) ∨ ∃ j, d2 = .int j ∧ b = d1.eqI j
def sp_same : Nat → Sp
  | 0 => fun _ _ _ _ => False
  | n + 1 => fun vs H Q _ => ∃ (va vb : V) (d1 d2 : Dt) (b : Bool), vs = [va, vb] ∧ At H va d1 ∧ At H vb d2 ∧ SameIs d1 d2 b ∧ d1.dep ≤ n ∧ d1.okd = true ∧ ∀ H', Same H H' → Q (.bl b) H'
theorem c_same {n : Nat} {va vb : V} {d : Dt} {H : Hp} {Q : VK} {E : XK} (h1 : At H va d) (h2 : At H vb d) (h3 : d.dep ≤ n) (h4 : d.okd = true) (h : ∀ H', Same H H' → Q (.bl true) H') : sp_same (n + 1) [va, vb] H Q E := ⟨va, vb, d, d, true, rfl, h1, h2, .inl ⟨rfl, rfl⟩, h3, h4, h⟩
theorem c_sameI {n : Nat} {va : V} {d : Dt} {j : Int} {H : Hp} {Q : VK} {E : XK} (h1 : At H va d) (h3 : d.dep ≤ n) (h4 : d.okd = true) (h : ∀ H', Same H H' → Q (.bl (d.eqI j)) H') : sp_same (n + 1) [va, .int j] H Q E := ⟨va, .int j, d, .int j, _, rfl, h1, .int j, .inr ⟨j, rfl, rfl⟩, h3, h4, h⟩
theorem i_lenD {H : Hp} {Q : VK} {a : Addr} {kvs : List (Key × V)} (h : H a = some (.dK kvs)) (q : Q (.int kvs.length) H) : rLenD [.ref a] H Q := ⟨a, kvs, rfl, h, q⟩
theorem i_dget {σ : St} {H : Hp} {Q : VK} {td ty : TE} (h : td σ H fun x H1 => ty σ H1 fun y H2 => ∃ a v, x = .ref a ∧ DGet H2 a y (some v) ∧ Q v H2) : tDGet td ty σ H Q := h
instance s_dget {σ : St} {H : Hp} {Q : VK} {td ty : TE} : Stp (tDGet td ty σ H Q) (td σ H fun x H1 => ty σ H1 fun y H2 => ∃ a v, x = .ref a ∧ DGet H2 a y (some v) ∧ Q v H2) := ⟨i_dget⟩
theorem i_dnotin {σ : St} {H : Hp} {Q : VK} {td ty : TE} (h : ty σ H fun y H1 => td σ H1 fun x H2 => ∃ a o, x = .ref a ∧ DGet H2 a y o ∧ Q (.bl (!o.isSome)) H2) : tDNotIn ty td σ H Q := h
instance s_dnotin {σ : St} {H : Hp} {Q : VK} {td ty : TE} : Stp (tDNotIn ty td σ H Q) (ty σ H fun y H1 => td σ H1 fun x H2 => ∃ a o, x = .ref a ∧ DGet H2 a y o ∧ Q (.bl (!o.isSome)) H2) := ⟨i_dnotin⟩
theorem dget_k {H : Hp} {a : Addr} {kvs : List (Key × V)} {k : Str} {v : V} (h : H a = some (.dK kvs)) (e : valV kvs (Sum.inr k) = some v) : DGet H a (.str k) (some v) := by
  rw [← e]
  exact DGet.k (k := Sum.inr k) h
instance s_dput {σ : St} {H : Hp} {D : Ends} {td ty tv : TE} : Stp (sDPut td ty tv D σ H) (tv σ H fun v H1 => td σ H1 fun x H2 => ty σ H2 fun y H3 => ∃ a H4, x = .ref a ∧ DPut H3 a y v H4 ∧ D.nx σ H4) := ⟨fun h => h⟩
/-- a test of the built-in class -/
theorem isi {K : PySem.W.Frag} {H : Hp} {Q : VK} {v : V} {d : Dt} (h : At H v d) (c : String) (b : Bool) (e : kitB d.ty c = some b) (q : Q (.bl b) H) : rIsi K [v, .ty c] H Q := i_isi h.ty e q
def N_l_same : List Str := ["_law_actual", "_law_expected", "_law_key", "_law_k"]
def t_l_same (K : PySem.W.Frag) (n : Nat) : TS := (tSeq (tIfS (tOr (tTest (tOp oIsN (tVar 0) (tC .non))) (tTest (tOp oIsN (tVar 1) (tC .non)))) (tRet (tAndV (tOp oIsN (tVar 0) (tC .non)) (tOp oIsN (tVar 1) (tC .non)))) tNext)
  (tSeq (tIfS (tOr (tB (tCB (rIsi K) (tCons (tVar 0) (tCons (tC (.ty "bool")) tNil)))) (tB (tCB (rIsi K) (tCons (tVar 1) (tCons (tC (.ty "bool")) tNil))))) (tRet (tAndV (tCB (rIsi K) (tCons (tVar 0) (tCons (tC (.ty "bool")) tNil))) (tAndV (tCB (rIsi K) (tCons (tVar 1) (tCons (tC (.ty "bool")) tNil))) (tOp rEq (tVar 0) (tVar 1))))) tNext)
  (tSeq (tIfS (tB (tCB (rIsi K) (tCons (tVar 1) (tCons (tC (.ty "int")) tNil)))) (tRet (tAndV (tCB (rIsi K) (tCons (tVar 0) (tCons (tC (.ty "int")) tNil))) (tOp rEq (tVar 0) (tVar 1)))) tNext)
  (tSeq (tIfS (tB (tCB (rIsi K) (tCons (tVar 1) (tCons (tC (.ty "str")) tNil)))) (tRet (tAndV (tCB (rIsi K) (tCons (tVar 0) (tCons (tC (.ty "str")) tNil))) (tOp rEq (tVar 0) (tVar 1)))) tNext)
  (tSeq (tIfS (tB (tCB (rIsi K) (tCons (tVar 1) (tCons (tC (.ty "dict")) tNil)))) (tSeq (tIfS (tOr (tNot (tB (tCB (rIsi K) (tCons (tVar 0) (tCons (tC (.ty "dict")) tNil))))) (tTest (tOp rNe (tCB rLenD (tCons (tVar 0) tNil)) (tCB rLenD (tCons (tVar 1) tNil))))) (tRet (tC (.bl false))) tNext)
  (tSeq (tFor (iList K (tCB rListDk (tCons (tVar 1) tNil))) (gName 2) (tIfS (tOr (tB (tDNotIn (tVar 2) (tVar 0))) (tNot (tB (tCall (sp_same n) [] E0 (tCons (tDGet (tVar 0) (tVar 2)) (tCons (tDGet (tVar 1) (tVar 2)) tNil)))))) (tRet (tC (.bl false))) tNext))
  (tRet (tC (.bl true))))) tNext)
  (tSeq (tIfS (tTest (tOp rNe (tCB (rIsi K) (tCons (tVar 1) (tCons (tC (.ty "list")) tNil))) (tCB (rIsi K) (tCons (tVar 0) (tCons (tC (.ty "list")) tNil))))) (tRet (tC (.bl false))) tNext)
  (tSeq (tIfS (tTest (tOp rNe (tCB (rIsi K) (tCons (tVar 1) (tCons (tC (.ty "tuple")) tNil))) (tCB (rIsi K) (tCons (tVar 0) (tCons (tC (.ty "tuple")) tNil))))) (tRet (tC (.bl false))) tNext)
  (tSeq (tIfS (tOr (tAnd (tNot (tB (tCB (rIsi K) (tCons (tVar 1) (tCons (tC (.ty "list")) tNil))))) (tNot (tB (tCB (rIsi K) (tCons (tVar 1) (tCons (tC (.ty "tuple")) tNil)))))) (tTest (tOp rNe (tCB (rLen K) (tCons (tVar 0) tNil)) (tCB (rLen K) (tCons (tVar 1) tNil))))) (tRet (tC (.bl false))) tNext)
  (tSeq (tFor (iRng1 (tCons (tCB (rLen K) (tCons (tVar 1) tNil)) tNil)) (gName 3) (tIfS (tNot (tB (tCall (sp_same n) [] E0 (tCons (tOp (rIx K) (tVar 0) (tVar 3)) (tCons (tOp (rIx K) (tVar 1) (tVar 3)) tNil))))) (tRet (tC (.bl false))) tNext))
  (tRet (tC (.bl true))))))))))))

/-- the walk over two rows that hold the same data -/
theorem same_row {K : PySem.W.Frag} {n : Nat} {a b : Addr} {xs ys : List V} {ds : List Dt} {H : Hp} {Q : VK} {x y : Option V} {nx bk ct : St → Hp → Prop} (A : ∀ H', Same H H' → ∀ (i : Int) v (Q' : VK), atI xs i = some v → Q' v H' → rIx K (.ref a) (.int i) H' Q') (B : ∀ H', Same H H' → ∀ (i : Int) v (Q' : VK), atI ys i = some v → Q' v H' → rIx K (.ref b) (.int i) H' Q')
    (h1 : Ats H xs ds) (h2 : Ats H ys ds) (hl : ds.length ≤ 10000) (hd : Dt.depL ds + 1 ≤ n) (hf : Dt.okL ds = true) (k : ∀ σ' H', Same H H' → nx σ' H') :
    ForW (Itr 0 ds.length) (gName 3) (tIfS (tNot (tB (tCall (sp_same n) [] E0 (tCons (tOp (rIx K) (tVar 0) (tVar 3)) (tCons (tOp (rIx K) (tVar 1) (tVar 3)) tNil))))) (tRet (tC (.bl false))) tNext) ⟨nx, Q, bk, ct⟩ [some (.ref a), some (.ref b), x, y] H := by
  refine l_rng (fun i σ H' => Same H H' ∧ ∃ y, σ = [some (.ref a), some (.ref b), x, y]) ⟨Same.refl H, y, rfl⟩ ?_ ?_
  · rintro i σ H' hi ⟨s1, y, rfl⟩
    obtain ⟨d, hd'⟩ : ∃ d, ds[i]? = some d := ⟨_, List.getElem?_eq_getElem hi⟩
    obtain ⟨va, ea, ha⟩ := h1.get hd'
    obtain ⟨vb, eb, hb⟩ := h2.get hd'
    fold_lay
    refine A H' s1 _ va _ (at_of (j := i) (by omega) ea) ?_
    fold_lay
    refine B H' s1 _ vb _ (at_of (j := i) (by omega) eb) ?_
    fold_lay
    cases n with
    | zero => omega
    | succ m =>
      have hdd := depL_get hd'
      refine c_same (ha.mono s1) (hb.mono s1) (by omega) (okL_get hf hd') fun H2 s4 => ?_
      fold_lay
      exact ⟨s1.trans s4, _, rfl⟩
  · rintro σ H' ⟨s1, _⟩
    exact k σ H' s1
theorem pure_same {K : PySem.W.Frag} {n : Nat} {vs : List V} {H : Hp} {Q : VK} {E : XK} (h : sp_same (n + 1) vs H Q E) : t_l_same K n { nx := fun _ H' => Q .non H', rt := Q } (start N_l_same vs) H := by
  obtain ⟨va, vb, d1, d2, b, rfl, h1, h2, hb, h3, h4, k⟩ := h
  unfold t_l_same
  rcases hb with ⟨rfl, rfl⟩ | ⟨j, rfl, rfl⟩
  rotate_left
  · cases h2
    have t0 : Ty0 H (.int j) "int" := .int j
    have t1 := h1.ty
    cases h1 with
    | non => kbj_rows; exact k H (Same.refl H)
    | bl b => simp only [Dt.ty] at t1; kbj_rows; exact k H (Same.refl H)
    | int i => simp only [Dt.ty] at t1; kbj_rows; exact k H (Same.refl H)
    | str x => simp only [Dt.ty] at t1; kbj_rows; exact k H (Same.refl H)
    | lst ea ha => simp only [Dt.ty] at t1; kbj_rows; exact k H (Same.refl H)
    | tup ea ha => simp only [Dt.ty] at t1; kbj_rows; exact k H (Same.refl H)
    | dic ea ha => simp only [Dt.ty] at t1; kbj_rows; exact k H (Same.refl H)
  cases h1 with
  | non => cases h2; kbj_rows; exact k H (Same.refl H)
  | bl b =>
    cases h2
    have t1 : Ty0 H (.bl b) "bool" := .bl b
    kbj_rows
    rw [beq_self_eq_true]
    exact k H (Same.refl H)
  | int i =>
    cases h2
    have t1 : Ty0 H (.int i) "int" := .int i
    kbj_rows
    rw [decide_eq_true rfl]
    exact k H (Same.refl H)
  | str x =>
    cases h2
    have t1 : Ty0 H (.str x) "str" := .str x
    kbj_rows
    rw [decide_eq_true rfl]
    exact k H (Same.refl H)
  | @lst a xs ds ea ha =>
    cases h2 with
    | @lst b ys _ eb hb =>
      have t1 : Ty0 H (.ref a) "list" := .lst ea
      have t2 : Ty0 H (.ref b) "list" := .lst eb
      have l1 := ha.length
      have l2 := hb.length
      simp only [Dt.okd, Bool.and_eq_true] at h4
      have f1 := of_decide_eq_true h4.1
      have h3' : Dt.depL ds + 1 ≤ n := by simpa only [Dt.dep] using h3
      kbj_rows
      refine i_ifn (fun z => absurd (by omega) z) (fun _ => ?_)
      kbj_rows
      refine f_rng1 (by omega) (by omega) ?_
      rw [show (ys.length : Int).toNat = ds.length by omega]
      refine same_row (fun H' s i v Q' e q => i_ixSL (sqL (s _ _ ea)) e q) (fun H' s i v Q' e q => i_ixSL (sqL (s _ _ eb)) e q) ha hb f1 h3' h4.2 fun σ' H' s1 => ?_
      kbj_rows
      exact k H' s1
  | @tup a xs ds ea ha =>
    cases h2 with
    | @tup b ys _ eb hb =>
      have t1 : Ty0 H (.ref a) "tuple" := .tup ea
      have t2 : Ty0 H (.ref b) "tuple" := .tup eb
      have l1 := ha.length
      have l2 := hb.length
      simp only [Dt.okd, Bool.and_eq_true] at h4
      have f1 := of_decide_eq_true h4.1
      have h3' : Dt.depL ds + 1 ≤ n := by simpa only [Dt.dep] using h3
      kbj_rows
      refine i_ifn (fun z => absurd (by omega) z) (fun _ => ?_)
      kbj_rows
      refine f_rng1 (by omega) (by omega) ?_
      rw [show (ys.length : Int).toNat = ds.length by omega]
      refine same_row (fun H' s i v Q' e q => i_ixST (sqT (s _ _ ea)) e q) (fun H' s i v Q' e q => i_ixST (sqT (s _ _ eb)) e q) ha hb f1 h3' h4.2 fun σ' H' s1 => ?_
      kbj_rows
      exact k H' s1
  | @dic a kv1 ds ea ha =>
    cases h2 with
    | @dic b kv2 _ eb hb =>
      have t1 : Ty0 H (.ref a) "dict" := .dic ea
      have t2 : Ty0 H (.ref b) "dict" := .dic eb
      have l1 := ha.length
      have l2 := hb.length
      simp only [Dt.okd, Bool.and_eq_true] at h4
      have f1 := of_decide_eq_true h4.1.1
      have f2 := of_decide_eq_true h4.1.2
      have h3' : Dt.depK ds + 1 ≤ n := by simpa only [Dt.dep] using h3
      kbj_rows
      refine i_lenD ea ?_
      kbj_rows
      refine i_lenD eb ?_
      kbj_rows
      refine i_ifn (fun z => absurd (by omega) z) (fun _ => ?_)
      kbj_rows
      refine ⟨b, kv2, rfl, .inl eb, fun p hp => ?_⟩
      rw [hb.keys]
      refine f_lst (sqL upd_same) (l_lst (fun i σ H' => Same (upd H p (.lst (ds.map fun kd => V.str kd.1))) H' ∧ ∃ x y, σ = [some (.ref a), some (.ref b), x, y]) ⟨Same.refl _, _, _, rfl⟩ (fun i σ H' _ h => sqL (h.1 _ _ upd_same)) ?_ ?_)
      · rintro i x σ H' hx ⟨s1, y, z, rfl⟩
        have s0 := (same_new (o := .lst (ds.map fun kd => V.str kd.1)) hp).trans s1
        rw [List.getElem?_map, Option.map_eq_some_iff] at hx
        obtain ⟨⟨kk, d⟩, hk, rfl⟩ := hx
        have hm := List.mem_of_getElem? hk
        obtain ⟨v1, e1, a1⟩ := ha.find f2 hm
        obtain ⟨v2, e2, a2⟩ := hb.find f2 hm
        have ok := okK_mem h4.2 hm
        kbj_rows
        refine ⟨a, some v1, rfl, dget_k (s0 _ _ ea) e1, ?_⟩
        kbj_rows
        refine i_ifF ?_
        kbj_rows
        refine ⟨a, v1, rfl, dget_k (s0 _ _ ea) e1, ?_⟩
        kbj_rows
        refine ⟨b, v2, rfl, dget_k (s0 _ _ eb) e2, ?_⟩
        kbj_rows
        cases n with
        | zero => omega
        | succ m =>
          refine c_same (a1.mono s0) (a2.mono s0) (by have := ok.2; simp only at this; omega) ok.1 fun H2 s4 => ?_
          kbj_rows
          exact ⟨s1.trans s4, _, _, rfl⟩
      · rintro σ H' ⟨s1, _⟩
        kbj_rows
        exact k H' ((same_new hp).trans s1)

def sp_copy : Nat → Sp
  | 0 => fun _ _ _ _ => False
  | n + 1 => fun vs H Q _ => ∃ (v : V) (d : Dt), vs = [v] ∧ At H v d ∧ d.dep ≤ n ∧ d.okd = true ∧ ∀ v' H', At (nw H H') v' d → Same H H' → Q v' H'
theorem c_copy {n : Nat} {v : V} {d : Dt} {H : Hp} {Q : VK} {E : XK} (h1 : At H v d) (h3 : d.dep ≤ n) (h4 : d.okd = true) (h : ∀ v' H', At (nw H H') v' d → Same H H' → Q v' H') : sp_copy (n + 1) [v] H Q E := ⟨v, d, rfl, h1, h3, h4, h⟩
/-- what was copied ahead stays beside the growing row at D -/
theorem beside_old {H H1 H2 : Hp} {D : Addr} {o : HO} (k : Same H1 H2) : Same (hid D (nw H H1)) (hid D (nw H (upd H2 D o))) := fun b u e => by
  obtain ⟨e1, e2⟩ := hid_of e
  obtain ⟨e3, e4⟩ := nw_of e1
  exact hid_to (nw_to e3 (upd_off e2 (k _ _ e4))) e2
theorem beside_new {H H1 H2 : Hp} {D : Addr} {o o1 : HO} (h0 : Same H H1 ∨ ∀ b u, H b = some u → b ≠ D → H1 b = some u) (hD : H1 D = some o1) (hn : H D = none) : Same (nw H1 H2) (hid D (nw H (upd H2 D o))) := fun b u e => by
  obtain ⟨e1, e2⟩ := nw_of e
  have nb : b ≠ D := fun z => by
    rw [z, hD] at e1
    cases e1
  have hb : H b = none := by
    cases q : H b with
    | none => rfl
    | some w =>
      rcases h0 with h0 | h0
      · rw [h0 b w q] at e1
        cases e1
      · rw [h0 b w q nb] at e1
        cases e1
  exact hid_to (nw_to hb (upd_off nb e2)) nb
theorem Ats.snoc {H : Hp} : ∀ {vs : List V} {ds : List Dt} {v : V} {d : Dt}, Ats H vs ds → At H v d → Ats H (vs ++ [v]) (ds ++ [d])
  | _, _, _, _, .nil, h => .cons h .nil
  | _, _, _, _, .cons h1 hs, h => .cons h1 (Ats.snoc hs h)
theorem Atk.snoc {H : Hp} : ∀ {vs : List (Key × V)} {ds : List (Str × Dt)} {k : Str} {v : V} {d : Dt}, Atk H vs ds → At H v d → Atk H (vs ++ [(Sum.inr k, v)]) (ds ++ [(k, d)])
  | _, _, _, _, _, .nil, h => .cons h .nil
  | _, _, _, _, _, .cons h1 hs, h => .cons h1 (Atk.snoc hs h)
theorem hid_nw_sub {H H1 : Hp} {D : Addr} : Same (hid D (nw H H1)) (nw H H1) := hid_same
/-- the copies of a row's items, in a new list -/
theorem copy_row {K : PySem.W.Frag} {n : Nat} {J : It} {xs : List V} {ds : List Dt} {H : Hp} {Q : VK} {σ : St} (hJ : ∀ (Pv : Addr → Nat → Hp → Prop), (∀ D, H D = none → Pv D 0 (upd H D (.lst []))) → (∀ D i H', i ≤ xs.length → Pv D i H' → Same H H') →
      (∀ D i x H', xs[i]? = some x → Pv D i H' → gName 3 x (wipe σ [3]) H' fun σ2 H2 => wipe σ2 [3] = wipe σ [3] ∧ tYes σ2 H2 fun b H3 => if b = true then tCall (sp_copy n) [] E0 (tCons (tVar 3) tNil) σ2 H3 fun y H4 => ∃ acc, H4 D = some (.lst acc) ∧ acc.length < sizeLine ∧ Pv D (i + 1) (upd H4 D (.lst (acc ++ [y]))) else Pv D (i + 1) H3) →
      (∀ D H', Pv D xs.length H' → Q (.ref D) H') → LcW J (gName 3) tYes (tCall (sp_copy n) [] E0 (tCons (tVar 3) tNil)) [3] σ H Q)
    (hσ : ∀ x, ((wipe σ [3]).set 3 (some x))[3]? = some (some x)) (hw : ∀ x, wipe ((wipe σ [3]).set 3 (some x)) [3] = wipe σ [3])
    (h1 : Ats H xs ds) (hl : ds.length ≤ 10000) (hd : Dt.depL ds + 1 ≤ n) (hf : Dt.okL ds = true)
    (k : ∀ D ys H', Same H H' → H D = none → H' D = some (.lst ys) → Ats (hid D (nw H H')) ys ds → Q (.ref D) H') : LcW J (gName 3) tYes (tCall (sp_copy n) [] E0 (tCons (tVar 3) tNil)) [3] σ H Q := by
  have hlen := h1.length
  refine hJ (fun D i H' => Same H H' ∧ H D = none ∧ ∃ ys, H' D = some (.lst ys) ∧ Ats (hid D (nw H H')) ys (ds.take i)) ?_ ?_ ?_ ?_
  · exact fun D hD => ⟨same_new hD, hD, [], upd_same, .nil⟩
  · exact fun D i H' _ h => h.1
  · rintro D i x H' hx ⟨s1, hn, ys, hys, hat⟩
    have hi : i < ds.length := by
      have := (List.getElem?_eq_some_iff.mp hx).1
      omega
    obtain ⟨d, hd'⟩ : ∃ d, ds[i]? = some d := ⟨_, List.getElem?_eq_getElem hi⟩
    obtain ⟨va, ea, ha⟩ := h1.get hd'
    rw [hx] at ea
    obtain rfl : x = va := Option.some.inj ea
    refine i_gname ⟨hw _, ?_⟩
    fold_lay
    refine i_var (hσ x) ?_
    fold_lay
    cases n with
    | zero => omega
    | succ m =>
      have hdd := depL_get hd'
      have hly := hat.length
      rw [List.length_take] at hly
      refine c_copy (ha.mono s1) (by omega) (okL_get hf hd') fun v' H2 hv' s2 => ?_
      refine ⟨ys, s2 _ _ hys, szl (by omega), ?_, hn, _, upd_same, ?_⟩
      · exact fun b o e => upd_off (ne_of_none e hn) (s2 _ _ (s1 _ _ e))
      · rw [take_more hd']
        exact (hat.mono (beside_old s2)).snoc (hv'.mono (beside_new (.inl s1) hys hn))
  · rintro D H' ⟨s1, hn, ys, hys, hat⟩
    rw [hlen, List.take_length] at hat
    exact k D ys H' s1 hn hys hat
def N_l_copy : List Str := ["_law_value", "_law_twin", "_law_key", "_law_one"]
def t_l_copy (K : PySem.W.Frag) (n : Nat) : TS := (tSeq (tIfS (tB (tCB (rIsi K) (tCons (tVar 0) (tCons (tC (.ty "list")) tNil)))) (tRet (tLc (iList K (tVar 0)) (gName 3) tYes (tCall (sp_copy n) [] E0 (tCons (tVar 3) tNil)) [3])) tNext)
  (tSeq (tIfS (tB (tCB (rIsi K) (tCons (tVar 0) (tCons (tC (.ty "tuple")) tNil)))) (tRet (tCB (rTupleOf K) (tCons (tLc (iTup K (tVar 0)) (gName 3) tYes (tCall (sp_copy n) [] E0 (tCons (tVar 3) tNil)) [3]) tNil))) tNext)
  (tSeq (tIfS (tB (tCB (rIsi K) (tCons (tVar 0) (tCons (tC (.ty "dict")) tNil)))) (tSeq (tAsg tDNewK (gName 1))
  (tSeq (tFor (iList K (tCB rListDk (tCons (tVar 0) tNil))) (gName 2) (sDPut (tVar 1) (tVar 2) (tCall (sp_copy n) [] E0 (tCons (tDGet (tVar 0) (tVar 2)) tNil))))
  (tRet (tVar 1)))) tNext)
  (tRet (tVar 0)))))
theorem take_fresh : ∀ {ds : List (Str × Dt)} {i : Nat} {p : Str × Dt}, (ds.map (·.1)).Nodup → ds[i]? = some p → p.1 ∉ (ds.take i).map (·.1)
  | [], i, p, _, e => by simp at e
  | x :: r, 0, p, _, e => by simp
  | x :: r, i + 1, p, nd, e => by
    rw [List.map_cons, List.nodup_cons] at nd
    rw [List.getElem?_cons_succ] at e
    rw [List.take_succ_cons, List.map_cons, List.mem_cons, not_or]
    exact ⟨fun z => nd.1 (by rw [← z]; exact List.mem_map.mpr ⟨p, List.mem_of_getElem? e, rfl⟩), take_fresh nd.2 e⟩
theorem putK_fresh {kvs : List (Key × V)} {k : Key} {v : V} (h : ∀ kv ∈ kvs, kv.1 ≠ k) : putK kvs k v = kvs ++ [(k, v)] := by
  unfold putK
  rw [if_neg]
  intro z
  rw [List.any_eq_true] at z
  obtain ⟨kv, h1, h2⟩ := z
  exact h kv h1 (of_decide_eq_true h2)
theorem Atk.fresh {H : Hp} {k : Str} : ∀ {kvs : List (Key × V)} {ds : List (Str × Dt)}, Atk H kvs ds → k ∉ ds.map (·.1) → ∀ kv ∈ kvs, kv.1 ≠ Sum.inr k
  | _, _, .nil, _, kv, h => by cases h
  | _, _, .cons (k := j) hv hs, hn, kv, h => by
    rw [List.map_cons, List.mem_cons, not_or] at hn
    rcases List.mem_cons.mp h with h | h
    · rw [h]
      exact fun z => hn.1 (Sum.inr.inj z).symm
    · exact Atk.fresh hs hn.2 kv h
theorem pure_copy {K : PySem.W.Frag} {n : Nat} {vs : List V} {H : Hp} {Q : VK} {E : XK} (h : sp_copy (n + 1) vs H Q E) : t_l_copy K n { nx := fun _ H' => Q .non H', rt := Q } (start N_l_copy vs) H := by
  obtain ⟨v, d, rfl, h1, h3, h4, k⟩ := h
  unfold t_l_copy
  cases h1 with
  | non => have t1 : Ty0 H .non "NoneType" := .non; kbj_rows; exact k _ H .non (Same.refl H)
  | bl b => have t1 : Ty0 H (.bl b) "bool" := .bl b; kbj_rows; exact k _ H (.bl b) (Same.refl H)
  | int i => have t1 : Ty0 H (.int i) "int" := .int i; kbj_rows; exact k _ H (.int i) (Same.refl H)
  | str x => have t1 : Ty0 H (.str x) "str" := .str x; kbj_rows; exact k _ H (.str x) (Same.refl H)
  | @lst a xs ds ea ha =>
    have t1 : Ty0 H (.ref a) "list" := .lst ea
    simp only [Dt.okd, Bool.and_eq_true] at h4
    have f1 := of_decide_eq_true h4.1
    have h3' : Dt.depL ds + 1 ≤ n := by simpa only [Dt.dep] using h3
    kbj_rows
    refine c_lst (sqL ea) (copy_row (K := K) (fun Pv p0 pl ps pd => m_lst (K := K) (a := a) (xs := xs) Pv p0 (fun D i H' hi hp => sqL (pl D i H' hi hp _ _ ea)) ps pd) (fun x => rfl) (fun x => rfl) ha f1 h3' h4.2 fun D ys H' s1 hn hD hat => ?_)
    exact k _ H' (.lst (nw_to hn hD) (hat.mono hid_nw_sub)) s1
  | @tup a xs ds ea ha =>
    have t1 : Ty0 H (.ref a) "tuple" := .tup ea
    simp only [Dt.okd, Bool.and_eq_true] at h4
    have f1 := of_decide_eq_true h4.1
    have h3' : Dt.depL ds + 1 ≤ n := by simpa only [Dt.dep] using h3
    kbj_rows
    refine c_tup (sqT ea) (copy_row (K := K) (fun Pv p0 pl ps pd => m_tup (K := K) (a := a) (xs := xs) Pv p0 (fun D i H' hi hp => sqT (pl D i H' hi hp _ _ ea)) ps pd) (fun x => rfl) (fun x => rfl) ha f1 h3' h4.2 fun D ys H' s1 hn hD hat => ?_)
    kbj_rows
    refine ⟨D, ys, rfl, .inl ⟨sqL hD, fun p hp => ?_⟩⟩
    refine k _ _ (.tup (nw_to (s1.free hp) upd_same) (hat.mono ?_)) (s1.trans (same_new hp))
    exact fun b o e => by
      obtain ⟨e1, e2⟩ := nw_of (hid_same _ _ e)
      exact nw_to e1 (upd_keep hp e2)
  | @dic a kvs ds ea ha =>
    have t1 : Ty0 H (.ref a) "dict" := .dic ea
    simp only [Dt.okd, Bool.and_eq_true] at h4
    have f1 := of_decide_eq_true h4.1.1
    have f2 := of_decide_eq_true h4.1.2
    have h3' : Dt.depK ds + 1 ≤ n := by simpa only [Dt.dep] using h3
    kbj_rows
    intro p hp
    kbj_rows
    refine ⟨a, kvs, rfl, .inl (upd_keep hp ea), fun q hq => ?_⟩
    rw [ha.keys]
    have np : p ≠ q := ne_of_none upd_same hq
    have h0 : upd H p (.dK []) p = some (.dK []) := upd_same
    refine f_lst (sqL upd_same) (l_lst (xs := ds.map fun kd => V.str kd.1) (fun i σ H' => Same H H' ∧ H' q = some (.lst (ds.map fun kd => V.str kd.1)) ∧ (∃ kw, H' p = some (.dK kw) ∧ Atk (hid p (nw H H')) kw (ds.take i)) ∧ ∃ x y, σ = [some (.ref a), some (.ref p), x, y]) ⟨(same_new hp).trans (same_new hq), upd_same, ⟨[], upd_keep hq h0, .nil⟩, _, _, rfl⟩ (fun i σ H' _ h => sqL h.2.1) ?_ ?_)
    · rintro i x σ H' hx ⟨s1, hq', ⟨kw, hkw, hat⟩, y, z, rfl⟩
      rw [List.getElem?_map, Option.map_eq_some_iff] at hx
      obtain ⟨⟨kk, d⟩, hk, rfl⟩ := hx
      have hm := List.mem_of_getElem? hk
      obtain ⟨v1, e1, a1⟩ := ha.find f2 hm
      have ok := okK_mem h4.2 hm
      kbj_rows
      refine ⟨a, v1, rfl, dget_k (s1 _ _ ea) e1, ?_⟩
      kbj_rows
      cases n with
      | zero => omega
      | succ m =>
        refine c_copy (a1.mono s1) (by have := ok.2; simp only at this; omega) ok.1 fun v' H2 hv' s2 => ?_
        kbj_rows
        refine ⟨p, _, rfl, DPut.k (k := Sum.inr kk) (s2 _ _ hkw) (szl (by have := hat.length; rw [List.length_take] at this; omega)), ?_⟩
        have nk : kk ∉ (ds.take i).map (·.1) := take_fresh f2 hk
        rw [putK_fresh (hat.fresh nk)]
        refine ⟨fun b o e => upd_off (ne_of_none e hp) (s2 _ _ (s1 _ _ e)), upd_off (Ne.symm np) (s2 _ _ hq'), ⟨_, upd_same, ?_⟩, _, _, rfl⟩
        rw [take_more hk]
        exact (hat.mono (beside_old s2)).snoc (hv'.mono (beside_new (.inl s1) hkw hp))
    · rintro σ H' ⟨s1, hq', ⟨kw, hkw, hat⟩, y, z, rfl⟩
      rw [List.length_map, List.take_length] at hat
      kbj_rows
      exact k _ H' (.dic (nw_to hp hkw) (hat.mono hid_nw_sub)) s1
/-! ## Seq -/
/-! ### for over what may be a list or a tuple -/
def iSeq (K : PySem.W.Frag) (tl : TE) : TI := fun σ H R => tl σ H fun x H1 => ∃ a, x = .ref a ∧ (((∃ xs, SqL K H1 a xs) ∧ R (Itl K a) H1) ∨ ((∃ xs, SqT K H1 a xs) ∧ R (Itt K a) H1))
/-- a fresh walk at the heap's end -/
theorem fresh_fp {X : Cx} {pins : List (Addr × Obj)} {σ : St} {H : Hp} {g : Shared} (J : Inv X pins σ H g) : ∀ b ∈ [g.heap.objs.size], FpOk X pins H b := fun b hb => by
  rw [List.mem_singleton.mp hb]
  exact J.fpOk (Nat.le_refl _) (J.hok.fresh (Nat.le_refl _))
theorem pi_seq {X : Cx} {tg l : Expr} {tl : TE} (hl : PE X l tl) : PI X tg l (iSeq X.K tl) := by
  constructor
  intro pins g σ H R J h
  refine thn (hl.run pins g σ H _ J h) fun u g1 z => ?_
  obtain ⟨y, G, J1, ry, a, ey, q⟩ := z
  subst ey
  obtain rfl : u = .ref a := ry
  rcases q with ⟨⟨xs, hx⟩, q⟩ | ⟨⟨xs, hx⟩, q⟩
  · obtain ⟨its, _, at1, _⟩ := J1.list hx
    refine wpAny_pyIter_list at1.isList ⟨_, _, _, _, G, rfl, ?_, turn_list a _, ⟨_, Heap.get?_push_size _ rfl, rfl, rfl⟩, fun b hb => ?_, q⟩
    · exact J1.kept (t' := g1.toks) fun b o e => Heap.get?_push_of_some _ e
    · exact fresh_fp J1 b hb
  · obtain ⟨its, _, at1, _⟩ := J1.tuple hx
    have at2 : g1.heap.IsTuple a its.toArray := at1
    refine wpAny_pyIter_tuple at2 ⟨_, _, _, _, G, rfl, ?_, turn_tuple a _, ⟨_, Heap.get?_push_size _ rfl, rfl, rfl⟩, fun b hb => ?_, q⟩
    · exact J1.kept (t' := g1.toks) fun b o e => Heap.get?_push_of_some _ e
    · exact fresh_fp J1 b hb
instance s_forS {K : PySem.W.Frag} {σ : St} {H : Hp} {D : Ends} {g : TG} {tb : TS} {tl : TE} : Stp (tFor (iSeq K tl) g tb D σ H) (tl σ H fun x H1 => ∃ a, x = .ref a ∧ (((∃ xs, SqL K H1 a xs) ∧ ForW (Itl K a) g tb D σ H1) ∨ ((∃ xs, SqT K H1 a xs) ∧ ForW (Itt K a) g tb D σ H1))) := ⟨fun h => h⟩
/-! ## Data2 -/
/-! ### rows of ints -/
theorem at_isI {H : Hp} {v : V} {d : Dt} (h : At H v d) : vI v = d.isI := by
  cases h <;> rfl
def isInts (l : Bool) (n : Int) : Dt → Bool
  | .lst ds => l && ((decide (n < 0) || decide ((ds.length : Int) = n)) && ds.all Dt.isI)
  | .tup ds => !l && ((decide (n < 0) || decide ((ds.length : Int) = n)) && ds.all Dt.isI)
  | _ => false
def sp_is_ints (K : PySem.W.Frag) : Sp := fun vs H Q _ => ∃ (v : V) (l : Bool) (n : Int) (d : Dt), vs = [v, .bl l, .int n] ∧ At H v d ∧ Q (.bl (isInts l n d)) H
theorem c_is_ints {K : PySem.W.Frag} {v : V} {l : Bool} {n : Int} {d : Dt} {H : Hp} {Q : VK} {E : XK} (h : At H v d) (q : Q (.bl (isInts l n d)) H) : sp_is_ints K [v, .bl l, .int n] H Q E := ⟨v, l, n, d, rfl, h, q⟩
def N_l_is_ints : List Str := ["_law_value", "_law_listed", "_law_many", "_law_one"]
def t_l_is_ints (K : PySem.W.Frag) : TS := (tSeq (tIfS (tOr (tAnd (tB (tVar 1)) (tNot (tB (tCB (rIsi K) (tCons (tVar 0) (tCons (tC (.ty "list")) tNil)))))) (tAnd (tNot (tB (tVar 1))) (tNot (tB (tCB (rIsi K) (tCons (tVar 0) (tCons (tC (.ty "tuple")) tNil))))))) (tRet (tC (.bl false))) tNext)
  (tSeq (tIfS (tAnd (tTest (tOp oGe (tVar 2) (tC (.int 0)))) (tTest (tOp rNe (tCB (rLen K) (tCons (tVar 0) tNil)) (tVar 2)))) (tRet (tC (.bl false))) tNext)
  (tSeq (tFor (iSeq K (tVar 0)) (gName 3) (tIfS (tNot (tB (tCall (sp_is_int K) [] E0 (tCons (tVar 3) tNil)))) (tRet (tC (.bl false))) tNext))
  (tRet (tC (.bl true))))))
theorem ints_row {K : PySem.W.Frag} {H : Hp} {Q : VK} {xs : List V} {ds : List Dt} {J : It} {nx bk ct : St → Hp → Prop} {σ0 : List (Option V)} {x0 : Option V} (hJ : ∀ (Pv : Nat → St → Hp → Prop), Pv 0 (σ0 ++ [x0]) H → (∀ i σ' H', Pv i σ' H' → H' = H) → (∀ i x σ' H', xs[i]? = some x → Pv i σ' H' → gName 3 x σ' H' fun σ2 H2 => tIfS (tNot (tB (tCall (sp_is_int K) [] E0 (tCons (tVar 3) tNil)))) (tRet (tC (.bl false))) tNext ⟨Pv (i + 1), Q, nx, Pv (i + 1)⟩ σ2 H2) → (∀ σ' H', Pv xs.length σ' H' → nx σ' H') → ForW J (gName 3) (tIfS (tNot (tB (tCall (sp_is_int K) [] E0 (tCons (tVar 3) tNil)))) (tRet (tC (.bl false))) tNext) ⟨nx, Q, bk, ct⟩ (σ0 ++ [x0]) H)
    (h0 : σ0.length = 3) (h : Ats H xs ds) (k1 : ds.all Dt.isI = true → ∀ σ', nx σ' H) (k2 : ds.all Dt.isI = false → Q (.bl false) H) : ForW J (gName 3) (tIfS (tNot (tB (tCall (sp_is_int K) [] E0 (tCons (tVar 3) tNil)))) (tRet (tC (.bl false))) tNext) ⟨nx, Q, bk, ct⟩ (σ0 ++ [x0]) H := by
  match σ0, h0 with
  | [a1, a2, a3], _ =>
    refine hJ (fun i σ' H' => H' = H ∧ (ds.take i).all Dt.isI = true ∧ ∃ y, σ' = [a1, a2, a3] ++ [y]) ⟨rfl, rfl, x0, rfl⟩ (fun i σ' H' h => h.1) ?_ ?_
    · rintro i x σ' H' hx ⟨rfl, ht, y, rfl⟩
      have hi := (List.getElem?_eq_some_iff.mp hx).1
      have hl := h.length
      obtain ⟨d, hd⟩ : ∃ d, ds[i]? = some d := ⟨_, List.getElem?_eq_getElem (by omega)⟩
      obtain ⟨va, ea, ha⟩ := h.get hd
      rw [hx] at ea
      obtain rfl : x = va := Option.some.inj ea
      fold_lay
      refine c_is_int ha.ty ?_
      rw [at_isI ha]
      fold_lay
      refine i_ifb (fun z => ?_) (fun z => ?_)
      · fold_lay
        refine k2 ?_
        rw [← Bool.not_eq_true]
        intro w
        have := List.all_eq_true.mp w d (List.mem_of_getElem? hd)
        rw [this] at z
        cases z
      · fold_lay
        refine ⟨rfl, ?_, _, rfl⟩
        rw [take_more hd, List.all_append, ht]
        simpa using z
    · rintro σ' H' ⟨rfl, ht, y, rfl⟩
      rw [h.length, List.take_length] at ht
      exact k1 ht _
theorem pure_is_ints {K : PySem.W.Frag} {vs : List V} {H : Hp} {Q : VK} {E : XK} (h : sp_is_ints K vs H Q E) : t_l_is_ints K { nx := fun _ H' => Q .non H', rt := Q } (start N_l_is_ints vs) H := by
  obtain ⟨v, l, n, d, rfl, h1, k⟩ := h
  unfold t_l_is_ints
  have t1 := h1.ty
  cases h1 with
  | non => simp only [Dt.ty] at t1; cases l <;> kbj_rows <;> exact k
  | bl b => simp only [Dt.ty] at t1; cases l <;> kbj_rows <;> exact k
  | int i => simp only [Dt.ty] at t1; cases l <;> kbj_rows <;> exact k
  | str x => simp only [Dt.ty] at t1; cases l <;> kbj_rows <;> exact k
  | dic ea ha => simp only [Dt.ty] at t1; cases l <;> kbj_rows <;> exact k
  | @lst a xs ds ea ha =>
    simp only [Dt.ty] at t1
    have hl := ha.length
    cases l
    · kbj_rows; exact k
    fold_depth
    refine i_cut (fun σ' H' => H' = H ∧ (decide (n < 0) || decide ((ds.length : Int) = n)) = true ∧ σ' = [some (.ref a), some (.bl true), some (.int n), none]) ?_ (fun nx key => ?_)
    · rintro σ' H' ⟨rfl, hc, rfl⟩
      fold_depth
      refine ⟨a, rfl, .inl ⟨⟨_, sqL ea⟩, ?_⟩⟩
      refine ints_row (σ0 := [some (.ref a), some (.bl true), some (.int n)]) (fun Pv p0 pe ps pd => l_lst (xs := xs) Pv p0 (fun i σ' H' _ h => sqL (by rw [pe i σ' H' h]; exact ea)) ps pd) rfl ha (fun w σ' => ?_) (fun w => ?_)
      · fold_lay
        simpa [isInts, hc, w] using k
      · simpa [isInts, hc, w] using k
    · fold_lay
      refine i_ifd (fun h1 => ?_) (fun h1 => ?_)
      · fold_lay
        refine i_ifn (fun h2 => ?_) (fun h2 => ?_)
        · fold_lay
          have : (decide (n < 0) || decide ((ds.length : Int) = n)) = false := by simp; omega
          simpa [isInts, this] using k
        · fold_lay
          exact key _ _ ⟨rfl, by simp; omega, rfl⟩
      · fold_lay
        exact key _ _ ⟨rfl, by simp; omega, rfl⟩
  | @tup a xs ds ea ha =>
    simp only [Dt.ty] at t1
    have hl := ha.length
    cases l
    rotate_left
    · kbj_rows; exact k
    fold_depth
    refine i_cut (fun σ' H' => H' = H ∧ (decide (n < 0) || decide ((ds.length : Int) = n)) = true ∧ σ' = [some (.ref a), some (.bl false), some (.int n), none]) ?_ (fun nx key => ?_)
    · rintro σ' H' ⟨rfl, hc, rfl⟩
      fold_depth
      refine ⟨a, rfl, .inr ⟨⟨_, sqT ea⟩, ?_⟩⟩
      refine ints_row (σ0 := [some (.ref a), some (.bl false), some (.int n)]) (fun Pv p0 pe ps pd => l_tup (xs := xs) Pv p0 (fun i σ' H' _ h => sqT (by rw [pe i σ' H' h]; exact ea)) ps pd) rfl ha (fun w σ' => ?_) (fun w => ?_)
      · fold_lay
        simpa [isInts, hc, w] using k
      · simpa [isInts, hc, w] using k
    · fold_lay
      refine i_ifd (fun h1 => ?_) (fun h1 => ?_)
      · fold_lay
        refine i_ifn (fun h2 => ?_) (fun h2 => ?_)
        · fold_lay
          have : (decide (n < 0) || decide ((ds.length : Int) = n)) = false := by simp; omega
          simpa [isInts, this] using k
        · fold_lay
          exact key _ _ ⟨rfl, by simp; omega, rfl⟩
      · fold_lay
        exact key _ _ ⟨rfl, by simp; omega, rfl⟩
/-! ## Within -/
/-! ### within a range -/
def sp_is_within (K : PySem.W.Frag) : Sp := fun vs H Q _ => ∃ (v : V) (n : String) (lo hi : Int), vs = [v, .int lo, .int hi] ∧ Ty0 H v n ∧ Q (.bl (vR lo hi v)) H
theorem c_is_within {K : PySem.W.Frag} {v : V} {n : String} {lo hi : Int} {H : Hp} {Q : VK} {E : XK} (h : Ty0 H v n) (q : Q (.bl (vR lo hi v)) H) : sp_is_within K [v, .int lo, .int hi] H Q E := ⟨v, n, lo, hi, rfl, h, q⟩
def N_l_is_within : List Str := ["_law_value", "_law_low", "_law_high"]
def t_l_is_within (K : PySem.W.Frag) : TS := (tRet (tAndV (tCall (sp_is_int K) [] E0 (tCons (tVar 0) tNil)) (tChain oLe oLe (tVar 1) (tVar 0) (tVar 2))))
theorem pure_is_within {K : PySem.W.Frag} {vs : List V} {H : Hp} {Q : VK} {E : XK} (h : sp_is_within K vs H Q E) : t_l_is_within K { nx := fun _ H' => Q .non H', rt := Q } (start N_l_is_within vs) H := by
  obtain ⟨v, n, lo, hi, rfl, ht, k⟩ := h
  unfold t_l_is_within
  fold_lay
  refine c_is_int ht ?_
  fold_lay
  refine i_ifb (fun h => ?_) (fun h => ?_)
  · obtain ⟨i, rfl⟩ := vI_int h
    fold_lay
    refine i_ifd (fun h1 => ?_) (fun h1 => ?_)
    · fold_lay
      simpa [vR, h1] using k
    · simpa [vR, h1] using k
  · rw [vR_no h] at k
    exact k
/-! ## Told -/
/-! ### refusals, asked under try -/
theorem i_isX {K : PySem.W.Frag} {H : Hp} {Q : VK} {a D dd C : Addr} {fs : List (Str × V)} {b : Bool} (ha : H a = some (exi a (.ref D) (some dd))) (hd : H dd = some (.xd fs)) (hD : ExcC K D) (e : PySem.W.kitOne K (.ref D) (.ref C) = some b) (q : Q (.bl b) H) : rIsX K [.ref a, .ref C] H Q :=
  ⟨a, D, dd, fs, .ref C, .ref C, b, rfl, .own C, ha, hd, hD, e, q⟩
theorem i_isXt {K : PySem.W.Frag} {H : Hp} {Q : VK} {a D dd : Addr} {t : String} {fs : List (Str × V)} {b : Bool} (ha : H a = some (exi a (.ref D) (some dd))) (hd : H dd = some (.xd fs)) (hD : ExcC K D) (e : PySem.W.kitOne K (.ref D) (.type t) = some b) (q : Q (.bl b) H) : rIsX K [.ref a, .ty t] H Q :=
  ⟨a, D, dd, fs, .ty t, .type t, b, rfl, .ty t, ha, hd, hD, e, q⟩
theorem i_xt {K : PySem.W.Frag} {σ : St} {H : Hp} {Q : VK} {f : Str} {te : TE} (h : te σ H fun x H1 => ∃ (a C dd : Addr) (fs : List (Str × V)) (v : V), x = .ref a ∧ H1 a = some (exi a (.ref C) (some dd)) ∧ XfC K C ∧ PySem.W.findIn K (.ref C) f = some none ∧ H1 dd = some (.xd fs) ∧ fs.lookup f = some v ∧ Q v H1) : tXt K f te σ H Q := h
instance s_xt {K : PySem.W.Frag} {σ : St} {H : Hp} {Q : VK} {f : Str} {te : TE} : Stp (tXt K f te σ H Q) (te σ H fun x H1 => ∃ (a C dd : Addr) (fs : List (Str × V)) (v : V), x = .ref a ∧ H1 a = some (exi a (.ref C) (some dd)) ∧ XfC K C ∧ PySem.W.findIn K (.ref C) f = some none ∧ H1 dd = some (.xd fs) ∧ fs.lookup f = some v ∧ Q v H1) := ⟨i_xt⟩
theorem i_cat {H : Hp} {Q : VK} {l b : Addr} {xs zs : List V} (h1 : H l = some (.lst xs)) (h2 : H b = some (.lst zs)) (hz : xs.length + zs.length ≤ 100000) (q : ∀ p, H p = none → Q (.ref p) (upd H p (.lst (xs ++ zs)))) : rCat (.ref l) (.ref b) H Q := ⟨l, b, xs, zs, rfl, rfl, h1, h2, sz hz, q⟩
theorem lk_told {s : V} {t : Addr} : List.lookup ("told" : Str) [("told", V.ref t), ("parameter", s)] = some (V.ref t) := by
  have e : (("told" : Str) == ("told" : Str)) = true := beq_self_eq_true _
  simp only [List.lookup, e]
theorem lk_param {s : V} {t : Addr} : List.lookup ("parameter" : Str) [("told", V.ref t), ("parameter", s)] = some s := by
  have e : (("parameter" : Str) == ("told" : Str)) = false := by decide
  have e2 : (("parameter" : Str) == ("parameter" : Str)) = true := beq_self_eq_true _
  simp only [List.lookup, e, e2]
theorem i_callS {sp : Sp} {E : St → XK} {t : TA} {σ : St} {H : Hp} {Q : VK} (h : t σ H fun vs H1 => sp vs H1 Q (E σ)) : tCallS sp E t σ H Q := h
instance s_callS {sp : Sp} {E : St → XK} {t : TA} {σ : St} {H : Hp} {Q : VK} : Stp (tCallS sp E t σ H Q) (t σ H fun vs H1 => sp vs H1 Q (E σ)) := ⟨i_callS⟩
theorem i_try {K : PySem.W.Frag} {c : Value} {i : Nat} {tb : WX → TS} {ts : TS} {Wout : WX} {D : Ends} {σ : St} {H : Hp} (h : tb (wAsT K c i ts Wout D) D σ H) : tTryT K c i tb ts Wout D σ H := h
instance s_try {K : PySem.W.Frag} {c : Value} {i : Nat} {tb : WX → TS} {ts : TS} {Wout : WX} {D : Ends} {σ : St} {H : Hp} : Stp (tTryT K c i tb ts Wout D σ H) (tb (wAsT K c i ts Wout D) D σ H) := ⟨i_try⟩
def titles : List Str := ["BadValue", "Broken", "Unknown", "NotHeld", "Fault", "NoRoom", "Cut", "BadLine"]
theorem Ats_bls {H : Hp} : ∀ l : List Bool, Ats H (l.map V.bl) (l.map Dt.bl)
  | [] => .nil
  | b :: r => .cons (.bl b) (Ats_bls r)
theorem getS {l : List Str} {i : Nat} {y : V} (hi : (l.map V.str)[i]? = some y) : ∃ z, l[i]? = some z ∧ y = V.str z := by
  rw [List.getElem?_map, Option.map_eq_some_iff] at hi
  exact hi.elim fun z h => ⟨z, h.1, h.2.symm⟩
/-- which of the ten classes an exception of class D is of -/
structure ExK (K : PySem.W.Frag) (c : Cl) (D : Addr) (k3 k4 k5 k6 k7 k8 k9 k10 : Bool) : Prop where
  ex : ExcC K D
  xf : XfC K D
  i1 : PySem.W.kitOne K (.ref D) (.ref c.k_StoreError) = some true
  i2 : PySem.W.kitOne K (.ref D) (.type "ValueError") = some true
  i3 : PySem.W.kitOne K (.ref D) (.ref c.k_BadValue) = some k3
  i4 : PySem.W.kitOne K (.ref D) (.ref c.k_Broken) = some k4
  i5 : PySem.W.kitOne K (.ref D) (.ref c.k_Unknown) = some k5
  i6 : PySem.W.kitOne K (.ref D) (.ref c.k_NotHeld) = some k6
  i7 : PySem.W.kitOne K (.ref D) (.ref c.k_Fault) = some k7
  i8 : PySem.W.kitOne K (.ref D) (.ref c.k_NoRoom) = some k8
  i9 : PySem.W.kitOne K (.ref D) (.ref c.k_Cut) = some k9
  i10 : PySem.W.kitOne K (.ref D) (.ref c.k_BadLine) = some k10
def sp_kinds (K : PySem.W.Frag) (c : Cl) : Sp := fun vs H Q _ => ∃ (e d D : Addr) (fs : List (Str × V)) (k3 k4 k5 k6 k7 k8 k9 k10 : Bool), vs = [.ref e] ∧ H e = some (exi e (.ref D) (some d)) ∧ H d = some (.xd fs) ∧ ExK K c D k3 k4 k5 k6 k7 k8 k9 k10 ∧
  ∀ p, H p = none → Q (.ref p) (upd H p (.lst ([true, true, k3, k4, k5, k6, k7, k8, k9, k10].map V.bl)))
def N_l_kinds : List Str := ["_law_error"]
def t_l_kinds (K : PySem.W.Frag) (c : Cl) : TS := (tRet (tLst (tCons (tCB (rIsX K) (tCons (tVar 0) (tCons (tC (.ref c.k_StoreError)) tNil))) (tCons (tCB (rIsX K) (tCons (tVar 0) (tCons (tC (.ty "ValueError")) tNil))) (tCons (tCB (rIsX K) (tCons (tVar 0) (tCons (tC (.ref c.k_BadValue)) tNil))) (tCons (tCB (rIsX K) (tCons (tVar 0) (tCons (tC (.ref c.k_Broken)) tNil))) (tCons (tCB (rIsX K) (tCons (tVar 0) (tCons (tC (.ref c.k_Unknown)) tNil))) (tCons (tCB (rIsX K) (tCons (tVar 0) (tCons (tC (.ref c.k_NotHeld)) tNil))) (tCons (tCB (rIsX K) (tCons (tVar 0) (tCons (tC (.ref c.k_Fault)) tNil))) (tCons (tCB (rIsX K) (tCons (tVar 0) (tCons (tC (.ref c.k_NoRoom)) tNil))) (tCons (tCB (rIsX K) (tCons (tVar 0) (tCons (tC (.ref c.k_Cut)) tNil))) (tCons (tCB (rIsX K) (tCons (tVar 0) (tCons (tC (.ref c.k_BadLine)) tNil))) tNil))))))))))))
theorem pure_kinds {K : PySem.W.Frag} {c : Cl} {vs : List V} {H : Hp} {Q : VK} {E : XK} (h : sp_kinds K c vs H Q E) : t_l_kinds K c { nx := fun _ H' => Q .non H', rt := Q } (start N_l_kinds vs) H := by
  obtain ⟨e, d, D, fs, k3, k4, k5, k6, k7, k8, k9, k10, rfl, he, hd, R, k⟩ := h
  unfold t_l_kinds
  fold_lay
  refine i_isX he hd R.ex R.i1 ?_
  fold_lay
  refine i_isXt he hd R.ex R.i2 ?_
  fold_lay
  refine i_isX he hd R.ex R.i3 ?_
  fold_lay
  refine i_isX he hd R.ex R.i4 ?_
  fold_lay
  refine i_isX he hd R.ex R.i5 ?_
  fold_lay
  refine i_isX he hd R.ex R.i6 ?_
  fold_lay
  refine i_isX he hd R.ex R.i7 ?_
  fold_lay
  refine i_isX he hd R.ex R.i8 ?_
  fold_lay
  refine i_isX he hd R.ex R.i9 ?_
  fold_lay
  refine i_isX he hd R.ex R.i10 ?_
  fold_lay
  rename_i p hp
  exact k p hp
/-- BadValue, all that is asked of it -/
structure BvK (K : PySem.W.Frag) (c : Cl) : Prop where
  bv : BvC K c.k_BadValue
  kd : ExK K c c.k_BadValue true false false false false false false false
  ht : PySem.W.exmOne K (.ref c.k_BadValue) (.ref c.k_BadValue) = some true
def yes (t : Str) : List Bool := titles.map fun s : Str => decide (s = t)
def refD2 (t : Str) (fd : Dt) : Dt := .lst [.str "refused", .tup [.str t, fd], fd, .lst (([true, true] ++ yes t).map Dt.bl)]
theorem yes_bad : yes "BadValue" = [true, false, false, false, false, false, false, false] := by decide +kernel
def sp_refused : Sp := fun vs H Q _ => ∃ (t : Str) (v : V) (fd : Dt), vs = [.str t, v] ∧ At H v fd ∧ ∀ w H', At H' w (refD2 t fd) → Same H H' → Q w H'
theorem c_refused {t : Str} {v : V} {fd : Dt} {H : Hp} {Q : VK} {E : XK} (h : At H v fd) (k : ∀ w H', At H' w (refD2 t fd) → Same H H' → Q w H') : sp_refused [.str t, v] H Q E := ⟨t, v, fd, rfl, h, k⟩
def N_l_refused : List Str := ["_law_title", "_law_fields", "_law_titles", "_law_one"]
def t_l_refused (K : PySem.W.Frag) : TS := (tSeq (tAsg (tLst (tCons (tC (.str "BadValue")) (tCons (tC (.str "Broken")) (tCons (tC (.str "Unknown")) (tCons (tC (.str "NotHeld")) (tCons (tC (.str "Fault")) (tCons (tC (.str "NoRoom")) (tCons (tC (.str "Cut")) (tCons (tC (.str "BadLine")) tNil))))))))) (gName 2))
  (tRet (tLst (tCons (tC (.str "refused")) (tCons (tTup (tCons (tVar 0) (tCons (tVar 1) tNil))) (tCons (tVar 1) (tCons (tOp rCat (tLst (tCons (tC (.bl true)) (tCons (tC (.bl true)) tNil))) (tLc (iList K (tVar 2)) (gName 3) tYes (tOp rEq (tVar 3) (tVar 0)) [3])) tNil)))))))
theorem pure_refused {K : PySem.W.Frag} {vs : List V} {H : Hp} {Q : VK} {E : XK} (h : sp_refused vs H Q E) : t_l_refused K { nx := fun _ H' => Q .non H', rt := Q } (start N_l_refused vs) H := by
  obtain ⟨t, v, fd, rfl, hv, k⟩ := h
  unfold t_l_refused
  fold_lay
  rename_i p hp q hq r hr
  have s1 : Same H (upd H p (.lst [.str "BadValue", .str "Broken", .str "Unknown", .str "NotHeld", .str "Fault", .str "NoRoom", .str "Cut", .str "BadLine"])) := same_new hp
  have s2 : Same H (upd (upd H p (.lst [.str "BadValue", .str "Broken", .str "Unknown", .str "NotHeld", .str "Fault", .str "NoRoom", .str "Cut", .str "BadLine"])) q (.tup [.str t, v])) := s1.trans (same_new hq)
  have s3 : Same H (upd (upd (upd H p (.lst [.str "BadValue", .str "Broken", .str "Unknown", .str "NotHeld", .str "Fault", .str "NoRoom", .str "Cut", .str "BadLine"])) q (.tup [.str t, v])) r (.lst [.bl true, .bl true])) := s2.trans (same_new hr)
  have hp3 : upd (upd (upd H p (.lst [.str "BadValue", .str "Broken", .str "Unknown", .str "NotHeld", .str "Fault", .str "NoRoom", .str "Cut", .str "BadLine"])) q (.tup [.str t, v])) r (.lst [.bl true, .bl true]) p = some (.lst [.str "BadValue", .str "Broken", .str "Unknown", .str "NotHeld", .str "Fault", .str "NoRoom", .str "Cut", .str "BadLine"]) := upd_keep hr (upd_keep hq upd_same)
  have hq3 : upd (upd (upd H p (.lst [.str "BadValue", .str "Broken", .str "Unknown", .str "NotHeld", .str "Fault", .str "NoRoom", .str "Cut", .str "BadLine"])) q (.tup [.str t, v])) r (.lst [.bl true, .bl true]) q = some (.tup [.str t, v]) := upd_keep hr upd_same
  have hr3 : upd (upd (upd H p (.lst [.str "BadValue", .str "Broken", .str "Unknown", .str "NotHeld", .str "Fault", .str "NoRoom", .str "Cut", .str "BadLine"])) q (.tup [.str t, v])) r (.lst [.bl true, .bl true]) r = some (.lst [.bl true, .bl true]) := upd_same
  generalize upd (upd (upd H p (.lst [.str "BadValue", .str "Broken", .str "Unknown", .str "NotHeld", .str "Fault", .str "NoRoom", .str "Cut", .str "BadLine"])) q (.tup [.str t, v])) r (.lst [.bl true, .bl true]) = H3 at s3 hp3 hq3 hr3
  have hp3 : H3 p = some (.lst (titles.map V.str)) := hp3
  refine c_lst (xs := titles.map V.str) (sqL hp3) (m_lst (xs := titles.map V.str) (fun D i H' => Same H3 H' ∧ H3 D = none ∧ H' D = some (.lst (((titles.take i).map (fun s : Str => decide (s = t))).map V.bl))) ?_ ?_ ?_ ?_)
  · exact fun D hD => ⟨same_new hD, hD, upd_same⟩
  · exact fun D i H' _ h => sqL (h.1 _ _ hp3)
  · rintro D i x H' hx ⟨a1, a2, a3⟩
    obtain ⟨z, hz, rfl⟩ := getS hx
    fold_lay
    refine ⟨rfl, ?_⟩
    fold_lay
    refine ⟨_, a3, szl (by have : titles.length = 8 := rfl; simp; omega), ?_, a2, ?_⟩
    · exact fun b o e => upd_off (ne_of_none e a2) (a1 b o e)
    · rw [upd_same, take_more hz, List.map_append, List.map_append]
      rfl
  · rintro D H' ⟨a1, a2, a3⟩
    rw [List.length_map, List.take_length] at a3
    refine i_cat (a1 _ _ hr3) a3 (by have : titles.length = 8 := rfl; simp; omega) fun l hl => ?_
    fold_lay
    rename_i m hm
    have s5 := (a1.trans (same_new (o := .lst ([.bl true, .bl true] ++ (titles.map (fun s : Str => decide (s = t))).map V.bl)) hl)).trans (same_new (o := .lst [.str "refused", .ref q, v, .ref l]) hm)
    refine k _ _ (.lst upd_same (.cons (.str _) (.cons (.tup (s5 _ _ hq3) (.cons (.str _) (.cons (hv.mono (s3.trans s5)) .nil))) (.cons (hv.mono (s3.trans s5)) (.cons (.lst (upd_keep hm upd_same) ?_) .nil))))) (s3.trans s5)
    have := Ats_bls (H := upd (upd H' l (.lst ([.bl true, .bl true] ++ (titles.map (fun s : Str => decide (s = t))).map V.bl))) m (.lst [.str "refused", .ref q, v, .ref l])) ([true, true] ++ yes t)
    rw [List.map_append] at this
    exact this
/-! ## Told4 -/
/-! ### the except suite that tells a refusal as a row -/
def tRefu (K : PySem.W.Frag) (c : Cl) (i : Nat) : TS := tRet (tLst (tCons (tC (.str "refused")) (tCons (tXt K "told" (tVar i)) (tCons (tTup (tCons (tXt K "parameter" (tVar i)) tNil)) (tCons (tCall (sp_kinds K c) [] E0 (tCons (tVar i) tNil)) tNil)))))
theorem refu {K : PySem.W.Frag} {c : Cl} {i : Nat} {σ : St} {H : Hp} {t : Str} {d e : Addr} {nx bk ct : St → Hp → Prop} {rt : VK} (R : BvK K c) (hσ : σ[i]? = some (some (.ref e))) (he : H e = none) (hB : BadAt H d (.str t)) (k : ∀ v H', At H' v (refD2 "BadValue" (.tup [.str t])) → Same H H' → rt v H') :
    tRefu K c i ⟨nx, rt, bk, ct⟩ σ (upd H e (exi e (.ref c.k_BadValue) (some d))) := by
  obtain ⟨u1, u2, g1, g2, g3⟩ := hB
  unfold tRefu
  fold_lay
  refine i_var hσ ?_
  refine ⟨e, c.k_BadValue, d, _, .ref u2, rfl, upd_same, R.kd.xf, R.bv.nt, upd_keep he g1, lk_told, ?_⟩
  fold_lay
  refine i_var hσ ?_
  refine ⟨e, c.k_BadValue, d, _, .str t, rfl, upd_same, R.kd.xf, R.bv.np, upd_keep he g1, lk_param, ?_⟩
  fold_lay
  rename_i p hp
  refine i_var hσ ?_
  fold_lay
  refine ⟨e, d, c.k_BadValue, _, true, false, false, false, false, false, false, false, rfl, upd_keep hp upd_same, upd_keep hp (upd_keep he g1), R.kd, fun q hq => ?_⟩
  fold_lay
  rename_i r hr
  refine k _ _ (.lst upd_same (.cons (.str _) (.cons (.tup (by kct_strs) (.cons (.str _) (.cons (.tup (by kct_strs) (.cons (.str _) .nil)) .nil))) (.cons (.tup (by kct_strs) (.cons (.str _) .nil)) (.cons (.lst (by kct_strs) ?_) .nil))))) (by mem_news)
  rw [yes_bad]
  exact Ats_bls _
/-! ## Plain -/
/-! ### any integer, text, plain value -/
def rJoin (K : PySem.W.Frag) : V → List V → Hp → VK → Prop := fun x xs H Q => ∃ a p, ∃ ys : List Str, x = .str a ∧ xs = [.ref p] ∧ (SqL K H p (ys.map V.str) ∨ SqT K H p (ys.map V.str)) ∧ (ys.map (·.length)).sum + ys.length * a.length ≤ 16777216 ∧ Q (.str (Txt.join a ys)) H
instance s_m1 {r : V → List V → Hp → VK → Prop} {to te : TE} {σ : St} {H : Hp} {Q : VK} : Stp (tM1 r to te σ H Q) (to σ H fun x H1 => (∃ a, x = .str a) ∧ te σ H1 fun y H2 => r x [y] H2 Q) := ⟨fun h => h⟩
/-- no integer that is drawn is above -/
def big : Int := 2 ^ 3400
theorem big_lng : lng + 10000000000000000000000000000000000000000000000000000000000000000 ≤ big := by decide +kernel
theorem big_ten : 100000000000000000000000000000000000000000000000000000000000000000000 ≤ big := by decide +kernel
def Dt.sm : Dt → Prop
  | .int i => i ≤ big
  | _ => True
def sp_integer : Sp := fun vs H Q _ => ∃ (d s : Addr), vs = [.ref d] ∧ Dr d s H ∧ ∀ i H', i ≤ big → Dr d s H' → Same (hid s H) (hid s H') → Q (.int i) H'
theorem c_integer {d s : Addr} {H : Hp} {Q : VK} {E : XK} (hD : Dr d s H) (k : ∀ i H', i ≤ big → Dr d s H' → Same (hid s H) (hid s H') → Q (.int i) H') : sp_integer [.ref d] H Q E := ⟨d, s, rfl, hD, k⟩
theorem ten64 : (10 : Int) ^ (64 : Int).toNat = 10000000000000000000000000000000000000000000000000000000000000000 := by decide +kernel
theorem ten9 : (10 : Int) ^ (9 : Int).toNat = 1000000000 := by decide
def N_l_integer : List Str := ["_law_draws_here", "_law_kind", "_law_value"]
def t_l_integer (K : PySem.W.Frag) : TS := (tSeq (tAsg (tCall sp_take [] E0 (tCons (tVar 0) (tCons (tC (.int 8)) tNil))) (gName 1))
  (tSeq (tIfS (tTest (tOp oLt (tVar 1) (tC (.int 4)))) (tRet (tOp oSub (tCall sp_take [] E0 (tCons (tVar 0) (tCons (tC (.int 12)) tNil))) (tC (.int 2)))) tNext)
  (tSeq (tIfS (tTest (tOp rEq (tVar 1) (tC (.int 4)))) (tRet (tCall sp_take [] E0 (tCons (tVar 0) (tCons (tC (.int 70000)) tNil)))) tNext)
  (tSeq (tIfS (tTest (tOp rEq (tVar 1) (tC (.int 5)))) (tRet (tCall sp_take [] E0 (tCons (tVar 0) (tCons (tOp oAdd (tOp oPow (tC (.int 10)) (tC (.int 9))) (tC (.int 10))) tNil)))) tNext)
  (tSeq (tAsg (tOp oAdd (tOp oPow (tC (.int 10)) (tC (.int 30))) (tCall sp_take [] E0 (tCons (tVar 0) (tCons (tOp oPow (tC (.int 10)) (tC (.int 30))) tNil)))) (gName 2))
  (tSeq (tIfS (tTest (tOp rEq (tVar 1) (tC (.int 7)))) (tAsg (tOp oAdd (tCall sp_long [] E0 tNil) (tCall sp_take [] E0 (tCons (tVar 0) (tCons (tOp oPow (tC (.int 10)) (tC (.int 64))) tNil)))) (gName 2)) tNext)
  (tSeq (tIfS (tTest (tOp rEq (tCall sp_take [] E0 (tCons (tVar 0) (tCons (tC (.int 2)) tNil))) (tC (.int 1)))) (tRet (tUn oNeg (tVar 2))) tNext)
  (tRet (tVar 2)))))))))
theorem pure_integer {K : PySem.W.Frag} {vs : List V} {H : Hp} {Q : VK} {E : XK} (h : sp_integer vs H Q E) : t_l_integer K { nx := fun _ H' => Q .non H', rt := Q } (start N_l_integer vs) H := by
  obtain ⟨d, s, rfl, hD, k⟩ := h
  have b1 := big_lng
  have b2 := big_ten
  unfold t_l_integer
  fold_lay
  refine c_take hD (by omega) fun kd H1 _ _ hD1 s1 => ?_
  fold_lay; fold_depth
  refine i_ifd (fun _ => ?_) (fun _ => ?_)
  · fold_lay
    refine c_take hD1 (by omega) fun w H2 w0 w1 hD2 s2 => ?_
    fold_lay
    exact k _ _ (by omega) hD2 (by mem_news)
  fold_lay; fold_depth
  refine i_ifd (fun _ => ?_) (fun _ => ?_)
  · fold_lay
    exact c_take hD1 (by omega) fun w H2 w0 w1 hD2 s2 => k _ _ (by omega) hD2 (by mem_news)
  fold_lay; fold_depth
  refine i_ifd (fun _ => ?_) (fun _ => ?_)
  · fold_lay
    rw [ten9]
    exact c_take hD1 (by omega) fun w H2 w0 w1 hD2 s2 => k _ _ (by omega) hD2 (by mem_news)
  fold_lay
  rw [ten30]
  refine c_take hD1 (by omega) fun w H2 w0 w1 hD2 s2 => ?_
  fold_lay
  refine i_cut (fun σ' H' => ∃ x, 0 ≤ x ∧ x ≤ big ∧ σ' = [some (.ref d), some (.int kd), some (.int x)] ∧ Dr d s H' ∧ Same (hid s H) (hid s H')) ?_ (fun nx key => ?_)
  rotate_left
  · fold_lay
    refine i_ifd (fun _ => ?_) (fun _ => ?_)
    · fold_lay
      refine ⟨rfl, ?_⟩
      fold_lay
      rw [ten64]
      refine c_take hD2 (by omega) fun w2 H3 w20 w21 hD3 s3 => ?_
      fold_lay
      have b3 := lng_big
      exact key _ _ ⟨_, by omega, by omega, rfl, hD3, by mem_news⟩
    · fold_lay
      exact key _ _ ⟨_, by omega, by omega, rfl, hD2, by mem_news⟩
  rintro σ' H3 ⟨x, x0, x1, rfl, hD3, s3⟩
  fold_depth
  refine c_take hD3 (by omega) fun w2 H4 _ _ hD4 s4 => ?_
  fold_lay
  refine i_ifd (fun _ => ?_) (fun _ => ?_)
  · fold_lay
    exact k _ _ (by omega) hD4 (by mem_news)
  · fold_lay
    exact k _ _ (by omega) hD4 (by mem_news)
def chs : Str := Str.ofString " !\"#$&'()*+,-./0123456789:;<=>?@ABCDEFGHIJKLMNOPQRSTUVWXYZ[\\]^_`" ++ Str.ofString "abcdefghijklmnopqrstuvwxyz{|}~\n"
theorem chs_len : chs.length = 95 := by decide +kernel
theorem chs_lenL : chs.cps.toList.length = 95 := by decide +kernel
def sp_chars : Sp := fun vs H Q _ => vs = [] ∧ Q (.str chs) H
def N_l_chars : List Str := ["_law_chars_here"]
def t_l_chars (K : PySem.W.Frag) : TS := (tSeq (tAsg (tC (.str " !\"#$&'()*+,-./0123456789:;<=>?@ABCDEFGHIJKLMNOPQRSTUVWXYZ[\\]^_`")) (gName 0))
  (tRet (tOp oAddS (tVar 0) (tC (.str "abcdefghijklmnopqrstuvwxyz{|}~\n")))))
theorem pure_chars {K : PySem.W.Frag} {vs : List V} {H : Hp} {Q : VK} {E : XK} (h : sp_chars vs H Q E) : t_l_chars K { nx := fun _ H' => Q .non H', rt := Q } (start N_l_chars vs) H := by
  obtain ⟨rfl, k⟩ := h
  unfold t_l_chars
  fold_lay
  exact ⟨_, _, rfl, rfl, sz (by decide +kernel), k⟩
def sp_text : Sp := fun vs H Q _ => ∃ (d s : Addr) (m : Int), vs = [.ref d, .int m] ∧ Dr d s H ∧ m ≤ 1000 ∧ ∀ x H', Dr d s H' → Same (hid s H) (hid s H') → Q (.str x) H'
theorem c_text {d s : Addr} {m : Int} {H : Hp} {Q : VK} {E : XK} (hD : Dr d s H) (hm : m ≤ 1000) (k : ∀ x H', Dr d s H' → Same (hid s H) (hid s H') → Q (.str x) H') : sp_text [.ref d, .int m] H Q E := ⟨d, s, m, rfl, hD, hm, k⟩
theorem sum_ones : ∀ {ys : List Str}, (∀ y ∈ ys, y.length = 1) → (ys.map (·.length)).sum = ys.length
  | [], _ => rfl
  | y :: r, h => by
    have e := h y (by simp)
    rw [List.map_cons, List.sum_cons, sum_ones (fun z hz => h z (by simp [hz]))]
    show y.length + r.length = r.length + 1
    omega
def N_l_text : List Str := ["_law_draws_here", "_law_most", "_law_chars_here", "_law_k"]
def t_l_text (K : PySem.W.Frag) : TS := (tSeq (tAsg (tCall sp_chars [] E0 tNil) (gName 2))
  (tRet (tM1 (rJoin K) (tC (.str "")) (tLc (iRng1 (tCons (tCall sp_between [] E0 (tCons (tVar 0) (tCons (tC (.int 0)) (tCons (tVar 1) tNil)))) tNil)) (gName 3) tYes (tOp rIxS (tVar 2) (tCall sp_take [] E0 (tCons (tVar 0) (tCons (tC (.int 95)) tNil)))) [3]))))
theorem pure_text {K : PySem.W.Frag} {vs : List V} {H : Hp} {Q : VK} {E : XK} (h : sp_text vs H Q E) : t_l_text K { nx := fun _ H' => Q .non H', rt := Q } (start N_l_text vs) H := by
  obtain ⟨d, s, m, rfl, hD, hm, k⟩ := h
  unfold t_l_text
  fold_lay
  refine ⟨rfl, ?_⟩
  fold_lay
  refine ⟨⟨_, rfl⟩, ?_⟩
  fold_lay
  refine c_between hD (by omega) fun n H1 n0 n1 hD1 s1 => ?_
  fold_lay
  refine c_rng1 (by omega) (by omega) (m_rng (fun D i H' => Dr d s H' ∧ Same (hid s H1) (hid s H') ∧ H1 D = none ∧ ∃ ys : List Str, ys.length = i ∧ (∀ y ∈ ys, y.length = 1) ∧ H' D = some (.lst (ys.map V.str))) ?_ ?_ ?_)
  · exact fun D hD0 => ⟨by leaf_len, by mem_news, hD0, [], rfl, by simp, upd_same⟩
  · rintro D i H' hi ⟨hD', s', hD0, ys, hl, h1, hys⟩
    fold_lay
    refine ⟨rfl, ?_⟩
    fold_lay
    refine c_take hD' (by omega) fun v H2 v0 v1 hD2 s2 => ?_
    obtain ⟨cc, hc⟩ : ∃ cc, chs.cps.toList[v.toNat]? = some cc := ⟨_, List.getElem?_eq_getElem (by rw [chs_lenL]; omega)⟩
    refine ⟨chs, v, cc, rfl, rfl, sz (by rw [chs_len]; omega), (by rw [show v = ((v.toNat : Nat) : Int) by omega]; exact atI_nat hc), ?_⟩
    have nD : D ≠ s := hD1.ne hD0
    have hys2 : H2 D = some (.lst (ys.map V.str)) := by kct_strs
    refine ⟨_, hys2, szl (by rw [List.length_map]; omega), hD1.upd hD0 (by mem_news) hD2, hid_step hD0 (by mem_news), hD0, ys ++ [⟨#[cc]⟩], by rw [List.length_append, hl]; rfl, fun y hy => ?_, ?_⟩
    · rcases List.mem_append.mp hy with hy | hy
      · exact h1 y hy
      · rw [List.mem_singleton.mp hy]
        rfl
    · rw [upd_same, List.map_append]
      rfl
  · rintro D H' ⟨hD', s', hD0, ys, hl, h1, hys⟩
    refine ⟨_, D, ys, rfl, rfl, .inl (sqL hys), ?_, k _ _ hD' (by mem_news)⟩
    rw [sum_ones h1]
    show ys.length + ys.length * 0 ≤ _
    omega
def sp_plain : Nat → Sp
  | 0 => fun _ _ _ _ => False
  | n + 1 => fun vs H Q _ => ∃ (d s : Addr) (m : Nat), vs = [.ref d, .int m] ∧ m ≤ n ∧ Dr d s H ∧ ∀ v dt H', At (nw H H') v dt → dt.dep ≤ 2 * m + 2 → dt.okd = true → dt.sm → Dr d s H' → Same (hid s H) (hid s H') → Q v H'
theorem c_plain {n m : Nat} {d s : Addr} {H : Hp} {Q : VK} {E : XK} (hm : m ≤ n) (hD : Dr d s H) (k : ∀ v dt H', At (nw H H') v dt → dt.dep ≤ 2 * m + 2 → dt.okd = true → dt.sm → Dr d s H' → Same (hid s H) (hid s H') → Q v H') : sp_plain (n + 1) [.ref d, .int m] H Q E := ⟨d, s, m, rfl, hm, hD, k⟩
theorem depL_snoc : ∀ {l : List Dt} {d : Dt}, Dt.depL (l ++ [d]) = max (Dt.depL l) d.dep
  | [], d => by simp [Dt.depL]
  | x :: r, d => by
    rw [List.cons_append, Dt.depL, depL_snoc, Dt.depL]
    omega
theorem okL_snoc : ∀ {l : List Dt} {d : Dt}, Dt.okL (l ++ [d]) = (Dt.okL l && d.okd)
  | [], d => by simp [Dt.okL]
  | x :: r, d => by rw [List.cons_append, Dt.okL, okL_snoc, Dt.okL, Bool.and_assoc]
/-- what was new since H1 stays beside a growing row at D -/
theorem row_old {d s D : Addr} {H1 H' H2 : Hp} {o : HO} (h : Dr d s H1) (k : Same (hid s H') (hid s H2)) : Same (hid D (nw H1 H')) (hid D (nw H1 (upd H2 D o))) := fun b u e => by
  obtain ⟨e1, e2⟩ := hid_of e
  obtain ⟨e3, e4⟩ := nw_of e1
  exact hid_to (nw_to e3 (upd_off e2 (hget k (h.ne e3) e4))) e2
theorem row_new {d s D : Addr} {H1 H' H2 : Hp} {o o1 : HO} (h : Dr d s H') (k : Same (hid s H1) (hid s H')) (hD : H' D = some o1) : Same (nw H' H2) (hid D (nw H1 (upd H2 D o))) := fun b u e => by
  obtain ⟨e3, e4⟩ := nw_of e
  have nb : b ≠ D := fun z => by
    rw [z, hD] at e3
    cases e3
  exact hid_to (nw_to (dead2 e3 h k) (upd_off nb e4)) nb
theorem hid_nw {H H' : Hp} {D : Addr} : Same (hid D (nw H H')) (nw H H') := hid_same
def N_l_plain : List Str := ["_law_draws_here", "_law_deep", "_law_kind", "_law_parts", "_law_k"]
def t_l_plain (K : PySem.W.Frag) (n : Nat) : TS := (tSeq (tAsg (tCall sp_take [] E0 (tCons (tVar 0) (tCons (tC (.int 10)) tNil))) (gName 2))
  (tSeq (tIfS (tTest (tOp rEq (tVar 2) (tC (.int 0)))) (tRet (tC .non)) tNext)
  (tSeq (tIfS (tTest (tOp rEq (tVar 2) (tC (.int 1)))) (tRet (tOp rEq (tCall sp_take [] E0 (tCons (tVar 0) (tCons (tC (.int 2)) tNil))) (tC (.int 0)))) tNext)
  (tSeq (tIfS (tTest (tOp oLt (tVar 2) (tC (.int 5)))) (tRet (tCall sp_integer [] E0 (tCons (tVar 0) tNil))) tNext)
  (tSeq (tIfS (tTest (tOp rEq (tVar 2) (tC (.int 5)))) (tRet (tCall sp_text [] E0 (tCons (tVar 0) (tCons (tC (.int 4)) tNil)))) tNext)
  (tSeq (tAsg (tLst tNil) (gName 3))
  (tSeq (tIfS (tTest (tOp oGt (tVar 1) (tC (.int 0)))) (tAsg (tLc (iRng1 (tCons (tCall sp_take [] E0 (tCons (tVar 0) (tCons (tC (.int 4)) tNil))) tNil)) (gName 4) tYes (tCall (sp_plain n) [] E0 (tCons (tVar 0) (tCons (tOp oSub (tVar 1) (tC (.int 1))) tNil))) [4]) (gName 3)) tNext)
  (tSeq (tIfS (tTest (tOp oLt (tVar 2) (tC (.int 8)))) (tRet (tCB (rTupleOf K) (tCons (tVar 3) tNil))) tNext)
  (tSeq (tIfS (tTest (tOp rEq (tVar 2) (tC (.int 8)))) (tRet (tVar 3)) tNext)
  (tRet (tDisp [((tC (.str "a")), (tVar 3))])))))))))))
theorem pure_plain {K : PySem.W.Frag} {n : Nat} {vs : List V} {H : Hp} {Q : VK} {E : XK} (h : sp_plain (n + 1) vs H Q E) : t_l_plain K n { nx := fun _ H' => Q .non H', rt := Q } (start N_l_plain vs) H := by
  obtain ⟨d, s, n', rfl, hn, hD, k⟩ := h
  unfold t_l_plain
  fold_lay
  refine c_take hD (by omega) fun kd H1 _ _ hD1 s1 => ?_
  fold_lay; fold_depth
  refine i_ifd (fun _ => ?_) (fun _ => ?_)
  · fold_lay
    exact k _ _ _ .non (Nat.zero_le _) rfl trivial hD1 s1
  fold_lay; fold_depth
  refine i_ifd (fun _ => ?_) (fun _ => ?_)
  · fold_lay
    refine c_take hD1 (by omega) fun w H2 _ _ hD2 s2 => ?_
    fold_lay
    exact k _ _ _ (.bl _) (Nat.zero_le _) rfl trivial hD2 (by mem_news)
  fold_lay; fold_depth
  refine i_ifd (fun _ => ?_) (fun _ => ?_)
  · fold_lay
    exact c_integer hD1 fun i H2 ib hD2 s2 => k _ _ _ (.int i) (Nat.zero_le _) rfl ib hD2 (by mem_news)
  fold_lay; fold_depth
  refine i_ifd (fun _ => ?_) (fun _ => ?_)
  · fold_lay
    exact c_text hD1 (by omega) fun x H2 hD2 s2 => k _ _ _ (.str x) (Nat.zero_le _) rfl trivial hD2 (by mem_news)
  fold_lay
  rename_i l hl
  have hD2 := hD1.same (same_new (o := .lst []) hl)
  refine i_cut (fun σ' H' => ∃ (D : Addr) (ys : List V) (ds : List Dt) (x : Option V), σ' = [some (.ref d), some (.int n'), some (.int kd), some (.ref D), x] ∧ Dr d s H' ∧ Same (hid s H) (hid s H') ∧ H D = none ∧ H' D = some (.lst ys) ∧ Ats (nw H H') ys ds ∧ Dt.depL ds ≤ 2 * n' ∧ Dt.okL ds = true ∧ ds.length ≤ 4) ?_ (fun nx key => ?_)
  rotate_left
  · fold_lay
    refine i_ifd (fun g => ?_) (fun g => ?_)
    · fold_lay
      refine c_take hD2 (by omega) fun w H3 w0 w1 hD3 s3 => ?_
      fold_lay
      have s13 : Same (hid s H) (hid s H3) := by mem_news
      obtain ⟨m, rfl⟩ : ∃ m, n' = m + 1 := ⟨n' - 1, by omega⟩
      obtain ⟨n, rfl⟩ : ∃ m, n = m + 1 := ⟨n - 1, by omega⟩
      refine c_rng1 (by omega) (by omega) (m_rng (fun D i H' => Dr d s H' ∧ Same (hid s H3) (hid s H') ∧ H3 D = none ∧ ∃ ys ds, H' D = some (.lst ys) ∧ Ats (hid D (nw H3 H')) ys ds ∧ Dt.depL ds ≤ 2 * m + 2 ∧ Dt.okL ds = true ∧ ds.length = i) ?_ ?_ ?_)
      · exact fun D hD0 => ⟨by leaf_len, by mem_news, hD0, [], [], upd_same, .nil, Nat.zero_le _, rfl, rfl⟩
      · rintro D i H' hi ⟨hD', s', hD0, ys, ds, hys, hat, h1, h2, h3⟩
        fold_lay
        refine ⟨rfl, ?_⟩
        fold_lay
        rw [show ((m + 1 : Nat) : Int) - 1 = (m : Int) by omega]
        refine c_plain (by omega) hD' fun v dt H4 hv v1 v2 _ hD4 s4 => ?_
        fold_lay
        have nD : D ≠ s := hD3.ne hD0
        have hys4 : H4 D = some (.lst ys) := by kct_strs
        have yl := hat.length
        refine ⟨_, hys4, szl (by omega), hD3.upd hD0 (by mem_news) hD4, hid_step hD0 (by mem_news), hD0, ys ++ [v], ds ++ [dt], upd_same, (hat.mono (row_old hD3 s4)).snoc (hv.mono (row_new hD' s' hys)), ?_, ?_, ?_⟩
        · rw [depL_snoc]
          omega
        · rw [okL_snoc, h2, v2]
          rfl
        · rw [List.length_append, h3]
          rfl
      · rintro D H' ⟨hD', s', hD0, ys, ds, hys, hat, h1, h2, h3⟩
        fold_lay
        exact key _ _ ⟨D, ys, ds, _, rfl, hD', by mem_news, by nest_room, hys, (hat.mono hid_nw).mono (nw_wide hD3 s13 (Same.refl _)), h1, h2, by omega⟩
    · fold_lay
      exact key _ _ ⟨l, [], [], _, rfl, hD2, by mem_news, by nest_room, upd_same, .nil, Nat.zero_le _, rfl, by simp⟩
  rintro σ' H3 ⟨D, ys, ds, x, rfl, hD3, s3, hD0, hys, hat, h1, h2, h3⟩
  have okl : Dt.okd (.lst ds) = true := by
    rw [Dt.okd, h2, decide_eq_true (by omega)]
    rfl
  fold_depth
  refine i_ifd (fun _ => ?_) (fun _ => ?_)
  · fold_lay
    refine ⟨D, ys, rfl, .inl ⟨sqL hys, fun p hp => ?_⟩⟩
    have hp0 : H p = none := by nest_room
    exact k _ (.tup ds) _ (.tup (nw_to hp0 upd_same) (hat.mono (nw_wide0 (Same.refl _) (same_new hp)))) (by rw [Dt.dep]; omega) okl trivial (by leaf_len) (by mem_news)
  fold_lay; fold_depth
  refine i_ifd (fun _ => ?_) (fun _ => ?_)
  · fold_lay
    exact k _ (.lst ds) _ (.lst (nw_to hD0 hys) hat) (by rw [Dt.dep]; omega) okl trivial hD3 s3
  · fold_lay
    refine i_disp1V rfl fun p hp => ?_
    have hp0 : H p = none := by nest_room
    refine k _ (.dic [("a", .lst ds)]) _ (.dic (nw_to hp0 upd_same) (.cons (.lst (nw_to hD0 (upd_keep hp hys)) (hat.mono (nw_wide0 (Same.refl _) (same_new hp)))) .nil)) ?_ ?_ trivial (by leaf_len) (by mem_news)
    · simp only [Dt.dep, Dt.depK]
      omega
    · simp only [Dt.okd, Dt.okK] at okl ⊢
      simp [okl]
/-! ## K00a -/
/-! ### numbers aligned -/
def iv : V → Int
  | .int i => i
  | _ => 0
def upI (n m : Int) : Int := (n + m - 1) / m * m
def downI (n m : Int) : Int := n / m * m
def bad00 (v1 v2 : V) : Option Str := if vR 0 1000000000 v1 = false then some "number" else if vA 1073741824 v2 = false then some "align" else none
theorem vRi {v : V} {lo hi : Int} (h : vR lo hi v = true) : ∃ i, v = .int i ∧ lo ≤ i ∧ i ≤ hi := by
  cases v <;> first | exact ⟨_, rfl, by simpa [vR] using h⟩ | cases h
theorem vAi {v : V} {m : Int} (h : vA m v = true) : ∃ i, v = .int i ∧ (∃ k : Nat, i = 2 ^ k) ∧ i ≤ m := by
  cases v <;> first | exact ⟨_, rfl, vA_iff.mp h⟩ | cases h
def sp_align00 (f : Int → Int → Int) (K : PySem.W.Frag) (c : Cl) : Sp := fun vs H Q E => ∃ (v1 v2 : V) (n1 n2 : String), vs = [v1, v2] ∧ Ty0 H v1 n1 ∧ Ty0 H v2 n2 ∧ BvC K c.k_BadValue ∧
  (∀ t, bad00 v1 v2 = some t → ∀ d H', BadAt H' d (.str t) → Same H H' → E (.ref c.k_BadValue) (some d) H') ∧ (bad00 v1 v2 = none → Q (.int (f (iv v1) (iv v2))) H)
def N_p_align_up00 : List Str := ["number", "align"]
def t_p_align_up00 (K : PySem.W.Frag) (c : Cl) (E : XK) : TS := (tSeq (tIfS (tNot (tB (tCall (sp_whole_between K) [] E0 (tCons (tVar 0) (tCons (tC (.int 0)) (tCons (tC (.int 1000000000)) tNil)))))) (tRz (tMkO c.k_BadValue (sp_init_BadValue K c.k_BadValue) [] (tCons (tC (.str "number")) tNil)) (fun cls d _ H => E cls d H)) tNext)
  (tSeq (tIfS (tNot (tB (tCall (sp_is_align K) [] E0 (tCons (tVar 1) (tCons (tC (.int 1073741824)) tNil))))) (tRz (tMkO c.k_BadValue (sp_init_BadValue K c.k_BadValue) [] (tCons (tC (.str "align")) tNil)) (fun cls d _ H => E cls d H)) tNext)
  (tRet (tOp oMul (tOp oDiv (tOp oSub (tOp oAdd (tVar 0) (tVar 1)) (tC (.int 1))) (tVar 1)) (tVar 1)))))
theorem pure_align_up00 {K : PySem.W.Frag} {c : Cl} {vs : List V} {H : Hp} {Q : VK} {E : XK} (h : sp_align00 upI K c vs H Q E) : t_p_align_up00 K c E { nx := fun _ H' => Q .non H', rt := Q } (start N_p_align_up00 vs) H := by
  obtain ⟨v1, v2, n1, n2, rfl, t1, t2, hC, kE, kQ⟩ := h
  unfold t_p_align_up00
  fold_depth
  refine c_whole_between t1 ?_
  fold_lay
  refine i_ifb (fun g => ?_) (fun g => ?_)
  · have g : vR 0 1000000000 v1 = false := by simpa using g
    fold_lay
    exact c_bad hC (kE _ (by simp [bad00, g]))
  have g1 : vR 0 1000000000 v1 = true := by simpa using g
  fold_lay; fold_depth
  refine c_is_align t2 ?_
  fold_lay
  refine i_ifb (fun g => ?_) (fun g => ?_)
  · have g : vA 1073741824 v2 = false := by simpa using g
    fold_lay
    exact c_bad hC (kE _ (by simp [bad00, g, g1]))
  have g2 : vA 1073741824 v2 = true := by simpa using g
  have kk := kQ (by simp [bad00, g1, g2])
  obtain ⟨n, rfl, a1, a2⟩ := vRi g1
  obtain ⟨m, rfl, b1, b2⟩ := vAi g2
  have mp : 0 < m := by
    obtain ⟨k, rfl⟩ := b1
    exact two_pow_pos k
  fold_lay
  exact kk
def N_p_align_down : List Str := ["number", "align"]
def t_p_align_down (K : PySem.W.Frag) (c : Cl) (E : XK) : TS := (tSeq (tIfS (tNot (tB (tCall (sp_whole_between K) [] E0 (tCons (tVar 0) (tCons (tC (.int 0)) (tCons (tC (.int 1000000000)) tNil)))))) (tRz (tMkO c.k_BadValue (sp_init_BadValue K c.k_BadValue) [] (tCons (tC (.str "number")) tNil)) (fun cls d _ H => E cls d H)) tNext)
  (tSeq (tIfS (tNot (tB (tCall (sp_is_align K) [] E0 (tCons (tVar 1) (tCons (tC (.int 1073741824)) tNil))))) (tRz (tMkO c.k_BadValue (sp_init_BadValue K c.k_BadValue) [] (tCons (tC (.str "align")) tNil)) (fun cls d _ H => E cls d H)) tNext)
  (tRet (tOp oMul (tOp oDiv (tVar 0) (tVar 1)) (tVar 1)))))
theorem pure_align_down {K : PySem.W.Frag} {c : Cl} {vs : List V} {H : Hp} {Q : VK} {E : XK} (h : sp_align00 downI K c vs H Q E) : t_p_align_down K c E { nx := fun _ H' => Q .non H', rt := Q } (start N_p_align_down vs) H := by
  obtain ⟨v1, v2, n1, n2, rfl, t1, t2, hC, kE, kQ⟩ := h
  unfold t_p_align_down
  fold_depth
  refine c_whole_between t1 ?_
  fold_lay
  refine i_ifb (fun g => ?_) (fun g => ?_)
  · have g : vR 0 1000000000 v1 = false := by simpa using g
    fold_lay
    exact c_bad hC (kE _ (by simp [bad00, g]))
  have g1 : vR 0 1000000000 v1 = true := by simpa using g
  fold_lay; fold_depth
  refine c_is_align t2 ?_
  fold_lay
  refine i_ifb (fun g => ?_) (fun g => ?_)
  · have g : vA 1073741824 v2 = false := by simpa using g
    fold_lay
    exact c_bad hC (kE _ (by simp [bad00, g, g1]))
  have g2 : vA 1073741824 v2 = true := by simpa using g
  have kk := kQ (by simp [bad00, g1, g2])
  obtain ⟨n, rfl, a1, a2⟩ := vRi g1
  obtain ⟨m, rfl, b1, b2⟩ := vAi g2
  have mp : 0 < m := by
    obtain ⟨k, rfl⟩ := b1
    exact two_pow_pos k
  fold_lay
  exact kk
def sp_one00 (t : Str) (f : Int → Int) (K : PySem.W.Frag) (c : Cl) : Sp := fun vs H Q E => ∃ (v1 : V) (n1 : String), vs = [v1] ∧ Ty0 H v1 n1 ∧ BvC K c.k_BadValue ∧
  (vR 1 1000000000 v1 = false → ∀ d H', BadAt H' d (.str t) → Same H H' → E (.ref c.k_BadValue) (some d) H') ∧ (vR 1 1000000000 v1 = true → Q (.int (f (iv v1))) H)
def sp_order_of (K : PySem.W.Frag) (c : Cl) : Sp := sp_one00 "count" (fun n => (Builtin.Int.intBits (n - 1) : Nat)) K c
def sp_power_in00 (K : PySem.W.Frag) (c : Cl) : Sp := sp_one00 "number" (fun n => Builtin.bitAnd n (-n)) K c
def N_p_order_of : List Str := ["count"]
def t_p_order_of (K : PySem.W.Frag) (c : Cl) (E : XK) : TS := (tSeq (tIfS (tNot (tB (tCall (sp_whole_between K) [] E0 (tCons (tVar 0) (tCons (tC (.int 1)) (tCons (tC (.int 1000000000)) tNil)))))) (tRz (tMkO c.k_BadValue (sp_init_BadValue K c.k_BadValue) [] (tCons (tC (.str "count")) tNil)) (fun cls d _ H => E cls d H)) tNext)
  (tRet (tBits (tOp oSub (tVar 0) (tC (.int 1))))))
theorem pure_order_of {K : PySem.W.Frag} {c : Cl} {vs : List V} {H : Hp} {Q : VK} {E : XK} (h : sp_order_of K c vs H Q E) : t_p_order_of K c E { nx := fun _ H' => Q .non H', rt := Q } (start N_p_order_of vs) H := by
  obtain ⟨v1, n1, rfl, t1, hC, kE, kQ⟩ := h
  unfold t_p_order_of
  fold_depth
  refine c_whole_between t1 ?_
  fold_lay
  refine i_ifb (fun g => ?_) (fun g => ?_)
  · have g : vR 1 1000000000 v1 = false := by simpa using g
    fold_lay
    exact c_bad hC (kE g)
  have g1 : vR 1 1000000000 v1 = true := by simpa using g
  have kk := kQ g1
  obtain ⟨n, rfl, a1, a2⟩ := vRi g1
  fold_lay
  exact ⟨_, rfl, kk⟩
def N_p_power_in00 : List Str := ["number"]
def t_p_power_in00 (K : PySem.W.Frag) (c : Cl) (E : XK) : TS := (tSeq (tIfS (tNot (tB (tCall (sp_whole_between K) [] E0 (tCons (tVar 0) (tCons (tC (.int 1)) (tCons (tC (.int 1000000000)) tNil)))))) (tRz (tMkO c.k_BadValue (sp_init_BadValue K c.k_BadValue) [] (tCons (tC (.str "number")) tNil)) (fun cls d _ H => E cls d H)) tNext)
  (tRet (tOp oAnd (tVar 0) (tUn oNeg (tVar 0)))))
theorem pure_power_in00 {K : PySem.W.Frag} {c : Cl} {vs : List V} {H : Hp} {Q : VK} {E : XK} (h : sp_power_in00 K c vs H Q E) : t_p_power_in00 K c E { nx := fun _ H' => Q .non H', rt := Q } (start N_p_power_in00 vs) H := by
  obtain ⟨v1, n1, rfl, t1, hC, kE, kQ⟩ := h
  unfold t_p_power_in00
  fold_depth
  refine c_whole_between t1 ?_
  fold_lay
  refine i_ifb (fun g => ?_) (fun g => ?_)
  · have g : vR 1 1000000000 v1 = false := by simpa using g
    fold_lay
    exact c_bad hC (kE g)
  have g1 : vR 1 1000000000 v1 = true := by simpa using g
  have kk := kQ g1
  obtain ⟨n, rfl, a1, a2⟩ := vRi g1
  fold_lay
  exact kk
/-! ### asked -/
def badT (t : Str) (v1 v2 : V) : Option Str := if t = "align_up" ∨ t = "align_down" then bad00 v1 v2 else if vR 1 1000000000 v1 = false then (if t = "order_of" then some "count" else some "number") else none
def valT (t : Str) (n m : Int) : Int := if t = "align_up" then upI n m else if t = "align_down" then downI n m else if t = "order_of" then (Builtin.Int.intBits (n - 1) : Nat) else Builtin.bitAnd n (-n)
def askT (t : Str) (v1 v2 : V) : Dt := match badT t v1 v2 with
  | some s => refD2 "BadValue" (.tup [.str s])
  | none => .lst [.str "done", .int (valT t (iv v1) (iv v2))]
def four : List Str := ["align_up", "align_down", "order_of", "power_in"]
def sp_asked00 (K : PySem.W.Frag) (c : Cl) : Sp := fun vs H Q _ => ∃ (t : Str) (v1 v2 : V) (n1 n2 : String), vs = [.str t, v1, v2] ∧ Ty0 H v1 n1 ∧ Ty0 H v2 n2 ∧ BvK K c ∧ t ∈ four ∧ ∀ v H', At H' v (askT t v1 v2) → Same H H' → Q v H'
theorem c_asked00 {K : PySem.W.Frag} {c : Cl} {t : Str} {v1 v2 : V} {n1 n2 : String} {H : Hp} {Q : VK} {E : XK} (h1 : Ty0 H v1 n1) (h2 : Ty0 H v2 n2) (R : BvK K c) (ht : t ∈ four) (k : ∀ v H', At H' v (askT t v1 v2) → Same H H' → Q v H') : sp_asked00 K c [.str t, v1, v2] H Q E := ⟨t, v1, v2, n1, n2, rfl, h1, h2, R, ht, k⟩
theorem ask_some {t s : Str} {v1 v2 : V} (h : badT t v1 v2 = some s) : askT t v1 v2 = refD2 "BadValue" (.tup [.str s]) := by
  unfold askT
  rw [h]
theorem ask_none {t : Str} {v1 v2 : V} (h : badT t v1 v2 = none) : askT t v1 v2 = .lst [.str "done", .int (valT t (iv v1) (iv v2))] := by
  unfold askT
  rw [h]
def N_l_asked : List Str := ["_law_title", "_law_first", "_law_second", "e"]
def t_l_asked (K : PySem.W.Frag) (c : Cl) : TS := (tTryT K (.ref c.k_BadValue) 3 (fun W => (tSeq (tIfS (tTest (tOp rEq (tVar 0) (tC (.str "align_up")))) (tRet (tLst (tCons (tC (.str "done")) (tCons (tCallS (sp_align00 upI K c) (WE W) (tCons (tVar 1) (tCons (tVar 2) tNil))) tNil)))) tNext)
  (tSeq (tIfS (tTest (tOp rEq (tVar 0) (tC (.str "align_down")))) (tRet (tLst (tCons (tC (.str "done")) (tCons (tCallS (sp_align00 downI K c) (WE W) (tCons (tVar 1) (tCons (tVar 2) tNil))) tNil)))) tNext)
  (tSeq (tIfS (tTest (tOp rEq (tVar 0) (tC (.str "order_of")))) (tRet (tLst (tCons (tC (.str "done")) (tCons (tCallS (sp_order_of K c) (WE W) (tCons (tVar 1) tNil)) tNil)))) tNext)
  (tRet (tLst (tCons (tC (.str "done")) (tCons (tCallS (sp_power_in00 K c) (WE W) (tCons (tVar 1) tNil)) tNil)))))))) (tRet (tLst (tCons (tC (.str "refused")) (tCons (tXt K "told" (tVar 3)) (tCons (tTup (tCons (tXt K "parameter" (tVar 3)) tNil)) (tCons (tCall (sp_kinds K c) [] E0 (tCons (tVar 3) tNil)) tNil)))))) (fun _ _ _ _ => False))
theorem pure_asked {K : PySem.W.Frag} {c : Cl} {vs : List V} {H : Hp} {Q : VK} {E : XK} (h : sp_asked00 K c vs H Q E) : t_l_asked K c { nx := fun _ H' => Q .non H', rt := Q } (start N_l_asked vs) H := by
  obtain ⟨t, v1, v2, n1, n2, rfl, t1, t2, R, ht, k⟩ := h
  have bad : ∀ (s : Str) (d : Addr) (H' : Hp), badT t v1 v2 = some s → BadAt H' d (.str s) → Same H H' → WE (wAsT K (.ref c.k_BadValue) 3 (tRefu K c 3) (fun _ _ _ _ => False) { nx := fun _ H' => Q .non H', rt := Q }) (start N_l_asked [.str t, v1, v2]) (.ref c.k_BadValue) (some d) H' := fun s d H' hb hB hS => by
    rw [ask_some hb] at k
    exact ⟨true, R.ht, (fun q => nomatch q), fun _ e he => refu R rfl he hB fun v H2 hv h2 => k v H2 hv (hS.trans h2)⟩
  have good : ∀ q, H q = none → badT t v1 v2 = none → Q (.ref q) (upd H q (.lst [.str "done", .int (valT t (iv v1) (iv v2))])) := fun q hq hn => by
    rw [ask_none hn] at k
    exact k _ _ (.lst upd_same (.cons (.str _) (.cons (.int _) .nil))) (same_new hq)
  unfold t_l_asked
  simp only [four, List.mem_cons, List.not_mem_nil, or_false] at ht
  rcases ht with rfl | rfl | rfl | rfl
  · have e : badT "align_up" v1 v2 = bad00 v1 v2 := by simp [badT]
    fold_lay; fold_depth
    refine i_yes rfl ?_
    fold_lay
    refine ⟨v1, v2, n1, n2, rfl, t1, t2, R.bv, fun s hs d H' hB hS => bad s d H' (e.trans hs) hB hS, fun hn => ?_⟩
    fold_lay
    exact good _ (by assumption) (e.trans hn)
  · have e : badT "align_down" v1 v2 = bad00 v1 v2 := by simp [badT]
    fold_lay; fold_depth
    refine i_no (by decide) ?_
    fold_lay; fold_depth
    refine i_yes rfl ?_
    fold_lay
    refine ⟨v1, v2, n1, n2, rfl, t1, t2, R.bv, fun s hs d H' hB hS => bad s d H' (e.trans hs) hB hS, fun hn => ?_⟩
    fold_lay
    exact good _ (by assumption) (e.trans hn)
  · have e : badT "order_of" v1 v2 = if vR 1 1000000000 v1 = false then some (Str.ofString "count") else none := by
      unfold badT
      rw [if_neg (by decide), if_pos rfl]
    fold_lay; fold_depth
    refine i_no (by decide) ?_
    fold_lay; fold_depth
    refine i_no (by decide) ?_
    fold_lay; fold_depth
    refine i_yes rfl ?_
    fold_lay
    refine ⟨v1, n1, rfl, t1, R.bv, fun hs d H' hB hS => bad "count" d H' (by rw [e, if_pos hs]) hB hS, fun hn => ?_⟩
    fold_lay
    exact good _ (by assumption) (by rw [e, if_neg (by rw [hn]; exact fun z => Bool.noConfusion z)])
  · have e : badT "power_in" v1 v2 = if vR 1 1000000000 v1 = false then some (Str.ofString "number") else none := by
      unfold badT
      rw [if_neg (by decide), if_neg (show ¬ ("power_in" : Str) = "order_of" by decide)]
    fold_lay; fold_depth
    refine i_no (by decide) ?_
    fold_lay; fold_depth
    refine i_no (by decide) ?_
    fold_lay; fold_depth
    refine i_no (by decide) ?_
    fold_lay
    refine ⟨v1, n1, rfl, t1, R.bv, fun hs d H' hB hS => bad "number" d H' (by rw [e, if_pos hs]) hB hS, fun hn => ?_⟩
    fold_lay
    exact good _ (by assumption) (by rw [e, if_neg (by rw [hn]; exact fun z => Bool.noConfusion z)])
/-! ## K00b -/
/-! ### plain facts of numbers -/
theorem upI_spec {n m : Int} (hm : 0 < m) : n ≤ upI n m ∧ upI n m < n + m ∧ upI n m % m = 0 := by
  unfold upI
  have e := Int.mul_ediv_add_emod (n + m - 1) m
  have h0 := Int.emod_nonneg (n + m - 1) (by omega : m ≠ 0)
  have h1 := Int.emod_lt_of_pos (n + m - 1) hm
  generalize (n + m - 1) % m = r at *
  generalize (n + m - 1) / m = k at *
  have ec : k * m = m * k := Int.mul_comm _ _
  exact ⟨by omega, by omega, Int.mul_emod_left _ _⟩
theorem downI_spec {n m : Int} (hm : 0 < m) : downI n m ≤ n ∧ n < downI n m + m ∧ downI n m % m = 0 := by
  unfold downI
  have e := Int.mul_ediv_add_emod n m
  have h0 := Int.emod_nonneg n (by omega : m ≠ 0)
  have h1 := Int.emod_lt_of_pos n hm
  generalize n % m = r at *
  generalize n / m = k at *
  have ec : k * m = m * k := Int.mul_comm _ _
  exact ⟨by omega, by omega, Int.mul_emod_left _ _⟩
theorem p2cast (k : Nat) : ((2 ^ k : Nat) : Int) = (2 : Int) ^ k := Int.natCast_pow 2 k
theorem bits_spec {n : Nat} : n < 2 ^ Builtin.Int.intBits (n : Int) ∧ (n = 0 → Builtin.Int.intBits (n : Int) = 0) ∧ (0 < n → ∃ j, Builtin.Int.intBits (n : Int) = j + 1 ∧ 2 ^ j ≤ n) := by
  unfold Builtin.Int.intBits
  by_cases h : n = 0
  · subst h
    exact ⟨by decide, fun _ => rfl, by omega⟩
  · have e : ((n : Int) == 0) = false := by
      rw [beq_eq_false_iff_ne]
      omega
    rw [e]
    have e2 : (n : Int).natAbs = n := Int.natAbs_natCast n
    simp only [e2]
    exact ⟨Nat.lt_log2_self, fun z => absurd z h, fun _ => ⟨n.log2, rfl, Nat.log2_self_le h⟩⟩
theorem order_fact {n : Int} (h1 : 1 ≤ n) (h2 : n ≤ 1000000000) : Builtin.Int.intBits (n - 1) ≤ 30 ∧ n ≤ 2 ^ Builtin.Int.intBits (n - 1) ∧ ((2 : Int) ^ Builtin.Int.intBits (n - 1) = 1 ∨ (2 : Int) ^ Builtin.Int.intBits (n - 1) / 2 < n) := by
  obtain ⟨m, hm⟩ := Int.eq_ofNat_of_zero_le (show 0 ≤ n - 1 by omega)
  rw [hm]
  obtain ⟨a, b, c⟩ := bits_spec (n := m)
  generalize Builtin.Int.intBits (m : Int) = k at *
  have a' : (m : Int) < 2 ^ k := by rw [← p2cast]; exact_mod_cast a
  by_cases h0 : m = 0
  · have := b h0
    subst this
    exact ⟨by omega, by omega, .inl rfl⟩
  · obtain ⟨j, rfl, hj⟩ := c (by omega)
    have hj' : (2 : Int) ^ j ≤ m := by rw [← p2cast]; exact_mod_cast hj
    have e : (2 : Int) ^ (j + 1) = 2 * 2 ^ j := by rw [Int.pow_succ]; omega
    refine ⟨?_, by omega, .inr (by omega)⟩
    have : 2 ^ j < 2 ^ 30 := by
      have : (2 : Nat) ^ 30 = 1073741824 := by decide
      omega
    have := (Nat.pow_lt_pow_iff_right (by decide : 1 < 2)).mp this
    omega
theorem and_even {a : Nat} (h : 0 < a) : (2 * a) &&& (2 * a - 1) = 2 * (a &&& (a - 1)) := by
  apply Nat.eq_of_testBit_eq
  intro i
  cases i with
  | zero => simp [Nat.testBit_zero]
  | succ i =>
    rw [Nat.testBit_and, Nat.testBit_succ, Nat.testBit_succ, Nat.testBit_succ]
    rw [show 2 * a / 2 = a by omega, show (2 * a - 1) / 2 = a - 1 by omega, show 2 * (a &&& (a - 1)) / 2 = a &&& (a - 1) by omega, Nat.testBit_and]
theorem and_odd {a : Nat} : (2 * a + 1) &&& (2 * a) = 2 * a := by
  apply Nat.eq_of_testBit_eq
  intro i
  cases i with
  | zero => simp [Nat.testBit_zero]
  | succ i =>
    rw [Nat.testBit_and, Nat.testBit_succ, Nat.testBit_succ]
    rw [show (2 * a + 1) / 2 = a by omega, show 2 * a / 2 = a by omega, Bool.and_self]
theorem low_bit : ∀ (N : Nat), 0 < N → ∃ k m, N = 2 ^ k * (2 * m + 1) ∧ N - (N &&& (N - 1)) = 2 ^ k := by
  intro N
  induction N using Nat.strongRecOn with
  | ind N ih =>
    intro hN
    by_cases h : N % 2 = 0
    · obtain ⟨a, rfl⟩ : ∃ a, N = 2 * a := ⟨N / 2, by omega⟩
      obtain ⟨k, m, h1, h2⟩ := ih a (by omega) (by omega)
      refine ⟨k + 1, m, ?_, ?_⟩
      · rw [Nat.pow_succ, Nat.mul_comm (2 ^ k) 2, Nat.mul_assoc, ← h1]
      · rw [and_even (by omega), Nat.pow_succ]
        omega
    · obtain ⟨a, rfl⟩ : ∃ a, N = 2 * a + 1 := ⟨N / 2, by omega⟩
      refine ⟨0, a, by omega, ?_⟩
      rw [show 2 * a + 1 - 1 = 2 * a by omega, and_odd]
      show 2 * a + 1 - 2 * a = 1
      omega
theorem power_fact {n : Int} (h1 : 1 ≤ n) (h2 : n ≤ 1000000000) : ∃ f : Int, Builtin.bitAnd n (-n) = f ∧ 1 ≤ f ∧ f ≤ 1000000000 ∧ (1073741824 : Int) % f = 0 ∧ n % f = 0 ∧ n / f % 2 = 1 := by
  obtain ⟨N, rfl⟩ := Int.eq_ofNat_of_zero_le (show 0 ≤ n by omega)
  obtain ⟨k, m, e1, e2⟩ := low_bit N (by omega)
  have hb : Builtin.bitAnd (N : Int) (-(N : Int)) = (2 : Int) ^ k := by
    rw [bitAnd_pn (by omega) (by omega)]
    have : (Builtin.bitNot (-(N : Int))).toNat = N - 1 := by
      show (-(-(N : Int)) - 1).toNat = N - 1
      omega
    rw [this, Int.toNat_natCast, ← p2cast, ← e2]
    have : N &&& (N - 1) ≤ N := Nat.and_le_left
    omega
  refine ⟨2 ^ k, hb, ?_⟩
  have kp := two_pow_pos k
  have e3 : (N : Int) = 2 ^ k * (2 * (m : Int) + 1) := by
    rw [← p2cast]
    exact_mod_cast e1
  have le : (2 : Int) ^ k ≤ N := by
    rw [e3]
    have := Int.mul_le_mul_of_nonneg_left (show (1 : Int) ≤ 2 * m + 1 by omega) (show (0 : Int) ≤ 2 ^ k by omega)
    omega
  have kl : k ≤ 30 := by
    have : 2 ^ k < 2 ^ 30 := by
      have e : (2 : Nat) ^ 30 = 1073741824 := by decide
      have : ((2 ^ k : Nat) : Int) ≤ N := by rw [p2cast]; exact le
      omega
    have := (Nat.pow_lt_pow_iff_right (by decide : 1 < 2)).mp this
    omega
  refine ⟨by omega, by omega, ?_, ?_, ?_⟩
  · have e : (1073741824 : Int) = 2 ^ k * 2 ^ (30 - k) := by
      rw [← Int.pow_add, show k + (30 - k) = 30 by omega]
      decide
    rw [e]
    exact Int.mul_emod_right _ _
  · rw [e3]
    exact Int.mul_emod_right _ _
  · rw [e3, Int.mul_ediv_cancel_left _ (by omega)]
    omega
theorem AtL2i {H : Hp} {v : V} {t : Str} {i : Int} (h : At H v (.lst [.str t, .int i])) : ∃ l, v = .ref l ∧ H l = some (.lst [.str t, .int i]) := by
  cases h with
  | @lst r rs _ hr hrs =>
    cases hrs with
    | cons e1 e2 =>
      cases e1
      cases e2 with
      | cons e1 e2 =>
        cases e1
        cases e2
        exact ⟨r, rfl, hr⟩
/-! ### judges of numbers -/
theorem good00 {t : Str} {n m : Int} (ht : t = "align_up" ∨ t = "align_down") (h1 : 0 ≤ n) (h2 : n ≤ 1000000000) (h3 : ∃ k : Nat, m = 2 ^ k) (h4 : m ≤ 1073741824) : badT t (.int n) (.int m) = none := by
  unfold badT
  rw [if_pos ht]
  simp [bad00, vR_yes h1 h2, vA_yes h3 h4]
theorem good01 {t : Str} {n : Int} {v : V} (ht : ¬ (t = "align_up" ∨ t = "align_down")) (h1 : 1 ≤ n) (h2 : n ≤ 1000000000) : badT t (.int n) v = none := by
  unfold badT
  rw [if_neg ht, vR_yes h1 h2, if_neg (by decide)]
def sp_aligned_right (K : PySem.W.Frag) (c : Cl) : Sp := fun vs H Q _ => ∃ (n m : Int), vs = [.int n, .int m] ∧ 0 ≤ n ∧ n ≤ 1000000000 ∧ (∃ k : Nat, m = 2 ^ k) ∧ m ≤ 1073741824 ∧ BvK K c ∧ ∀ H', Same H H' → Q (.bl true) H'
theorem c_aligned_right {K : PySem.W.Frag} {c : Cl} {n m : Int} {H : Hp} {Q : VK} {E : XK} (h1 : 0 ≤ n) (h2 : n ≤ 1000000000) (h3 : ∃ k : Nat, m = 2 ^ k) (h4 : m ≤ 1073741824) (R : BvK K c) (k : ∀ H', Same H H' → Q (.bl true) H') : sp_aligned_right K c [.int n, .int m] H Q E := ⟨n, m, rfl, h1, h2, h3, h4, R, k⟩
def N_l_aligned_right : List Str := ["_law_number_here", "_law_alignment_here", "_law_above", "_law_below"]
def t_l_aligned_right (K : PySem.W.Frag) (c : Cl) : TS := (tSeq (tAsg (tCall (sp_asked00 K c) [] E0 (tCons (tC (.str "align_up")) (tCons (tVar 0) (tCons (tVar 1) tNil)))) (gName 2))
  (tSeq (tAsg (tCall (sp_asked00 K c) [] E0 (tCons (tC (.str "align_down")) (tCons (tVar 0) (tCons (tVar 1) tNil)))) (gName 3))
  (tSeq (tIfS (tOr (tTest (tOp rNe (tOp (rIxL K) (tVar 2) (tC (.int 0))) (tC (.str "done")))) (tOr (tTest (tOp rNe (tOp (rIxL K) (tVar 3) (tC (.int 0))) (tC (.str "done")))) (tOr (tNot (tB (tCall (sp_is_int K) [] E0 (tCons (tOp (rIxL K) (tVar 2) (tC (.int 1))) tNil)))) (tNot (tB (tCall (sp_is_int K) [] E0 (tCons (tOp (rIxL K) (tVar 3) (tC (.int 1))) tNil))))))) (tRet (tC (.bl false))) tNext)
  (tSeq (tIfS (tOr (tTest (tOp rNe (tOp oMod (tCB rInt1 (tCons (tOp (rIxL K) (tVar 2) (tC (.int 1))) tNil)) (tVar 1)) (tC (.int 0)))) (tTest (tOp rNe (tOp oMod (tCB rInt1 (tCons (tOp (rIxL K) (tVar 3) (tC (.int 1))) tNil)) (tVar 1)) (tC (.int 0))))) (tRet (tC (.bl false))) tNext)
  (tRet (tAndV (tChain oLt oLe (tOp oSub (tOp (rIxL K) (tVar 2) (tC (.int 1))) (tVar 1)) (tVar 0) (tOp (rIxL K) (tVar 2) (tC (.int 1)))) (tChain oLe oLt (tOp (rIxL K) (tVar 3) (tC (.int 1))) (tVar 0) (tOp oAdd (tOp (rIxL K) (tVar 3) (tC (.int 1))) (tVar 1)))))))))
theorem pure_aligned_right {K : PySem.W.Frag} {c : Cl} {vs : List V} {H : Hp} {Q : VK} {E : XK} (h : sp_aligned_right K c vs H Q E) : t_l_aligned_right K c { nx := fun _ H' => Q .non H', rt := Q } (start N_l_aligned_right vs) H := by
  obtain ⟨n, m, rfl, h1, h2, h3, h4, R, k⟩ := h
  have mp : 0 < m := by
    obtain ⟨j, rfl⟩ := h3
    exact two_pow_pos j
  obtain ⟨u1, u2, u3⟩ := upI_spec (n := n) mp
  obtain ⟨d1, d2, d3⟩ := downI_spec (n := n) mp
  unfold t_l_aligned_right
  fold_lay
  refine c_asked00 (.int _) (.int _) R (by simp [four]) fun v1 H1 hv1 s1 => ?_
  rw [ask_none (good00 (.inl rfl) h1 h2 h3 h4), show valT "align_up" (iv (.int n)) (iv (.int m)) = upI n m from rfl] at hv1
  obtain ⟨l1, rfl, hl1⟩ := AtL2i hv1
  fold_lay
  refine c_asked00 (.int _) (.int _) R (by simp [four]) fun v2 H2 hv2 s2 => ?_
  rw [ask_none (good00 (.inr rfl) h1 h2 h3 h4), show valT "align_down" (iv (.int n)) (iv (.int m)) = downI n m by unfold valT; rw [if_neg (by decide), if_pos rfl]; rfl] at hv2
  obtain ⟨l2, rfl, hl2⟩ := AtL2i hv2
  generalize upI n m = x at *
  generalize downI n m = y at *
  fold_lay; fold_depth
  refine i_ifn (fun z => absurd rfl z) (fun _ => ?_)
  fold_lay
  refine i_ifn (fun z => absurd rfl z) (fun _ => ?_)
  fold_lay
  refine c_is_int (.int _) ?_
  rw [show vI (.int x) = true from rfl]
  fold_lay
  refine c_is_int (.int _) ?_
  rw [show vI (.int y) = true from rfl]
  fold_lay; fold_depth
  refine i_ifn (fun z => absurd u3 z) (fun _ => ?_)
  fold_lay
  refine i_ifn (fun z => absurd d3 z) (fun _ => ?_)
  fold_lay
  refine i_yes (by omega) ?_
  fold_lay
  refine i_yes (by omega) ?_
  fold_lay
  refine i_yes (by omega) ?_
  fold_lay
  rw [decide_eq_true (by omega)]
  exact k _ (by mem_news)
def sp_order_right (K : PySem.W.Frag) (c : Cl) : Sp := fun vs H Q _ => ∃ (n : Int), vs = [.int n] ∧ 1 ≤ n ∧ n ≤ 1000000000 ∧ BvK K c ∧ ∀ H', Same H H' → Q (.bl true) H'
theorem c_order_right {K : PySem.W.Frag} {c : Cl} {n : Int} {H : Hp} {Q : VK} {E : XK} (h1 : 1 ≤ n) (h2 : n ≤ 1000000000) (R : BvK K c) (k : ∀ H', Same H H' → Q (.bl true) H') : sp_order_right K c [.int n] H Q E := ⟨n, rfl, h1, h2, R, k⟩
def N_l_order_right : List Str := ["_law_count", "_law_answer", "_law_power_here"]
def t_l_order_right (K : PySem.W.Frag) (c : Cl) : TS := (tSeq (tAsg (tCall (sp_asked00 K c) [] E0 (tCons (tC (.str "order_of")) (tCons (tVar 0) (tCons (tC .non) tNil)))) (gName 1))
  (tSeq (tIfS (tOr (tTest (tOp rNe (tOp (rIxL K) (tVar 1) (tC (.int 0))) (tC (.str "done")))) (tNot (tB (tCall (sp_is_within K) [] E0 (tCons (tOp (rIxL K) (tVar 1) (tC (.int 1))) (tCons (tC (.int 0)) (tCons (tC (.int 30)) tNil))))))) (tRet (tC (.bl false))) tNext)
  (tSeq (tAsg (tCall sp_power [] E0 (tCons (tOp (rIxL K) (tVar 1) (tC (.int 1))) tNil)) (gName 2))
  (tRet (tAndV (tOp oGe (tVar 2) (tVar 0)) (tOrV (tOp rEq (tVar 2) (tC (.int 1))) (tOp oLt (tOp oDiv (tVar 2) (tC (.int 2))) (tVar 0))))))))
theorem pure_order_right {K : PySem.W.Frag} {c : Cl} {vs : List V} {H : Hp} {Q : VK} {E : XK} (h : sp_order_right K c vs H Q E) : t_l_order_right K c { nx := fun _ H' => Q .non H', rt := Q } (start N_l_order_right vs) H := by
  obtain ⟨n, rfl, h1, h2, R, k⟩ := h
  obtain ⟨b1, b2, b3⟩ := order_fact h1 h2
  unfold t_l_order_right
  fold_lay
  refine c_asked00 (.int _) .non R (by simp [four]) fun v1 H1 hv1 s1 => ?_
  rw [ask_none (good01 (by decide) h1 h2), show valT "order_of" (iv (.int n)) (iv .non) = (Builtin.Int.intBits (n - 1) : Nat) by unfold valT; rw [if_neg (by decide), if_neg (by decide), if_pos rfl]; rfl] at hv1
  obtain ⟨l1, rfl, hl1⟩ := AtL2i hv1
  generalize Builtin.Int.intBits (n - 1) = j at *
  fold_lay; fold_depth
  refine i_ifn (fun z => absurd rfl z) (fun _ => ?_)
  fold_lay
  refine c_is_within (.int _) ?_
  rw [vR_yes (by omega) (by omega)]
  fold_lay
  refine ⟨(j : Int), rfl, by omega, by omega, ?_⟩
  rw [Int.toNat_natCast]
  have jp := two_pow_pos j
  generalize (2 : Int) ^ j = p at *
  fold_lay
  refine i_yes (by omega) ?_
  fold_lay
  refine i_ifd (fun g => ?_) (fun g => ?_)
  · exact k _ (by mem_news)
  · fold_lay
    rw [decide_eq_true (by omega)]
    exact k _ (by mem_news)
def sp_factor_right (K : PySem.W.Frag) (c : Cl) : Sp := fun vs H Q _ => ∃ (n : Int), vs = [.int n] ∧ 1 ≤ n ∧ n ≤ 1000000000 ∧ BvK K c ∧ ∀ H', Same H H' → Q (.bl true) H'
theorem c_factor_right {K : PySem.W.Frag} {c : Cl} {n : Int} {H : Hp} {Q : VK} {E : XK} (h1 : 1 ≤ n) (h2 : n ≤ 1000000000) (R : BvK K c) (k : ∀ H', Same H H' → Q (.bl true) H') : sp_factor_right K c [.int n] H Q E := ⟨n, rfl, h1, h2, R, k⟩
def N_l_factor_right : List Str := ["_law_number_here", "_law_answer", "_law_factor"]
def t_l_factor_right (K : PySem.W.Frag) (c : Cl) : TS := (tSeq (tAsg (tCall (sp_asked00 K c) [] E0 (tCons (tC (.str "power_in")) (tCons (tVar 0) (tCons (tC .non) tNil)))) (gName 1))
  (tSeq (tIfS (tOr (tTest (tOp rNe (tOp (rIxL K) (tVar 1) (tC (.int 0))) (tC (.str "done")))) (tNot (tB (tCall (sp_is_within K) [] E0 (tCons (tOp (rIxL K) (tVar 1) (tC (.int 1))) (tCons (tC (.int 1)) (tCons (tOp oPow (tC (.int 10)) (tC (.int 9))) tNil))))))) (tRet (tC (.bl false))) tNext)
  (tSeq (tAsg (tOp (rIxL K) (tVar 1) (tC (.int 1))) (gName 2))
  (tRet (tAndV (tOp rEq (tOp oMod (tCB rInt1 (tCons (tOp oPow (tC (.int 2)) (tC (.int 30))) tNil)) (tVar 2)) (tC (.int 0))) (tAndV (tOp rEq (tOp oMod (tCB rInt1 (tCons (tVar 0) tNil)) (tVar 2)) (tC (.int 0))) (tOp rEq (tOp oMod (tCB rInt1 (tCons (tOp oDiv (tVar 0) (tVar 2)) tNil)) (tC (.int 2))) (tC (.int 1)))))))))
theorem pure_factor_right {K : PySem.W.Frag} {c : Cl} {vs : List V} {H : Hp} {Q : VK} {E : XK} (h : sp_factor_right K c vs H Q E) : t_l_factor_right K c { nx := fun _ H' => Q .non H', rt := Q } (start N_l_factor_right vs) H := by
  obtain ⟨n, rfl, h1, h2, R, k⟩ := h
  obtain ⟨f, e, f1, f2, f3, f4, f5⟩ := power_fact h1 h2
  unfold t_l_factor_right
  fold_lay
  refine c_asked00 (.int _) .non R (by simp [four]) fun v1 H1 hv1 s1 => ?_
  rw [ask_none (good01 (by decide) h1 h2), show valT "power_in" (iv (.int n)) (iv .non) = f by unfold valT; rw [if_neg (by decide), if_neg (by decide), if_neg (by decide)]; exact e] at hv1
  obtain ⟨l1, rfl, hl1⟩ := AtL2i hv1
  fold_lay; fold_depth
  refine i_ifn (fun z => absurd rfl z) (fun _ => ?_)
  fold_lay
  refine c_is_within (.int _) ?_
  rw [show (10 : Int) ^ (9 : Int).toNat = 1000000000 from ten9, vR_yes (by omega) (by omega)]
  fold_lay
  rw [show (2 : Int) ^ (30 : Int).toNat = 1073741824 by decide]
  refine i_yes f3 ?_
  fold_lay
  refine i_yes f4 ?_
  fold_lay
  rw [decide_eq_true f5]
  exact k _ (by mem_news)
/-! ## K00c -/
/-! ### powers -/
theorem pow_le_big {j : Nat} (h : j ≤ 3300) : (2 : Int) ^ j + 1 ≤ big := by
  have h1 : (2 : Nat) ^ j ≤ 2 ^ 3300 := Nat.pow_le_pow_right (by decide) h
  have h2 : (2 : Nat) ^ 3300 + 1 ≤ 2 ^ 3400 := by decide +kernel
  have e : big = ((2 ^ 3400 : Nat) : Int) := by
    unfold big
    exact (p2cast 3400).symm
  rw [e, ← p2cast]
  exact_mod_cast Nat.le_trans (Nat.add_le_add_right h1 1) h2
theorem two_lt (j : Nat) : ((2 : Int) ^ j).natAbs < 2 ^ (j + 1) := by
  rw [Int.natAbs_pow]
  exact Nat.pow_lt_pow_right (by decide) (by omega)
def sp_great_power : Sp := fun vs H Q _ => ∃ (d s : Addr), vs = [.ref d] ∧ Dr d s H ∧ ∀ x H', 1 ≤ x → x + 1 ≤ big → Dr d s H' → Same (hid s H) (hid s H') → Q (.int x) H'
def N_l_great_power : List Str := ["_law_draws_here", "_law_value", "_law_k"]
def t_l_great_power (K : PySem.W.Frag) : TS := (tSeq (tAsg (tC (.int 1)) (gName 1))
  (tSeq (tFor (iRng1 (tCons (tCall sp_take [] E0 (tCons (tVar 0) (tCons (tC (.int 52)) tNil))) tNil)) (gName 2) (tAsg (tOp oMulW (tVar 1) (tOp oPow (tC (.int 2)) (tC (.int 64)))) (gName 1)))
  (tRet (tOp oMulW (tVar 1) (tCall sp_alignment [] E0 (tCons (tVar 0) (tCons (tC (.int 32)) tNil)))))))
theorem pure_great_power {K : PySem.W.Frag} {vs : List V} {H : Hp} {Q : VK} {E : XK} (h : sp_great_power vs H Q E) : t_l_great_power K { nx := fun _ H' => Q .non H', rt := Q } (start N_l_great_power vs) H := by
  obtain ⟨d, s, rfl, hD, k⟩ := h
  unfold t_l_great_power
  fold_lay; fold_depth
  refine c_take hD (by omega) fun t H1 t0 t1 hD1 s1 => ?_
  fold_lay
  refine f_rng1 (by omega) (by omega) (l_rng (fun i σ' H' => H' = H1 ∧ ∃ y, σ' = [some (.ref d), some (.int (2 ^ (64 * i))), y]) ⟨rfl, _, rfl⟩ ?_ ?_)
  · rintro i σ' H' hi ⟨rfl, y, rfl⟩
    fold_lay
    refine i_mulW (wide_mul (two_lt _) (two_lt _) (by omega) (by omega) ?_) ?_
    · show 64 * i + 1 + (64 + 1) ≤ 1000000
      omega
    · fold_lay
      refine ⟨rfl, some (.int (0 + (i : Int))), ?_⟩
      have e : (2 : Int) ^ (64 * i) * 2 ^ (64 : Int).toNat = 2 ^ (64 * (i + 1)) := by
        rw [← Int.pow_add]
        rfl
      rw [e]
      rfl
  · rintro σ' H' ⟨rfl, y, rfl⟩
    fold_lay
    refine c_alignment hD1 (by omega) (by omega) fun m H2 m1 hD2 s2 => ?_
    refine i_mulW (wide_mul (two_lt _) (two_lt _) (by omega) (by omega) (by omega)) ?_
    rw [← Int.pow_add]
    have := two_pow_pos (64 * t.toNat + m)
    exact k _ _ (by omega) (pow_le_big (by omega)) hD2 (by mem_news)
def Dt.isP : Dt → Bool
  | .int i => vP (.int i)
  | _ => false
theorem at_isP {H : Hp} {v : V} {d : Dt} (h : At H v d) : vP v = d.isP := by
  cases h <;> rfl
def sp_is_power_due (K : PySem.W.Frag) : Sp := fun vs H Q _ => ∃ (v : V) (d : Dt), vs = [v] ∧ At H v d ∧ d.sm ∧ Q (.bl d.isP) H
def N_l_is_power_due : List Str := ["_law_value", "_law_power_here", "_law_k"]
def t_l_is_power_due (K : PySem.W.Frag) : TS := (tSeq (tIfS (tNot (tB (tCall (sp_is_int K) [] E0 (tCons (tVar 0) tNil)))) (tRet (tC (.bl false))) tNext)
  (tSeq (tAsg (tC (.int 1)) (gName 1))
  (tSeq (tFor (iRng1 (tCons (tC (.int 3400)) tNil)) (gName 2) (tSeq (tIfS (tTest (tOp oGe (tVar 1) (tVar 0))) tBreak tNext)
  (tAsg (tOp oAdd (tVar 1) (tVar 1)) (gName 1))))
  (tRet (tOp rEq (tVar 1) (tVar 0))))))
theorem due_pow {i : Int} {j : Nat} (h1 : i ≤ 2 ^ j) (h2 : ∀ m : Nat, m < j → (2 : Int) ^ m < i) : decide ((2 : Int) ^ j = i) = vP (.int i) := by
  rw [Bool.eq_iff_iff, decide_eq_true_iff, vP_iff]
  constructor
  · intro h
    exact ⟨j, h.symm⟩
  · rintro ⟨k, rfl⟩
    rcases Nat.lt_or_ge k j with g | g
    · exact absurd (h2 k g) (by omega)
    · have : (2 : Int) ^ j ≤ 2 ^ k := by
        rw [← p2cast, ← p2cast]
        exact_mod_cast Nat.pow_le_pow_right (by decide) g
      omega
theorem pure_is_power_due {K : PySem.W.Frag} {vs : List V} {H : Hp} {Q : VK} {E : XK} (h : sp_is_power_due K vs H Q E) : t_l_is_power_due K { nx := fun _ H' => Q .non H', rt := Q } (start N_l_is_power_due vs) H := by
  obtain ⟨v, d, rfl, hv, hs, k⟩ := h
  unfold t_l_is_power_due
  fold_depth
  refine c_is_int hv.ty ?_
  rw [at_isI hv]
  fold_lay
  refine i_ifb (fun g => ?_) (fun g => ?_)
  · have g : d.isI = false := by simpa using g
    fold_lay
    have e : d.isP = false := by cases d <;> first | rfl | cases g
    rw [e] at k
    exact k
  have g : d.isI = true := by simpa using g
  cases hv <;> first | cases g | skip
  rename_i i
  have hs : i ≤ big := hs
  have k : Q (.bl (vP (.int i))) H := k
  fold_lay; fold_depth
  refine f_rng1 (by omega) (by omega) (l_rng (fun j σ' H' => H' = H ∧ (∀ m : Nat, m < j → (2 : Int) ^ m < i) ∧ ∃ y, σ' = [some (.int i), some (.int (2 ^ j)), y]) ⟨rfl, fun m hm => by omega, _, rfl⟩ ?_ ?_)
  · rintro j σ' H' hj ⟨rfl, hlow, y, rfl⟩
    fold_lay
    refine i_cut (fun σ' H2 => H2 = H' ∧ (∀ m : Nat, m < j + 1 → (2 : Int) ^ m < i) ∧ σ' = [some (.int i), some (.int (2 ^ j)), some (.int (0 + (j : Int)))]) ?_ (fun nx key => ?_)
    rotate_left
    · fold_lay
      refine i_ifd (fun g => ?_) (fun g => ?_)
      · fold_lay
        rw [due_pow g hlow]
        exact k
      · fold_lay
        refine key _ _ ⟨rfl, fun m hm => ?_, rfl⟩
        rcases Nat.lt_or_ge m j with q | q
        · exact hlow m q
        · have : m = j := by omega
          subst this
          omega
    rintro σ' H2 ⟨rfl, hl, rfl⟩
    fold_lay
    refine ⟨rfl, hl, some (.int (0 + (j : Int))), ?_⟩
    have e : (2 : Int) ^ j + 2 ^ j = 2 ^ (j + 1) := by rw [Int.pow_succ]; omega
    rw [e]
    rfl
  · rintro σ' H' ⟨rfl, hlow, y, rfl⟩
    fold_lay
    rw [due_pow (j := (3400 : Int).toNat) hs hlow]
    exact k
def sp_judged00 (K : PySem.W.Frag) : Sp := fun vs H Q _ => ∃ (l : Addr) (xs : List V) (ds : List Dt), vs = [.ref l] ∧ H l = some (.lst xs) ∧ Ats H xs ds ∧ Dt.depL ds ≤ 8 ∧ Dt.okL ds = true ∧ (∀ d ∈ ds, d.sm) ∧ ∀ H', Same H H' → Q (.bl true) H'
theorem okL_mem : ∀ {l : List Dt} {d : Dt}, d ∈ l → d.dep ≤ Dt.depL l ∧ (Dt.okL l = true → d.okd = true)
  | [], d, h => by cases h
  | x :: r, d, h => by
    simp only [Dt.depL, Dt.okL, Bool.and_eq_true]
    rcases List.mem_cons.mp h with h | h
    · rw [h]
      exact ⟨by omega, fun q => q.1⟩
    · have q := okL_mem h
      exact ⟨by omega, fun z => q.2 z.2⟩
def N_l_judged_right : List Str := ["_law_values", "_law_value", "_law_kept"]
def t_l_judged_right (K : PySem.W.Frag) : TS := (tSeq (tFor (iList K (tVar 0)) (gName 1) (tSeq (tAsg (tCall (sp_copy 10) [] E0 (tCons (tVar 1) tNil)) (gName 2))
  (tSeq (tIfS (tNot (tB (tCall (sp_same 10) [] E0 (tCons (tCall (sp_is_power K) [] E0 (tCons (tVar 1) tNil)) (tCons (tCall (sp_is_power_due K) [] E0 (tCons (tVar 2) tNil)) tNil))))) (tRet (tC (.bl false))) tNext)
  (tIfS (tOr (tNot (tB (tCall (sp_same 10) [] E0 (tCons (tCall (sp_is_whole K) [] E0 (tCons (tVar 1) tNil)) (tCons (tCall (sp_is_int K) [] E0 (tCons (tVar 2) tNil)) tNil))))) (tNot (tB (tCall (sp_same 10) [] E0 (tCons (tVar 1) (tCons (tVar 2) tNil)))))) (tRet (tC (.bl false))) tNext))))
  (tRet (tC (.bl true))))
theorem pure_judged00 {K : PySem.W.Frag} {vs : List V} {H : Hp} {Q : VK} {E : XK} (h : sp_judged00 K vs H Q E) : t_l_judged_right K { nx := fun _ H' => Q .non H', rt := Q } (start N_l_judged_right vs) H := by
  obtain ⟨l, xs, ds, rfl, hl, hx, d8, ok, sm, k⟩ := h
  unfold t_l_judged_right
  fold_depth
  refine f_lst (sqL hl) (l_lst (xs := xs) (fun i σ' H' => Same H H' ∧ ∃ y1 y2, σ' = [some (.ref l), y1, y2]) ⟨Same.refl _, _, _, rfl⟩ (fun i σ' H' _ h => sqL (h.1 _ _ hl)) ?_ ?_)
  · rintro i x σ' H1 hi ⟨s1, y1, y2, rfl⟩
    have hlt := (List.getElem?_eq_some_iff.mp hi).1
    have le := hx.length
    obtain ⟨d, hd⟩ : ∃ d, ds[i]? = some d := ⟨_, List.getElem?_eq_getElem (by omega)⟩
    obtain ⟨x', e, hv⟩ := hx.get hd
    rw [hi] at e
    cases e
    have q := okL_mem (List.mem_of_getElem? hd)
    have q2 := q.2 ok
    have q3 := sm d (List.mem_of_getElem? hd)
    fold_lay
    refine c_copy (E := E0) (hv.mono s1) (by omega) q2 fun kv H2 hkv s2 => ?_
    have hkv := hkv.mono nw_same
    have hv2 : At H2 x d := hv.mono (by mem_news)
    fold_lay; fold_depth
    refine c_is_power hv2.ty ?_
    rw [at_isP hv2]
    fold_lay
    refine ⟨kv, d, rfl, hkv, q3, ?_⟩
    fold_lay
    refine c_same (E := E0) (d := .bl d.isP) (.bl _) (.bl _) (Nat.zero_le _) rfl fun H3 s3 => ?_
    fold_lay
    refine c_is_whole (hv2.mono s3).ty ?_
    rw [at_isI (hv2.mono s3)]
    fold_lay
    refine c_is_int (hkv.mono s3).ty ?_
    rw [at_isI (hkv.mono s3)]
    fold_lay
    refine c_same (E := E0) (d := .bl d.isI) (.bl _) (.bl _) (Nat.zero_le _) rfl fun H4 s4 => ?_
    fold_lay
    refine c_same (E := E0) (hv2.mono (by mem_news)) (hkv.mono (by mem_news)) (by omega) q2 fun H5 s5 => ?_
    fold_lay
    exact ⟨by mem_news, _, _, rfl⟩
  · rintro σ' H1 ⟨s1, y1, y2, rfl⟩
    fold_lay
    exact k _ s1
/-! ### refusals of numbers -/
theorem ref_ok (t s : Str) : (refD2 t (.tup [.str s])).dep ≤ 9 ∧ (refD2 t (.tup [.str s])).okd = true := by
  constructor
  · show 0 + 1 + 1 + 1 ≤ 9
    decide
  · rfl
def sp_refused00 (K : PySem.W.Frag) (c : Cl) : Sp := fun vs H Q _ => ∃ (d s : Addr) (n m : Int), vs = [.ref d, .int n, .int m] ∧ Dr d s H ∧ 0 ≤ n ∧ n ≤ 1000000000 ∧ (∃ k : Nat, m = 2 ^ k) ∧ m ≤ 1073741824 ∧ BvK K c ∧ ∀ H', Dr d s H' → Same (hid s H) (hid s H') → Q (.bl true) H'
theorem out_of {H : Hp} {v : V} {dt : Dt} {lo hi : Int} (h : At H v dt) (hn : ¬ dt.inR lo hi) : vR lo hi v = false := by
  cases h <;> first | rfl | (simp only [vR]; rw [← Bool.not_eq_true]; intro q; simp at q; exact hn ⟨q.1, q.2⟩)
theorem odd_of {H : Hp} {v : V} {dt : Dt} {m : Int} (h : At H v dt) (hn : ¬ dt.isAl m) : vA m v = false := by
  cases h <;> first | rfl | (rw [← Bool.not_eq_true]; intro q; exact hn (vA_iff.mp q))
def N_l_refused_right : List Str := ["_law_draws_here", "_law_number_here", "_law_alignment_here", "_law_far", "_law_odd", "_law_few", "_law_kept", "_law_title"]
def t_l_refused_right (K : PySem.W.Frag) (c : Cl) : TS := (tSeq (tAsg (tCall sp_not_within [] E0 (tCons (tVar 0) (tCons (tC (.int 0)) (tCons (tOp oPow (tC (.int 10)) (tC (.int 9))) tNil)))) (gName 3))
  (tSeq (tAsg (tCall sp_not_alignment [] E0 (tCons (tVar 0) (tCons (tOp oPow (tC (.int 2)) (tC (.int 30))) tNil))) (gName 4))
  (tSeq (tAsg (tCall sp_not_within [] E0 (tCons (tVar 0) (tCons (tC (.int 1)) (tCons (tOp oPow (tC (.int 10)) (tC (.int 9))) tNil)))) (gName 5))
  (tSeq (tAsg (tCall (sp_copy 10) [] E0 (tCons (tLst (tCons (tVar 3) (tCons (tVar 4) (tCons (tVar 5) tNil)))) tNil)) (gName 6))
  (tSeq (tFor (iList K (tLst (tCons (tC (.str "align_up")) (tCons (tC (.str "align_down")) tNil)))) (gName 7) (tSeq (tIfS (tNot (tB (tCall (sp_same 10) [] E0 (tCons (tCall (sp_asked00 K c) [] E0 (tCons (tVar 7) (tCons (tVar 3) (tCons (tVar 2) tNil)))) (tCons (tCall sp_refused [] E0 (tCons (tC (.str "BadValue")) (tCons (tTup (tCons (tC (.str "number")) tNil)) tNil))) tNil))))) (tRet (tC (.bl false))) tNext)
  (tSeq (tIfS (tNot (tB (tCall (sp_same 10) [] E0 (tCons (tCall (sp_asked00 K c) [] E0 (tCons (tVar 7) (tCons (tVar 1) (tCons (tVar 4) tNil)))) (tCons (tCall sp_refused [] E0 (tCons (tC (.str "BadValue")) (tCons (tTup (tCons (tC (.str "align")) tNil)) tNil))) tNil))))) (tRet (tC (.bl false))) tNext)
  (tIfS (tNot (tB (tCall (sp_same 10) [] E0 (tCons (tCall (sp_asked00 K c) [] E0 (tCons (tVar 7) (tCons (tVar 3) (tCons (tVar 4) tNil)))) (tCons (tCall sp_refused [] E0 (tCons (tC (.str "BadValue")) (tCons (tTup (tCons (tC (.str "number")) tNil)) tNil))) tNil))))) (tRet (tC (.bl false))) tNext))))
  (tSeq (tIfS (tNot (tB (tCall (sp_same 10) [] E0 (tCons (tCall (sp_asked00 K c) [] E0 (tCons (tC (.str "order_of")) (tCons (tVar 5) (tCons (tC .non) tNil)))) (tCons (tCall sp_refused [] E0 (tCons (tC (.str "BadValue")) (tCons (tTup (tCons (tC (.str "count")) tNil)) tNil))) tNil))))) (tRet (tC (.bl false))) tNext)
  (tSeq (tIfS (tNot (tB (tCall (sp_same 10) [] E0 (tCons (tCall (sp_asked00 K c) [] E0 (tCons (tC (.str "power_in")) (tCons (tVar 5) (tCons (tC .non) tNil)))) (tCons (tCall sp_refused [] E0 (tCons (tC (.str "BadValue")) (tCons (tTup (tCons (tC (.str "number")) tNil)) tNil))) tNil))))) (tRet (tC (.bl false))) tNext)
  (tRet (tCall (sp_same 10) [] E0 (tCons (tLst (tCons (tVar 3) (tCons (tVar 4) (tCons (tVar 5) tNil)))) (tCons (tVar 6) tNil)))))))))))
theorem pure_refused00 {K : PySem.W.Frag} {c : Cl} {vs : List V} {H : Hp} {Q : VK} {E : XK} (h : sp_refused00 K c vs H Q E) : t_l_refused_right K c { nx := fun _ H' => Q .non H', rt := Q } (start N_l_refused_right vs) H := by
  obtain ⟨d, s, n, m, rfl, hD, n1, n2, m1, m2, R, k⟩ := h
  unfold t_l_refused_right
  fold_lay
  refine c_not_within hD (by omega) (by decide) (by decide) fun far df H1 hf nf of_ hD1 s1 => ?_
  fold_lay
  refine c_not_alignment hD1 (by decide) (by decide) fun odd do_ H2 ho no oo hD2 s2 => ?_
  fold_lay
  refine c_not_within hD2 (by omega) (by decide) (by decide) fun few dw H3 hw nw_ ow hD3 s3 => ?_
  rw [show (10 : Int) ^ (9 : Int).toNat = 1000000000 from ten9] at nf nw_
  rw [show (2 : Int) ^ (30 : Int).toNat = 1073741824 by decide] at no
  have ef := out_of hf nf
  have eo := odd_of ho no
  have ew := out_of hw nw_
  have hf : At H3 far df := hf.mono (Same.trans (nw_hidw hD (by mem_news)) hid_same)
  have ho : At H3 odd do_ := ho.mono (Same.trans (nw_hidw hD1 (by mem_news)) hid_same)
  have hw : At H3 few dw := hw.mono nw_same
  have s03 : Same (hid s H) (hid s H3) := by mem_news
  have en := vR_yes (lo := 0) (hi := 1000000000) n1 n2
  have hn : At H3 (.int n) (.int n) := .int n
  have hm : At H3 (.int m) (.int m) := .int m
  have nn : At H3 .non .non := .non
  have okl : (Dt.lst [df, do_, dw]).dep ≤ 9 ∧ (Dt.lst [df, do_, dw]).okd = true := by
    constructor
    · simp only [Dt.dep, Dt.depL]
      omega
    · simp [Dt.okd, Dt.okL, of_.2, oo.2, ow.2]
  clear s1 s2 s3 hD1 hD2
  fold_lay
  rename_i l1 j1
  refine c_copy (E := E0) (d := .lst [df, do_, dw]) (.lst upd_same (.cons (hf.mono (by mem_news)) (.cons (ho.mono (by mem_news)) (.cons (hw.mono (by mem_news)) .nil)))) okl.1 okl.2 fun kv H4 hkv s4 => ?_
  have hkv := hkv.mono nw_same
  have s34 : Same H3 H4 := by mem_news
  fold_lay; fold_depth
  rename_i l2 j2
  refine f_lst (sqL upd_same) (l_lst (xs := [.str "align_up", .str "align_down"]) (fun i σ' H' => Same (upd H4 l2 (.lst [.str "align_up", .str "align_down"])) H' ∧ ∃ y, σ' = [some (.ref d), some (.int n), some (.int m), some far, some odd, some few, some kv, y]) ⟨Same.refl _, _, rfl⟩ (fun i σ' H' _ h => sqL (h.1 _ _ upd_same)) ?_ ?_)
  · rintro i x σ' H5 hx ⟨s5, y, rfl⟩
    obtain ⟨t, rfl, ht⟩ : ∃ t : Str, x = .str t ∧ (t = "align_up" ∨ t = "align_down") := by
      have := List.mem_of_getElem? hx
      simp only [List.mem_cons, List.not_mem_nil, or_false] at this
      rcases this with rfl | rfl
      · exact ⟨_, rfl, .inl rfl⟩
      · exact ⟨_, rfl, .inr rfl⟩
    have bt : ∀ v1 v2, badT t v1 v2 = bad00 v1 v2 := fun v1 v2 => by
      unfold badT
      rw [if_pos ht]
    fold_lay; fold_depth
    refine c_asked00 (t := t) (hf.mono (by mem_news)).ty (hm.mono (by mem_news)).ty R (by rcases ht with rfl | rfl <;> simp [four]) fun v1 HA1 hv1 sA1 => ?_
    rw [ask_some (s := "number") (by rw [bt]; simp [bad00, ef])] at hv1
    fold_lay
    rename_i q1 k1
    refine c_refused (fd := .tup [.str "number"]) (.tup upd_same (.cons (.str _) .nil)) fun w1 HB1 hw1 sB1 => ?_
    fold_lay
    refine c_same (E := E0) (hv1.mono (by mem_news)) hw1 (ref_ok _ _).1 (ref_ok _ _).2 fun HC1 sC1 => ?_
    fold_lay; fold_depth
    refine c_asked00 (t := t) (hn.mono (by mem_news)).ty (ho.mono (by mem_news)).ty R (by rcases ht with rfl | rfl <;> simp [four]) fun v2 HA2 hv2 sA2 => ?_
    rw [ask_some (s := "align") (by rw [bt]; simp [bad00, en, eo])] at hv2
    fold_lay
    rename_i q2 k2
    refine c_refused (fd := .tup [.str "align"]) (.tup upd_same (.cons (.str _) .nil)) fun w2 HB2 hw2 sB2 => ?_
    fold_lay
    refine c_same (E := E0) (hv2.mono (by mem_news)) hw2 (ref_ok _ _).1 (ref_ok _ _).2 fun HC2 sC2 => ?_
    fold_lay
    refine c_asked00 (t := t) (hf.mono (by mem_news)).ty (ho.mono (by mem_news)).ty R (by rcases ht with rfl | rfl <;> simp [four]) fun v3 HA3 hv3 sA3 => ?_
    rw [ask_some (s := "number") (by rw [bt]; simp [bad00, ef])] at hv3
    fold_lay
    rename_i q3 k3
    refine c_refused (fd := .tup [.str "number"]) (.tup upd_same (.cons (.str _) .nil)) fun w3 HB3 hw3 sB3 => ?_
    fold_lay
    refine c_same (E := E0) (hv3.mono (by mem_news)) hw3 (ref_ok _ _).1 (ref_ok _ _).2 fun HC3 sC3 => ?_
    fold_lay
    exact ⟨by mem_news, _, rfl⟩
  · rintro σ' H5 ⟨s5, y, rfl⟩
    fold_depth
    refine c_asked00 (t := "order_of") (hw.mono (by mem_news)).ty (nn.mono (by mem_news)).ty R (by simp [four]) fun v4 HA4 hv4 sA4 => ?_
    rw [ask_some (s := "count") (by unfold badT; rw [if_neg (by decide), if_pos ew, if_pos rfl])] at hv4
    fold_lay
    rename_i q4 k4
    refine c_refused (fd := .tup [.str "count"]) (.tup upd_same (.cons (.str _) .nil)) fun w4 HB4 hw4 sB4 => ?_
    fold_lay
    refine c_same (E := E0) (hv4.mono (by mem_news)) hw4 (ref_ok _ _).1 (ref_ok _ _).2 fun HC4 sC4 => ?_
    fold_lay; fold_depth
    refine c_asked00 (t := "power_in") (hw.mono (by mem_news)).ty (nn.mono (by mem_news)).ty R (by simp [four]) fun v5 HA5 hv5 sA5 => ?_
    rw [ask_some (s := "number") (by unfold badT; rw [if_neg (by decide), if_pos ew, if_neg (by decide)])] at hv5
    fold_lay
    rename_i q5 k5
    refine c_refused (fd := .tup [.str "number"]) (.tup upd_same (.cons (.str _) .nil)) fun w5 HB5 hw5 sB5 => ?_
    fold_lay
    refine c_same (E := E0) (hv5.mono (by mem_news)) hw5 (ref_ok _ _).1 (ref_ok _ _).2 fun HC5 sC5 => ?_
    fold_lay
    rename_i l3 j3
    exact c_same (E := E0) (d := .lst [df, do_, dw]) (.lst upd_same (.cons (hf.mono (by mem_news)) (.cons (ho.mono (by mem_news)) (.cons (hw.mono (by mem_news)) .nil)))) (hkv.mono (by mem_news)) okl.1 okl.2 fun H9 s9 => k _ (hD3.same (by mem_news)) (s03.trans (hid_mono (by mem_news)))
def sp_numbers_right : Sp := fun vs H Q _ => vs = [] ∧ ∀ H', Same H H' → Q (.bl true) H'
def N_l_numbers_right : List Str := ["_law_told"]
def t_l_numbers_right (K : PySem.W.Frag) : TS := (tSeq (tAsg (tLst (tCons (tC (.int 65535)) (tCons (tC (.int 0)) (tCons (tC (.int 21)) (tCons (tC (.int 22)) (tCons (tC (.int 23)) (tCons (tC (.int 24)) (tCons (tC (.int 25)) (tCons (tC (.int 26)) (tCons (tC (.int 27)) (tCons (tC (.int 28)) (tCons (tC (.int 4711)) (tCons (tC (.int 60001)) (tCons (tC (.int 60002)) tNil)))))))))))))) (gName 0))
  (tRet (tCall (sp_same 10) [] E0 (tCons (tVar 0) (tCons (tLst (tCons (tC (.int 65535)) (tCons (tC (.int 0)) (tCons (tC (.int 21)) (tCons (tC (.int 22)) (tCons (tC (.int 23)) (tCons (tC (.int 24)) (tCons (tC (.int 25)) (tCons (tC (.int 26)) (tCons (tC (.int 27)) (tCons (tC (.int 28)) (tCons (tC (.int 4711)) (tCons (tC (.int 60001)) (tCons (tC (.int 60002)) tNil)))))))))))))) tNil)))))
theorem pure_numbers_right {K : PySem.W.Frag} {vs : List V} {H : Hp} {Q : VK} {E : XK} (h : sp_numbers_right vs H Q E) : t_l_numbers_right K { nx := fun _ H' => Q .non H', rt := Q } (start N_l_numbers_right vs) H := by
  obtain ⟨rfl, k⟩ := h
  unfold t_l_numbers_right
  fold_lay
  rename_i p1 h1 p2 h2
  have A : ∀ {G : Hp} (l : List Int), Ats G (l.map V.int) (l.map Dt.int) := fun {G} l => by
    induction l with
    | nil => exact .nil
    | cons x r ih => exact .cons (.int x) ih
  exact c_same (E := E0) (d := .lst (([65535, 0, 21, 22, 23, 24, 25, 26, 27, 28, 4711, 60001, 60002] : List Int).map Dt.int)) (.lst (upd_keep h2 upd_same) (A [65535, 0, 21, 22, 23, 24, 25, 26, 27, 28, 4711, 60001, 60002])) (.lst upd_same (A [65535, 0, 21, 22, 23, 24, 25, 26, 27, 28, 4711, 60001, 60002])) (by decide) (by decide) fun H3 s3 => k _ (by mem_news)
/-! ## K00d -/
/-! ### refusals made by hand -/
/-- all that is asked of the eight classes -/
structure AllK (K : PySem.W.Frag) (c : Cl) : Prop where
  bk : BvK K c
  x2 : ErC K c.k_Broken ["told", "place", "found", "due"]
  k2 : ExK K c c.k_Broken false true false false false false false false
  x3 : ErC K c.k_Unknown ["told", "parameter"]
  k3 : ExK K c c.k_Unknown false false true false false false false false
  x4 : ErC K c.k_NotHeld ["told", "place", "found"]
  k4 : ExK K c c.k_NotHeld false false false true false false false false
  x5 : ErC K c.k_Fault ["told", "kind", "place"]
  k5 : ExK K c c.k_Fault false false false false true false false false
  x6 : ErC K c.k_NoRoom ["told", "paper"]
  k6 : ExK K c c.k_NoRoom false false false false false true false false
  x7 : ErC K c.k_Cut ["told", "needed", "left"]
  k7 : ExK K c c.k_Cut false false false false false false true false
  x8 : ErC K c.k_BadLine ["told", "line", "column"]
  k8 : ExK K c c.k_BadLine false false false false false false false true
/-- a refusal at a, with what it tells and the fields read off it -/
structure Item (K : PySem.W.Frag) (c : Cl) (H : Hp) (a f u : Addr) (nm : Str) (vals : List V) : Prop where
  go : ∃ (C dd t1 t2 : Addr) (fs : List (Str × V)) (k3 k4 k5 k6 k7 k8 k9 k10 : Bool), H a = some (exi a (.ref C) (some dd)) ∧ H dd = some (.xd (("told", .ref t2) :: fs)) ∧ H t2 = some (.tup [.str nm, .ref t1]) ∧ H t1 = some (.tup vals) ∧
    PySem.W.findIn K (.ref C) "told" = some none ∧ ExK K c C k3 k4 k5 k6 k7 k8 k9 k10 ∧ [k3, k4, k5, k6, k7, k8, k9, k10] = yes nm
  hf : H f = some (.tup vals)
  hu : H u = some (.tup vals)
theorem ref_okL {t : Str} {ds : List Dt} (h1 : Dt.depL ds ≤ 5) (h2 : Dt.okL ds = true) (h3 : ds.length ≤ 3) : (refD2 t (.tup ds)).dep ≤ 9 ∧ (refD2 t (.tup ds)).okd = true := by
  have e : Dt.depL (([true, true] ++ yes t).map Dt.bl) = 0 := by
    show Dt.depL [.bl _, .bl _, .bl _, .bl _, .bl _, .bl _, .bl _, .bl _, .bl _, .bl _] = 0
    simp [Dt.depL, Dt.dep]
  have e2 : Dt.okd (.lst (([true, true] ++ yes t).map Dt.bl)) = true := rfl
  constructor
  · simp only [refD2, Dt.dep, Dt.depL, e]
    omega
  · have e3 : Dt.okd (.tup ds) = true := by simp [Dt.okd, h2]; omega
    unfold refD2
    simp only [Dt.okd, Dt.okL, Bool.and_eq_true] at e2 e3 ⊢
    simp only [e2, e3, h2]
    simp
theorem made_loop {K : PySem.W.Frag} {c : Cl} {H : Hp} {Q : VK} {lm fc du ti : Addr} {made fields dues : List V} {x0 x1 x2 x3 x4 x5 x6 x7 x8 x9 x10 y : Option V} {σ : St} (hm : H lm = some (.lst made)) (hf : H fc = some (.lst fields)) (hd : H du = some (.lst dues)) (ht : H ti = some (.lst (titles.map V.str)))
    (items : ∀ i : Nat, i < 8 → ∃ (a f u : Addr) (nm : Str) (vals : List V) (ds : List Dt), made[i]? = some (.ref a) ∧ fields[i]? = some (.ref f) ∧ dues[i]? = some (.ref u) ∧ titles[i]? = some nm ∧ Item K c H a f u nm vals ∧ Ats H vals ds ∧ Dt.depL ds ≤ 5 ∧ Dt.okL ds = true ∧ ds.length ≤ 3)
    (hσ : σ = [x0, x1, x2, x3, x4, x5, x6, x7, x8, x9, x10, some (.ref lm), some (.ref fc), some (.ref du), some (.ref ti), y]) (k : ∀ H', Same H H' → Q (.bl true) H') :
    tSeq (tFor (iRng1 (tCons (tC (.int 8)) tNil)) (gName 15) (tIfS (tNot (tB (tCall (sp_same 10) [] E0 (tCons (tLst (tCons (tC (.str "refused")) (tCons (tXt K "told" (tOp (rIxL K) (tVar 11) (tVar 15))) (tCons (tOp (rIxL K) (tVar 12) (tVar 15)) (tCons (tCall (sp_kinds K c) [] E0 (tCons (tOp (rIxL K) (tVar 11) (tVar 15)) tNil)) tNil))))) (tCons (tCall sp_refused [] E0 (tCons (tOp (rIxL K) (tVar 14) (tVar 15)) (tCons (tOp (rIxL K) (tVar 13) (tVar 15)) tNil))) tNil))))) (tRet (tC (.bl false))) tNext)) (tRet (tC (.bl true))) { nx := fun _ H' => Q .non H', rt := Q } σ H := by
  subst hσ
  fold_depth
  refine f_rng1 (by omega) (by omega) (l_rng (fun i σ' H' => Same H H' ∧ ∃ y, σ' = [x0, x1, x2, x3, x4, x5, x6, x7, x8, x9, x10, some (.ref lm), some (.ref fc), some (.ref du), some (.ref ti), y]) ⟨Same.refl _, _, rfl⟩ ?_ ?_)
  · rintro i σ' H1 hi ⟨s1, y, rfl⟩
    obtain ⟨a, f, u, nm, vals, ds, e1, e2, e3, e4, ⟨⟨C, dd, t1, t2, fs, b3, b4, b5, b6, b7, b8, b9, b10, g1, g2, g3, g4, g5, g6, g7⟩, g8, g9⟩, hv, o1, o2, o3⟩ := items i hi
    have e4 : (titles.map V.str)[i]? = some (.str nm) := by rw [List.getElem?_map, e4]; rfl
    have ok := ref_okL (t := nm) o1 o2 o3
    fold_lay
    refine i_ixL (sqL (by kct_strs)) (at_of (j := i) (by omega) e1) ?_
    refine ⟨a, C, dd, _, .ref t2, rfl, by kct_strs, g6.xf, g5, by kct_strs, by rw [lookup_put, if_pos rfl], ?_⟩
    fold_lay
    refine i_ixL (sqL (by kct_strs)) (at_of (j := i) (by omega) e2) ?_
    fold_lay
    refine i_ixL (sqL (by kct_strs)) (at_of (j := i) (by omega) e1) ?_
    fold_lay
    refine ⟨a, dd, C, _, b3, b4, b5, b6, b7, b8, b9, b10, rfl, by kct_strs, by kct_strs, g6, fun p hp => ?_⟩
    fold_lay
    rename_i q hq
    refine i_ixL (sqL (by kct_strs)) (at_of (j := i) (by omega) e4) ?_
    fold_lay
    refine i_ixL (sqL (by kct_strs)) (at_of (j := i) (by omega) e3) ?_
    fold_lay
    refine c_refused (fd := .tup ds) (.tup (by kct_strs) (hv.mono (by mem_news))) fun w H2 hw s2 => ?_
    have hq2 : H2 q = some (.lst [.str "refused", .ref t2, .ref f, .ref p]) := by kct_strs
    have hp2 : H2 p = some (.lst ([true, true, b3, b4, b5, b6, b7, b8, b9, b10].map V.bl)) := by kct_strs
    have s12 : Same H1 H2 := by mem_news
    have s02 : Same H H2 := by mem_news
    have first : At H2 (.ref q) (refD2 nm (.tup ds)) := by
      refine .lst hq2 (.cons (.str _) (.cons (.tup (s02 _ _ g3) (.cons (.str _) (.cons (.tup (s02 _ _ g4) (hv.mono s02)) .nil))) (.cons (.tup (s02 _ _ g8) (hv.mono s02)) (.cons (.lst hp2 ?_) .nil))))
      rw [← g7]
      exact Ats_bls _
    fold_lay
    refine c_same (E := E0) first hw ok.1 ok.2 fun H3 s3 => ?_
    fold_lay
    exact ⟨by mem_news, _, rfl⟩
  · rintro σ' H1 ⟨s1, y, rfl⟩
    fold_lay
    exact k _ s1
def sp_made_right (K : PySem.W.Frag) (c : Cl) : Sp := fun vs H Q _ => ∃ (v1 v2 v3 : V) (d1 d2 d3 : Dt), vs = [v1, v2, v3] ∧ At H v1 d1 ∧ At H v2 d2 ∧ At H v3 d3 ∧ (d1.dep ≤ 5 ∧ d1.okd = true) ∧ (d2.dep ≤ 5 ∧ d2.okd = true) ∧ (d3.dep ≤ 5 ∧ d3.okd = true) ∧ AllK K c ∧ ∀ H', Same H H' → Q (.bl true) H'
def N_l_made_right : List Str := ["_law_one", "_law_two", "_law_three", "_law_bad", "_law_broken", "_law_unknown", "_law_held", "_law_fault", "_law_room", "_law_cut", "_law_line", "_law_made", "_law_fields", "_law_due", "_law_titles", "_law_k"]
def t_l_made_right (K : PySem.W.Frag) (c : Cl) : TS := (tSeq (tAsg (tMkX (tMkO c.k_BadValue (sp_init_BadValue K c.k_BadValue) [] (tCons (tVar 0) tNil))) (gName 3))
  (tSeq (tAsg (tMkX (tMkO c.k_Broken (sp_init_Broken K c.k_Broken) [] (tCons (tVar 0) (tCons (tVar 1) (tCons (tVar 2) tNil))))) (gName 4))
  (tSeq (tAsg (tMkX (tMkO c.k_Unknown (sp_init_Unknown K c.k_Unknown) [] (tCons (tVar 1) tNil))) (gName 5))
  (tSeq (tAsg (tMkX (tMkO c.k_NotHeld (sp_init_NotHeld K c.k_NotHeld) [] (tCons (tVar 1) (tCons (tVar 0) tNil)))) (gName 6))
  (tSeq (tAsg (tMkX (tMkO c.k_Fault (sp_init_Fault K c.k_Fault) [] (tCons (tVar 0) (tCons (tVar 2) tNil)))) (gName 7))
  (tSeq (tAsg (tMkX (tMkO c.k_NoRoom (sp_init_NoRoom K c.k_NoRoom) [] (tCons (tVar 2) tNil))) (gName 8))
  (tSeq (tAsg (tMkX (tMkO c.k_Cut (sp_init_Cut K c.k_Cut) [] (tCons (tVar 2) (tCons (tVar 1) tNil)))) (gName 9))
  (tSeq (tAsg (tMkX (tMkO c.k_BadLine (sp_init_BadLine K c.k_BadLine) [] (tCons (tVar 1) (tCons (tVar 2) tNil)))) (gName 10))
  (tSeq (tAsg (tLst (tCons (tVar 3) (tCons (tVar 4) (tCons (tVar 5) (tCons (tVar 6) (tCons (tVar 7) (tCons (tVar 8) (tCons (tVar 9) (tCons (tVar 10) tNil))))))))) (gName 11))
  (tSeq (tAsg (tLst (tCons (tTup (tCons (tXt K "parameter" (tVar 3)) tNil)) (tCons (tTup (tCons (tXt K "place" (tVar 4)) (tCons (tXt K "found" (tVar 4)) (tCons (tXt K "due" (tVar 4)) tNil)))) (tCons (tTup (tCons (tXt K "parameter" (tVar 5)) tNil)) tNil)))) (gName 12))
  (tSeq (tAsg (tOp rCat (tVar 12) (tLst (tCons (tTup (tCons (tXt K "place" (tVar 6)) (tCons (tXt K "found" (tVar 6)) tNil))) (tCons (tTup (tCons (tXt K "kind" (tVar 7)) (tCons (tXt K "place" (tVar 7)) tNil))) (tCons (tTup (tCons (tXt K "paper" (tVar 8)) tNil)) (tCons (tTup (tCons (tXt K "needed" (tVar 9)) (tCons (tXt K "left" (tVar 9)) tNil))) tNil)))))) (gName 12))
  (tSeq (tAsg (tOp rCat (tVar 12) (tLst (tCons (tTup (tCons (tXt K "line" (tVar 10)) (tCons (tXt K "column" (tVar 10)) tNil))) tNil))) (gName 12))
  (tSeq (tAsg (tLst (tCons (tTup (tCons (tVar 0) tNil)) (tCons (tTup (tCons (tVar 0) (tCons (tVar 1) (tCons (tVar 2) tNil)))) (tCons (tTup (tCons (tVar 1) tNil)) (tCons (tTup (tCons (tVar 1) (tCons (tVar 0) tNil))) (tCons (tTup (tCons (tVar 0) (tCons (tVar 2) tNil))) (tCons (tTup (tCons (tVar 2) tNil)) (tCons (tTup (tCons (tVar 2) (tCons (tVar 1) tNil))) (tCons (tTup (tCons (tVar 1) (tCons (tVar 2) tNil))) tNil))))))))) (gName 13))
  (tSeq (tAsg (tLst (tCons (tC (.str "BadValue")) (tCons (tC (.str "Broken")) (tCons (tC (.str "Unknown")) (tCons (tC (.str "NotHeld")) (tCons (tC (.str "Fault")) (tCons (tC (.str "NoRoom")) (tCons (tC (.str "Cut")) (tCons (tC (.str "BadLine")) tNil))))))))) (gName 14))
  (tSeq (tFor (iRng1 (tCons (tC (.int 8)) tNil)) (gName 15) (tIfS (tNot (tB (tCall (sp_same 10) [] E0 (tCons (tLst (tCons (tC (.str "refused")) (tCons (tXt K "told" (tOp (rIxL K) (tVar 11) (tVar 15))) (tCons (tOp (rIxL K) (tVar 12) (tVar 15)) (tCons (tCall (sp_kinds K c) [] E0 (tCons (tOp (rIxL K) (tVar 11) (tVar 15)) tNil)) tNil))))) (tCons (tCall sp_refused [] E0 (tCons (tOp (rIxL K) (tVar 14) (tVar 15)) (tCons (tOp (rIxL K) (tVar 13) (tVar 15)) tNil))) tNil))))) (tRet (tC (.bl false))) tNext))
  (tRet (tC (.bl true))))))))))))))))))
/-- a refusal of class C at a -/
def IsE (H : Hp) (a C : Addr) (nm : Str) (fs : List (Str × V)) (vals : List V) : Prop := ∃ e t1 t2, H a = some (exi a (.ref C) (some e)) ∧ H e = some (.xd (("told", .ref t2) :: fs)) ∧ H t2 = some (.tup [.str nm, .ref t1]) ∧ H t1 = some (.tup vals)
theorem IsE.mono {H H' : Hp} {a C : Addr} {nm : Str} {fs : List (Str × V)} {vals : List V} (h : IsE H a C nm fs vals) (k : Same H H') : IsE H' a C nm fs vals := by
  obtain ⟨e, t1, t2, h1, h2, h3, h4⟩ := h
  exact ⟨e, t1, t2, k _ _ h1, k _ _ h2, k _ _ h3, k _ _ h4⟩
theorem IsE.new {H : Hp} {a d C : Addr} {nm : Str} {fs : List (Str × V)} {vals : List V} (h : ErAt H d nm fs vals) (ha : H a = none) : IsE (upd H a (exi a (.ref C) (some d))) a C nm fs vals := by
  obtain ⟨t1, t2, h1, h2, h3⟩ := h
  exact ⟨d, t1, t2, upd_same, upd_keep ha h1, upd_keep ha h2, upd_keep ha h3⟩
theorem IsE.fld {K : PySem.W.Frag} {H : Hp} {a C : Addr} {nm f : Str} {fs : List (Str × V)} {vals : List V} {v : V} {P : V → Prop} (h : IsE H a C nm fs vals) (X : XfC K C) (n : PySem.W.findIn K (.ref C) f = some none) (nt : f ≠ "told") (l : fs.lookup f = some v) (q : P v) :
    ∃ (a' C' dd : Addr) (fs' : List (Str × V)) (v' : V), V.ref a = .ref a' ∧ H a' = some (exi a' (.ref C') (some dd)) ∧ XfC K C' ∧ PySem.W.findIn K (.ref C') f = some none ∧ H dd = some (.xd fs') ∧ fs'.lookup f = some v' ∧ P v' := by
  obtain ⟨e, t1, t2, h1, h2, h3, h4⟩ := h
  exact ⟨a, C, e, _, v, rfl, h1, X, n, h2, by rw [lookup_put, if_neg nt]; exact l, q⟩
theorem IsE.item {K : PySem.W.Frag} {c : Cl} {H : Hp} {a f u C : Addr} {nm : Str} {fs : List (Str × V)} {vals : List V} {k3 k4 k5 k6 k7 k8 k9 k10 : Bool} (h : IsE H a C nm fs vals) (n : PySem.W.findIn K (.ref C) "told" = some none) (X : ExK K c C k3 k4 k5 k6 k7 k8 k9 k10) (b : [k3, k4, k5, k6, k7, k8, k9, k10] = yes nm) (hf : H f = some (.tup vals)) (hu : H u = some (.tup vals)) : Item K c H a f u nm vals := by
  obtain ⟨e, t1, t2, h1, h2, h3, h4⟩ := h
  exact ⟨⟨C, e, t1, t2, fs, k3, k4, k5, k6, k7, k8, k9, k10, h1, h2, h3, h4, n, X, b⟩, hf, hu⟩
theorem pure_made_right {K : PySem.W.Frag} {c : Cl} {vs : List V} {H : Hp} {Q : VK} {E : XK} (h : sp_made_right K c vs H Q E) : t_l_made_right K c { nx := fun _ H' => Q .non H', rt := Q } (start N_l_made_right vs) H := by
  obtain ⟨v1, v2, v3, d1, d2, d3, rfl, at1, at2, at3, ok1, ok2, ok3, AK, k⟩ := h
  unfold t_l_made_right
  refine i_cut (fun σ' H' => Same H H' ∧ ∃ a1, IsE H' a1 c.k_BadValue "BadValue" [("parameter", v1)] [v1] ∧ σ' = [some v1, some v2, some v3, some (.ref a1), none, none, none, none, none, none, none, none, none, none, none, none]) ?_ (fun nx key => ?_)
  rotate_left
  · fold_lay
    refine c_mkE (nm := "BadValue") (fs := [("parameter", v1)]) (vs := [v1]) (by simp) (fun a H Q he hq => ⟨a, v1, rfl, he, AK.bk.bv, hq⟩) fun e G ea gs gn a ha => ?_
    fold_lay
    exact key _ _ ⟨by mem_news, a, IsE.new ea ha, rfl⟩
  rintro σ' H1 ⟨s1, a1, E1, rfl⟩
  refine i_cut (fun σ' H' => Same H1 H' ∧ ∃ a2, IsE H' a2 c.k_Broken "Broken" [("due", v3), ("found", v2), ("place", v1)] [v1, v2, v3] ∧ σ' = [some v1, some v2, some v3, some (.ref a1), some (.ref a2), none, none, none, none, none, none, none, none, none, none, none]) ?_ (fun nx key => ?_)
  rotate_left
  · fold_lay
    refine c_mkE (nm := "Broken") (fs := [("due", v3), ("found", v2), ("place", v1)]) (vs := [v1, v2, v3]) (by simp) (fun a H Q he hq => ⟨a, v1, v2, v3, rfl, he, AK.x2, hq⟩) fun e G ea gs gn a ha => ?_
    fold_lay
    exact key _ _ ⟨by mem_news, a, IsE.new ea ha, rfl⟩
  rintro σ' H2 ⟨s2, a2, E2, rfl⟩
  refine i_cut (fun σ' H' => Same H2 H' ∧ ∃ a3, IsE H' a3 c.k_Unknown "Unknown" [("parameter", v2)] [v2] ∧ σ' = [some v1, some v2, some v3, some (.ref a1), some (.ref a2), some (.ref a3), none, none, none, none, none, none, none, none, none, none]) ?_ (fun nx key => ?_)
  rotate_left
  · fold_lay
    refine c_mkE (nm := "Unknown") (fs := [("parameter", v2)]) (vs := [v2]) (by simp) (fun a H Q he hq => ⟨a, v2, rfl, he, AK.x3, hq⟩) fun e G ea gs gn a ha => ?_
    fold_lay
    exact key _ _ ⟨by mem_news, a, IsE.new ea ha, rfl⟩
  rintro σ' H3 ⟨s3, a3, E3, rfl⟩
  refine i_cut (fun σ' H' => Same H3 H' ∧ ∃ a4, IsE H' a4 c.k_NotHeld "NotHeld" [("found", v1), ("place", v2)] [v2, v1] ∧ σ' = [some v1, some v2, some v3, some (.ref a1), some (.ref a2), some (.ref a3), some (.ref a4), none, none, none, none, none, none, none, none, none]) ?_ (fun nx key => ?_)
  rotate_left
  · fold_lay
    refine c_mkE (nm := "NotHeld") (fs := [("found", v1), ("place", v2)]) (vs := [v2, v1]) (by simp) (fun a H Q he hq => ⟨a, v2, v1, rfl, he, AK.x4, hq⟩) fun e G ea gs gn a ha => ?_
    fold_lay
    exact key _ _ ⟨by mem_news, a, IsE.new ea ha, rfl⟩
  rintro σ' H4 ⟨s4, a4, E4, rfl⟩
  refine i_cut (fun σ' H' => Same H4 H' ∧ ∃ a5, IsE H' a5 c.k_Fault "Fault" [("place", v3), ("kind", v1)] [v1, v3] ∧ σ' = [some v1, some v2, some v3, some (.ref a1), some (.ref a2), some (.ref a3), some (.ref a4), some (.ref a5), none, none, none, none, none, none, none, none]) ?_ (fun nx key => ?_)
  rotate_left
  · fold_lay
    refine c_mkE (nm := "Fault") (fs := [("place", v3), ("kind", v1)]) (vs := [v1, v3]) (by simp) (fun a H Q he hq => ⟨a, v1, v3, rfl, he, AK.x5, hq⟩) fun e G ea gs gn a ha => ?_
    fold_lay
    exact key _ _ ⟨by mem_news, a, IsE.new ea ha, rfl⟩
  rintro σ' H5 ⟨s5, a5, E5, rfl⟩
  refine i_cut (fun σ' H' => Same H5 H' ∧ ∃ a6, IsE H' a6 c.k_NoRoom "NoRoom" [("paper", v3)] [v3] ∧ σ' = [some v1, some v2, some v3, some (.ref a1), some (.ref a2), some (.ref a3), some (.ref a4), some (.ref a5), some (.ref a6), none, none, none, none, none, none, none]) ?_ (fun nx key => ?_)
  rotate_left
  · fold_lay
    refine c_mkE (nm := "NoRoom") (fs := [("paper", v3)]) (vs := [v3]) (by simp) (fun a H Q he hq => ⟨a, v3, rfl, he, AK.x6, hq⟩) fun e G ea gs gn a ha => ?_
    fold_lay
    exact key _ _ ⟨by mem_news, a, IsE.new ea ha, rfl⟩
  rintro σ' H6 ⟨s6, a6, E6, rfl⟩
  refine i_cut (fun σ' H' => Same H6 H' ∧ ∃ a7, IsE H' a7 c.k_Cut "Cut" [("left", v2), ("needed", v3)] [v3, v2] ∧ σ' = [some v1, some v2, some v3, some (.ref a1), some (.ref a2), some (.ref a3), some (.ref a4), some (.ref a5), some (.ref a6), some (.ref a7), none, none, none, none, none, none]) ?_ (fun nx key => ?_)
  rotate_left
  · fold_lay
    refine c_mkE (nm := "Cut") (fs := [("left", v2), ("needed", v3)]) (vs := [v3, v2]) (by simp) (fun a H Q he hq => ⟨a, v3, v2, rfl, he, AK.x7, hq⟩) fun e G ea gs gn a ha => ?_
    fold_lay
    exact key _ _ ⟨by mem_news, a, IsE.new ea ha, rfl⟩
  rintro σ' H7 ⟨s7, a7, E7, rfl⟩
  refine i_cut (fun σ' H' => Same H7 H' ∧ ∃ a8, IsE H' a8 c.k_BadLine "BadLine" [("column", v3), ("line", v2)] [v2, v3] ∧ σ' = [some v1, some v2, some v3, some (.ref a1), some (.ref a2), some (.ref a3), some (.ref a4), some (.ref a5), some (.ref a6), some (.ref a7), some (.ref a8), none, none, none, none, none]) ?_ (fun nx key => ?_)
  rotate_left
  · fold_lay
    refine c_mkE (nm := "BadLine") (fs := [("column", v3), ("line", v2)]) (vs := [v2, v3]) (by simp) (fun a H Q he hq => ⟨a, v2, v3, rfl, he, AK.x8, hq⟩) fun e G ea gs gn a ha => ?_
    fold_lay
    exact key _ _ ⟨by mem_news, a, IsE.new ea ha, rfl⟩
  rintro σ' H8 ⟨s8, a8, E8, rfl⟩
  replace E1 := E1.mono (show Same H1 H8 by mem_news)
  replace E2 := E2.mono (show Same H2 H8 by mem_news)
  replace E3 := E3.mono (show Same H3 H8 by mem_news)
  replace E4 := E4.mono (show Same H4 H8 by mem_news)
  replace E5 := E5.mono (show Same H5 H8 by mem_news)
  replace E6 := E6.mono (show Same H6 H8 by mem_news)
  replace E7 := E7.mono (show Same H7 H8 by mem_news)
  have t8 : Same H H8 := by mem_news
  clear s1 s2 s3 s4 s5 s6 s7 s8
  refine i_cut (fun σ' H' => Same H8 H' ∧ ∃ lm, H' lm = some (.lst [.ref a1, .ref a2, .ref a3, .ref a4, .ref a5, .ref a6, .ref a7, .ref a8]) ∧ σ' = [some v1, some v2, some v3, some (.ref a1), some (.ref a2), some (.ref a3), some (.ref a4), some (.ref a5), some (.ref a6), some (.ref a7), some (.ref a8), some (.ref lm), none, none, none, none]) ?_ (fun nx key => ?_)
  rotate_left
  · fold_lay
    exact key _ _ ⟨by mem_news, _, upd_same, rfl⟩
  rintro σ' H9 ⟨s9, lm, hlm, rfl⟩
  refine i_cut (fun σ' H' => Same H9 H' ∧ ∃ f1 f2 f3 fa, H' f1 = some (.tup [v1]) ∧ H' f2 = some (.tup [v1, v2, v3]) ∧ H' f3 = some (.tup [v2]) ∧ H' fa = some (.lst [.ref f1, .ref f2, .ref f3]) ∧ σ' = [some v1, some v2, some v3, some (.ref a1), some (.ref a2), some (.ref a3), some (.ref a4), some (.ref a5), some (.ref a6), some (.ref a7), some (.ref a8), some (.ref lm), some (.ref fa), none, none, none]) ?_ (fun nx key => ?_)
  rotate_left
  · fold_lay
    refine (E1.mono (by mem_news)).fld AK.bk.kd.xf AK.bk.bv.np (by decide) (v := v1) (by rw [lookup_put, if_pos rfl]) ?_
    fold_lay
    refine (E2.mono (by mem_news)).fld AK.k2.xf (AK.x2.nf "place" (by simp)) (by decide) (v := v1) (by rw [lookup_put, if_neg (by decide), lookup_put, if_neg (by decide), lookup_put, if_pos rfl]) ?_
    fold_lay
    refine (E2.mono (by mem_news)).fld AK.k2.xf (AK.x2.nf "found" (by simp)) (by decide) (v := v2) (by rw [lookup_put, if_neg (by decide), lookup_put, if_pos rfl]) ?_
    fold_lay
    refine (E2.mono (by mem_news)).fld AK.k2.xf (AK.x2.nf "due" (by simp)) (by decide) (v := v3) (by rw [lookup_put, if_pos rfl]) ?_
    fold_lay
    refine (E3.mono (by mem_news)).fld AK.k3.xf (AK.x3.nf "parameter" (by simp)) (by decide) (v := v2) (by rw [lookup_put, if_pos rfl]) ?_
    fold_lay
    rename_i f1 jf1 f2 jf2 f3 jf3 fl jfl
    exact key _ _ ⟨by mem_news, f1, f2, f3, _, by kct_strs, by kct_strs, by kct_strs, upd_same, rfl⟩
  rintro σ' H10 ⟨s10, f1, f2, f3, fa, hf1, hf2, hf3, hfa, rfl⟩
  refine i_cut (fun σ' H' => Same H10 H' ∧ ∃ f4 f5 f6 f7 fb, H' f4 = some (.tup [v2, v1]) ∧ H' f5 = some (.tup [v1, v3]) ∧ H' f6 = some (.tup [v3]) ∧ H' f7 = some (.tup [v3, v2]) ∧ H' fb = some (.lst ([.ref f1, .ref f2, .ref f3] ++ [.ref f4, .ref f5, .ref f6, .ref f7])) ∧ σ' = [some v1, some v2, some v3, some (.ref a1), some (.ref a2), some (.ref a3), some (.ref a4), some (.ref a5), some (.ref a6), some (.ref a7), some (.ref a8), some (.ref lm), some (.ref fb), none, none, none]) ?_ (fun nx key => ?_)
  rotate_left
  · fold_lay
    refine (E4.mono (by mem_news)).fld AK.k4.xf (AK.x4.nf "place" (by simp)) (by decide) (v := v2) (by rw [lookup_put, if_neg (by decide), lookup_put, if_pos rfl]) ?_
    fold_lay
    refine (E4.mono (by mem_news)).fld AK.k4.xf (AK.x4.nf "found" (by simp)) (by decide) (v := v1) (by rw [lookup_put, if_pos rfl]) ?_
    fold_lay
    refine (E5.mono (by mem_news)).fld AK.k5.xf (AK.x5.nf "kind" (by simp)) (by decide) (v := v1) (by rw [lookup_put, if_neg (by decide), lookup_put, if_pos rfl]) ?_
    fold_lay
    refine (E5.mono (by mem_news)).fld AK.k5.xf (AK.x5.nf "place" (by simp)) (by decide) (v := v3) (by rw [lookup_put, if_pos rfl]) ?_
    fold_lay
    refine (E6.mono (by mem_news)).fld AK.k6.xf (AK.x6.nf "paper" (by simp)) (by decide) (v := v3) (by rw [lookup_put, if_pos rfl]) ?_
    fold_lay
    refine (E7.mono (by mem_news)).fld AK.k7.xf (AK.x7.nf "needed" (by simp)) (by decide) (v := v3) (by rw [lookup_put, if_neg (by decide), lookup_put, if_pos rfl]) ?_
    fold_lay
    refine (E7.mono (by mem_news)).fld AK.k7.xf (AK.x7.nf "left" (by simp)) (by decide) (v := v2) (by rw [lookup_put, if_pos rfl]) ?_
    fold_lay
    rename_i f4 jf4 f5 jf5 f6 jf6 f7 jf7 fl jfl
    refine i_cat (l := fa) (by kct_strs) upd_same (by simp) fun fc jfc => ?_
    fold_lay
    exact key _ _ ⟨by mem_news, f4, f5, f6, f7, fc, by kct_strs, by kct_strs, by kct_strs, by kct_strs, upd_same, rfl⟩
  rintro σ' H11 ⟨s11, f4, f5, f6, f7, fb, hf4, hf5, hf6, hf7, hfb, rfl⟩
  refine i_cut (fun σ' H' => Same H11 H' ∧ ∃ f8 fc, H' f8 = some (.tup [v2, v3]) ∧ H' fc = some (.lst ([.ref f1, .ref f2, .ref f3] ++ [.ref f4, .ref f5, .ref f6, .ref f7] ++ [.ref f8])) ∧ σ' = [some v1, some v2, some v3, some (.ref a1), some (.ref a2), some (.ref a3), some (.ref a4), some (.ref a5), some (.ref a6), some (.ref a7), some (.ref a8), some (.ref lm), some (.ref fc), none, none, none]) ?_ (fun nx key => ?_)
  rotate_left
  · fold_lay
    refine (E8.mono (by mem_news)).fld AK.k8.xf (AK.x8.nf "line" (by simp)) (by decide) (v := v2) (by rw [lookup_put, if_neg (by decide), lookup_put, if_pos rfl]) ?_
    fold_lay
    refine (E8.mono (by mem_news)).fld AK.k8.xf (AK.x8.nf "column" (by simp)) (by decide) (v := v3) (by rw [lookup_put, if_pos rfl]) ?_
    fold_lay
    rename_i f8 jf8 fl jfl
    refine i_cat (l := fb) (by kct_strs) upd_same (by simp) fun fc jfc => ?_
    fold_lay
    exact key _ _ ⟨by mem_news, f8, fc, by kct_strs, upd_same, rfl⟩
  rintro σ' H12 ⟨s12, f8, fc, hf8, hfc, rfl⟩
  refine i_cut (fun σ' H' => Same H12 H' ∧ ∃ u1 u2 u3 u4 u5 u6 u7 u8 du, H' u1 = some (.tup [v1]) ∧ H' u2 = some (.tup [v1, v2, v3]) ∧ H' u3 = some (.tup [v2]) ∧ H' u4 = some (.tup [v2, v1]) ∧ H' u5 = some (.tup [v1, v3]) ∧ H' u6 = some (.tup [v3]) ∧ H' u7 = some (.tup [v3, v2]) ∧ H' u8 = some (.tup [v2, v3]) ∧ H' du = some (.lst [.ref u1, .ref u2, .ref u3, .ref u4, .ref u5, .ref u6, .ref u7, .ref u8]) ∧ σ' = [some v1, some v2, some v3, some (.ref a1), some (.ref a2), some (.ref a3), some (.ref a4), some (.ref a5), some (.ref a6), some (.ref a7), some (.ref a8), some (.ref lm), some (.ref fc), some (.ref du), none, none]) ?_ (fun nx key => ?_)
  rotate_left
  · fold_lay
    rename_i u1 ju1 u2 ju2 u3 ju3 u4 ju4 u5 ju5 u6 ju6 u7 ju7 u8 ju8 du jdu
    exact key _ _ ⟨by mem_news, u1, u2, u3, u4, u5, u6, u7, u8, du, by kct_strs, by kct_strs, by kct_strs, by kct_strs, by kct_strs, by kct_strs, by kct_strs, by kct_strs, upd_same, rfl⟩
  rintro σ' H13 ⟨s13, u1, u2, u3, u4, u5, u6, u7, u8, du, hu1, hu2, hu3, hu4, hu5, hu6, hu7, hu8, hdu, rfl⟩
  have g1 : H13 lm = some (.lst [.ref a1, .ref a2, .ref a3, .ref a4, .ref a5, .ref a6, .ref a7, .ref a8]) := by kct_strs
  have g2 : H13 fc = some (.lst ([.ref f1, .ref f2, .ref f3] ++ [.ref f4, .ref f5, .ref f6, .ref f7] ++ [.ref f8])) := by kct_strs
  replace hf1 : H13 f1 = some (.tup [v1]) := by kct_strs
  replace hf2 : H13 f2 = some (.tup [v1, v2, v3]) := by kct_strs
  replace hf3 : H13 f3 = some (.tup [v2]) := by kct_strs
  replace hf4 : H13 f4 = some (.tup [v2, v1]) := by kct_strs
  replace hf5 : H13 f5 = some (.tup [v1, v3]) := by kct_strs
  replace hf6 : H13 f6 = some (.tup [v3]) := by kct_strs
  replace hf7 : H13 f7 = some (.tup [v3, v2]) := by kct_strs
  replace hf8 : H13 f8 = some (.tup [v2, v3]) := by kct_strs
  have t13 : Same H8 H13 := by mem_news
  replace E1 := E1.mono t13
  replace E2 := E2.mono t13
  replace E3 := E3.mono t13
  replace E4 := E4.mono t13
  replace E5 := E5.mono t13
  replace E6 := E6.mono t13
  replace E7 := E7.mono t13
  replace E8 := E8.mono t13
  replace at1 := at1.mono (t8.trans t13)
  replace at2 := at2.mono (t8.trans t13)
  replace at3 := at3.mono (t8.trans t13)
  have t0 : Same H H13 := t8.trans t13
  clear s9 s10 s11 s12 s13 hlm hfa hfb hfc t8 t13
  fold_lay
  rename_i ti jti
  refine made_loop (made := [.ref a1, .ref a2, .ref a3, .ref a4, .ref a5, .ref a6, .ref a7, .ref a8]) (fields := ([.ref f1, .ref f2, .ref f3] ++ [.ref f4, .ref f5, .ref f6, .ref f7] ++ [.ref f8])) (dues := [.ref u1, .ref u2, .ref u3, .ref u4, .ref u5, .ref u6, .ref u7, .ref u8]) (upd_keep jti g1) (upd_keep jti g2) (upd_keep jti hdu) upd_same (fun i hi => ?_) rfl (fun H' s' => k _ (t0.trans ((same_new jti).trans s')))
  have hi : i = 0 ∨ i = 1 ∨ i = 2 ∨ i = 3 ∨ i = 4 ∨ i = 5 ∨ i = 6 ∨ i = 7 := by omega
  have sT := same_new (o := .lst (titles.map V.str)) jti
  rcases hi with rfl | rfl | rfl | rfl | rfl | rfl | rfl | rfl
  · exact ⟨a1, f1, u1, "BadValue", [v1], [d1], rfl, rfl, rfl, rfl, (E1.mono sT).item AK.bk.bv.nt AK.bk.kd (by decide +kernel) (sT _ _ hf1) (sT _ _ hu1), .cons (at1.mono sT) (.nil), by simp only [Dt.depL]; omega, by simp [Dt.okL, ok1.2], by simp⟩
  · exact ⟨a2, f2, u2, "Broken", [v1, v2, v3], [d1, d2, d3], rfl, rfl, rfl, rfl, (E2.mono sT).item (AK.x2.nf "told" (by simp)) AK.k2 (by decide +kernel) (sT _ _ hf2) (sT _ _ hu2), .cons (at1.mono sT) (.cons (at2.mono sT) (.cons (at3.mono sT) (.nil))), by simp only [Dt.depL]; omega, by simp [Dt.okL, ok1.2, ok2.2, ok3.2], by simp⟩
  · exact ⟨a3, f3, u3, "Unknown", [v2], [d2], rfl, rfl, rfl, rfl, (E3.mono sT).item (AK.x3.nf "told" (by simp)) AK.k3 (by decide +kernel) (sT _ _ hf3) (sT _ _ hu3), .cons (at2.mono sT) (.nil), by simp only [Dt.depL]; omega, by simp [Dt.okL, ok2.2], by simp⟩
  · exact ⟨a4, f4, u4, "NotHeld", [v2, v1], [d2, d1], rfl, rfl, rfl, rfl, (E4.mono sT).item (AK.x4.nf "told" (by simp)) AK.k4 (by decide +kernel) (sT _ _ hf4) (sT _ _ hu4), .cons (at2.mono sT) (.cons (at1.mono sT) (.nil)), by simp only [Dt.depL]; omega, by simp [Dt.okL, ok1.2, ok2.2], by simp⟩
  · exact ⟨a5, f5, u5, "Fault", [v1, v3], [d1, d3], rfl, rfl, rfl, rfl, (E5.mono sT).item (AK.x5.nf "told" (by simp)) AK.k5 (by decide +kernel) (sT _ _ hf5) (sT _ _ hu5), .cons (at1.mono sT) (.cons (at3.mono sT) (.nil)), by simp only [Dt.depL]; omega, by simp [Dt.okL, ok1.2, ok3.2], by simp⟩
  · exact ⟨a6, f6, u6, "NoRoom", [v3], [d3], rfl, rfl, rfl, rfl, (E6.mono sT).item (AK.x6.nf "told" (by simp)) AK.k6 (by decide +kernel) (sT _ _ hf6) (sT _ _ hu6), .cons (at3.mono sT) (.nil), by simp only [Dt.depL]; omega, by simp [Dt.okL, ok3.2], by simp⟩
  · exact ⟨a7, f7, u7, "Cut", [v3, v2], [d3, d2], rfl, rfl, rfl, rfl, (E7.mono sT).item (AK.x7.nf "told" (by simp)) AK.k7 (by decide +kernel) (sT _ _ hf7) (sT _ _ hu7), .cons (at3.mono sT) (.cons (at2.mono sT) (.nil)), by simp only [Dt.depL]; omega, by simp [Dt.okL, ok2.2, ok3.2], by simp⟩
  · exact ⟨a8, f8, u8, "BadLine", [v2, v3], [d2, d3], rfl, rfl, rfl, rfl, (E8.mono sT).item (AK.x8.nf "told" (by simp)) AK.k8 (by decide +kernel) (sT _ _ hf8) (sT _ _ hu8), .cons (at2.mono sT) (.cons (at3.mono sT) (.nil)), by simp only [Dt.depL]; omega, by simp [Dt.okL, ok2.2, ok3.2], by simp⟩
/-! ## K00e -/
/-! ### the law -/
theorem Ats.app {H : Hp} : ∀ {vs ws : List V} {ds es : List Dt}, Ats H vs ds → Ats H ws es → Ats H (vs ++ ws) (ds ++ es)
  | _, _, _, _, .nil, h => h
  | _, _, _, _, .cons h1 hs, h => .cons h1 (Ats.app hs h)
theorem depL_app : ∀ {l r : List Dt}, Dt.depL (l ++ r) = max (Dt.depL l) (Dt.depL r)
  | [], r => by simp [Dt.depL]
  | x :: l, r => by
    rw [List.cons_append, Dt.depL, depL_app, Dt.depL]
    omega
theorem okL_app : ∀ {l r : List Dt}, Dt.okL (l ++ r) = (Dt.okL l && Dt.okL r)
  | [], r => by simp [Dt.okL]
  | x :: l, r => by rw [List.cons_append, Dt.okL, okL_app, Dt.okL, Bool.and_assoc]
def sp_law00 (K : PySem.W.Frag) (c : Cl) : Sp := fun vs H Q _ => ∃ (a : Addr) (ns : List Int), vs = [.ref a] ∧ SqL K H a (ns.map V.int) ∧ ns.length ≤ 63 ∧ AllK K c ∧ ∀ H', Q (.bl true) H'
def N_l_law : List Str := ["_law_script", "_law_draws_here", "_law_number_here", "_law_alignment_here", "_law_count", "_law_one", "_law_great", "_law_values", "_law_k"]
def t_l_law (K : PySem.W.Frag) (c : Cl) : TS := (tSeq (tAsg (tCall (sp_draws K) [] E0 (tCons (tVar 0) tNil)) (gName 1))
  (tSeq (tAsg (tCall sp_number [] E0 (tCons (tVar 1) (tCons (tC (.int 0)) (tCons (tOp oPow (tC (.int 10)) (tC (.int 9))) tNil)))) (gName 2))
  (tSeq (tAsg (tCall sp_alignment [] E0 (tCons (tVar 1) (tCons (tC (.int 30)) tNil))) (gName 3))
  (tSeq (tIfS (tTest (tOp rEq (tCall sp_take [] E0 (tCons (tVar 1) (tCons (tC (.int 2)) tNil))) (tC (.int 1)))) (tSeq (tAsg (tOp oSub (tOp oAdd (tOp oMul (tVar 3) (tCall sp_take [] E0 (tCons (tVar 1) (tCons (tOp oAdd (tOp oDiv (tOp oPow (tC (.int 10)) (tC (.int 9))) (tVar 3)) (tC (.int 1))) tNil)))) (tCall sp_take [] E0 (tCons (tVar 1) (tCons (tC (.int 3)) tNil)))) (tC (.int 1))) (gName 2))
  (tAsg (tCB rMax2 (tCons (tC (.int 0)) (tCons (tCB rMin2 (tCons (tOp oPow (tC (.int 10)) (tC (.int 9))) (tCons (tVar 2) tNil))) tNil))) (gName 2))) tNext)
  (tSeq (tAsg (tCall sp_number [] E0 (tCons (tVar 1) (tCons (tC (.int 1)) (tCons (tOp oPow (tC (.int 10)) (tC (.int 9))) tNil)))) (gName 4))
  (tSeq (tIfS (tNot (tB (tCall (sp_aligned_right K c) [] E0 (tCons (tVar 2) (tCons (tVar 3) tNil))))) (tRet (tC (.bl false))) tNext)
  (tSeq (tFor (iList K (tLst (tCons (tVar 4) (tCons (tCB rMax2 (tCons (tC (.int 1)) (tCons (tVar 2) tNil))) (tCons (tC (.int 1)) (tCons (tOp oPow (tC (.int 10)) (tC (.int 9))) tNil)))))) (gName 5) (tIfS (tOr (tNot (tB (tCall (sp_order_right K c) [] E0 (tCons (tVar 5) tNil)))) (tNot (tB (tCall (sp_factor_right K c) [] E0 (tCons (tVar 5) tNil))))) (tRet (tC (.bl false))) tNext))
  (tSeq (tAsg (tOp oAdd (tCall sp_great_power [] E0 (tCons (tVar 1) tNil)) (tOp oDiv (tCall sp_take [] E0 (tCons (tVar 1) (tCons (tC (.int 3)) tNil))) (tC (.int 2)))) (gName 6))
  (tSeq (tAsg (tLst (tCons (tVar 2) (tCons (tVar 3) (tCons (tUn oNeg (tVar 3)) (tCons (tVar 6) (tCons (tOp oSub (tVar 6) (tC (.int 1))) (tCons (tUn oNeg (tVar 6)) tNil))))))) (gName 7))
  (tSeq (tIfS (tNot (tB (tCall (sp_judged00 K) [] E0 (tCons (tOp rCat (tVar 7) (tLc (iRng1 (tCons (tC (.int 4)) tNil)) (gName 8) tYes (tCall (sp_plain 3) [] E0 (tCons (tVar 1) (tCons (tC (.int 2)) tNil))) [8])) tNil)))) (tRet (tC (.bl false))) tNext)
  (tSeq (tIfS (tOr (tNot (tB (tCall (sp_refused00 K c) [] E0 (tCons (tVar 1) (tCons (tVar 2) (tCons (tVar 3) tNil)))))) (tNot (tB (tCall sp_numbers_right [] E0 tNil)))) (tRet (tC (.bl false))) tNext)
  (tSeq (tIfS (tNot (tB (tCall (sp_made_right K c) [] E0 (tCons (tCall (sp_plain 3) [] E0 (tCons (tVar 1) (tCons (tC (.int 1)) tNil))) (tCons (tVar 2) (tCons (tCall (sp_plain 3) [] E0 (tCons (tVar 1) (tCons (tC (.int 1)) tNil))) tNil)))))) (tRet (tC (.bl false))) tNext)
  (tRet (tAndV (tCall (sp_aligned_right K c) [] E0 (tCons (tVar 2) (tCons (tVar 3) tNil))) (tAndV (tCall (sp_aligned_right K c) [] E0 (tCons (tOp oPow (tC (.int 10)) (tC (.int 9))) (tCons (tVar 3) tNil))) (tCall (sp_order_right K c) [] E0 (tCons (tVar 4) tNil)))))))))))))))))
theorem pure_law00 {K : PySem.W.Frag} {c : Cl} {vs : List V} {H : Hp} {Q : VK} {E : XK} (h : sp_law00 K c vs H Q E) : t_l_law K c { nx := fun _ H' => Q .non H', rt := Q } (start N_l_law vs) H := by
  obtain ⟨x, ns, rfl, hx, hl, AK, k⟩ := h
  have R := AK.bk
  have e9 := ten9
  unfold t_l_law
  fold_lay
  refine ⟨x, ns, rfl, hx, by omega, fun d s H1 hD1 k1 _ _ => ?_⟩
  fold_lay
  refine c_number hD1 (by decide) (by decide) fun n H2 n0 n1 hD2 s2 => ?_
  fold_lay
  refine c_alignment hD2 (by omega) (by omega) fun ka H3 ka1 hD3 s3 => ?_
  have m1 : ∃ j : Nat, (2 : Int) ^ ka = 2 ^ j := ⟨ka, rfl⟩
  have mp := two_pow_pos ka
  have m2 : (2 : Int) ^ ka ≤ 1073741824 := by
    have h1 : (2 : Nat) ^ ka ≤ 2 ^ 30 := Nat.pow_le_pow_right (by decide) (by omega)
    have h2 : (2 : Nat) ^ 30 = 1073741824 := by decide
    rw [← p2cast]
    omega
  generalize (2 : Int) ^ ka = m at *
  fold_lay
  refine i_cut (fun σ' H' => ∃ n, 0 ≤ n ∧ n ≤ 1000000000 ∧ Dr d s H' ∧ σ' = [some (.ref x), some (.ref d), some (.int n), some (.int m), none, none, none, none, none]) ?_ (fun nx key => ?_)
  rotate_left
  · fold_lay
    refine c_take hD3 (by omega) fun t H4 _ _ hD4 s4 => ?_
    fold_lay
    refine i_ifd (fun _ => ?_) (fun _ => ?_)
    · fold_lay
      have q0 : 0 ≤ (10 : Int) ^ (9 : Int).toNat / m := Int.ediv_nonneg (by omega) (by omega)
      have q1 : (10 : Int) ^ (9 : Int).toNat / m ≤ (10 : Int) ^ (9 : Int).toNat := Int.ediv_le_self _ (by omega)
      refine c_take hD4 (by omega) fun y H5 y0 y1 hD5 s5 => ?_
      fold_lay
      refine c_take hD5 (by omega) fun z H6 z0 z1 hD6 s6 => ?_
      fold_lay
      generalize m * y + z - 1 = w
      refine key _ _ ⟨_, ?_, ?_, hD6, rfl⟩
      · split <;> split <;> omega
      · split <;> split <;> omega
    · fold_lay
      exact key _ _ ⟨n, n0, by omega, hD4, rfl⟩
  clear n0 n1 hD1 hD2 hD3 s2 s3 k1
  rintro σ' H4 ⟨n, n0, n1, hD4, rfl⟩
  fold_lay
  refine c_number hD4 (by decide) (by decide) fun ct H5 c0 c1 hD5 s5 => ?_
  fold_lay; fold_depth
  refine c_aligned_right n0 n1 m1 m2 R fun H6 s6 => ?_
  have hD6 := hD5.same s6
  fold_lay; fold_depth
  rename_i l1 j1
  have ct1 : ct ≤ 1000000000 := by omega
  refine f_lst (sqL upd_same) (l_lst (xs := [.int ct, .int (if n > 1 then n else 1), .int 1, .int (10 ^ (9 : Int).toNat)]) (fun i σ' H' => Same (upd H6 l1 (.lst [.int ct, .int (if n > 1 then n else 1), .int 1, .int (10 ^ (9 : Int).toNat)])) H' ∧ ∃ y, σ' = [some (.ref x), some (.ref d), some (.int n), some (.int m), some (.int ct), y, none, none, none]) ⟨Same.refl _, _, rfl⟩ (fun i σ' H' _ h => sqL (h.1 _ _ upd_same)) ?_ ?_)
  · rintro i v σ' H7 hv ⟨s7, y, rfl⟩
    obtain ⟨z, rfl, z1, z2⟩ : ∃ z, v = .int z ∧ 1 ≤ z ∧ z ≤ 1000000000 := by
      have := List.mem_of_getElem? hv
      simp only [List.mem_cons, List.not_mem_nil, or_false] at this
      rcases this with rfl | rfl | rfl | rfl
      · exact ⟨_, rfl, c0, ct1⟩
      · exact ⟨_, rfl, by split <;> omega, by split <;> omega⟩
      · exact ⟨_, rfl, by omega, by omega⟩
      · exact ⟨_, rfl, by omega, by omega⟩
    fold_lay
    refine c_order_right z1 z2 R fun H8 s8 => ?_
    fold_lay
    refine c_factor_right z1 z2 R fun H9 s9 => ?_
    fold_lay
    exact ⟨by mem_news, _, rfl⟩
  · rintro σ' H7 ⟨s7, y, rfl⟩
    have hD7 : Dr d s H7 := hD6.same (by mem_news)
    clear s5 s6 s7 hD4 hD5 hD6 j1
    fold_lay
    refine ⟨d, s, rfl, hD7, fun g H8 g1 g2 hD8 s8 => ?_⟩
    fold_lay
    refine c_take hD8 (by omega) fun w H9 w0 w1 hD9 s9 => ?_
    fold_lay
    rename_i l2 j2
    have hw : 0 ≤ w / 2 ∧ w / 2 ≤ 1 := by omega
    generalize w / 2 = w2 at *
    have big0 := big_ten
    have nl2 : l2 ≠ s := hD9.ne j2
    have hD10 := hD9.same (same_new (o := .lst [.int n, .int m, .int (-m), .int (g + w2), .int (g + w2 - 1), .int (-(g + w2))]) j2)
    have hl2 : upd H9 l2 (.lst [.int n, .int m, .int (-m), .int (g + w2), .int (g + w2 - 1), .int (-(g + w2))]) l2 = some (.lst [.int n, .int m, .int (-m), .int (g + w2), .int (g + w2 - 1), .int (-(g + w2))]) := upd_same
    have sd : ∀ z ∈ [n, m, -m, g + w2, g + w2 - 1, -(g + w2)], z ≤ big := by
      intro z hz
      simp only [List.mem_cons, List.not_mem_nil, or_false] at hz
      rcases hz with rfl | rfl | rfl | rfl | rfl | rfl <;> omega
    generalize upd H9 l2 (.lst [.int n, .int m, .int (-m), .int (g + w2), .int (g + w2 - 1), .int (-(g + w2))]) = G at *
    clear j2 s8 s9 hD7 hD8 hD9
    fold_depth
    refine c_rng1 (by omega) (by omega) (m_rng (fun D i H' => Dr d s H' ∧ Same (hid s G) (hid s H') ∧ G D = none ∧ ∃ ys ds, H' D = some (.lst ys) ∧ Ats (hid D (nw G H')) ys ds ∧ Dt.depL ds ≤ 6 ∧ Dt.okL ds = true ∧ (∀ z ∈ ds, z.sm) ∧ ds.length = i) ?_ ?_ ?_)
    · exact fun D hD0 => ⟨by leaf_len, by mem_news, hD0, [], [], upd_same, .nil, Nat.zero_le _, rfl, by simp, rfl⟩
    · rintro D i H' hi ⟨hD', s', hD0, ys, ds, hys, hat, h1, h2, h4, h3⟩
      fold_lay
      refine ⟨rfl, ?_⟩
      fold_lay
      refine c_plain (n := 2) (m := 2) (by omega) hD' fun v dt H4 hv v1 v2 v3 hD4 s4 => ?_
      fold_lay
      have nD : D ≠ s := hD10.ne hD0
      have hys4 : H4 D = some (.lst ys) := by kct_strs
      have yl := hat.length
      refine ⟨_, hys4, szl (by omega), hD10.upd hD0 (by mem_news) hD4, hid_step hD0 (by mem_news), hD0, ys ++ [v], ds ++ [dt], upd_same, (hat.mono (row_old hD10 s4)).snoc (hv.mono (row_new hD' s' hys)), ?_, ?_, ?_, ?_⟩
      · rw [depL_snoc]
        omega
      · rw [okL_snoc, h2, v2]
        rfl
      · intro z hz
        rcases List.mem_append.mp hz with hz | hz
        · exact h4 z hz
        · rw [List.mem_singleton.mp hz]
          exact v3
      · rw [List.length_append, h3]
        rfl
    · rintro D H10 ⟨hD11, s10, hD0, ys, ds, hys, hat, h1, h2, h4, h3⟩
      have hat : Ats H10 ys ds := (hat.mono hid_nw).mono nw_same
      have yl := hat.length
      refine i_cat (hget s10 nl2 hl2) hys (by show 6 + ys.length ≤ 100000; have : ds.length = 4 := h3; omega) fun c5 j8 => ?_
      fold_lay
      refine ⟨c5, _, [.int n, .int m, .int (-m), .int (g + w2), .int (g + w2 - 1), .int (-(g + w2))] ++ ds, rfl, upd_same, Ats.app (.cons (.int _) (.cons (.int _) (.cons (.int _) (.cons (.int _) (.cons (.int _) (.cons (.int _) .nil)))))) (hat.mono (same_new j8)), ?_, ?_, ?_, fun H11 s11 => ?_⟩
      · rw [depL_app]
        simp only [Dt.depL, Dt.dep]
        omega
      · rw [okL_app, h2]
        rfl
      · intro z hz
        rcases List.mem_append.mp hz with hz | hz
        · simp only [List.mem_cons, List.not_mem_nil, or_false] at hz
          rcases hz with rfl | rfl | rfl | rfl | rfl | rfl
          · exact sd _ (by simp)
          · exact sd _ (by simp)
          · exact sd _ (by simp)
          · exact sd _ (by simp)
          · exact sd _ (by simp)
          · exact sd _ (by simp)
        · exact h4 z hz
      have hD12 : Dr d s H11 := hD11.same (by mem_news)
      clear s10 s11 j8 hat hys hD11
      fold_lay; fold_depth
      refine ⟨d, s, n, m, rfl, hD12, n0, n1, m1, m2, R, fun H12 hD13 s12 => ?_⟩
      fold_lay
      refine ⟨rfl, fun H13 s13 => ?_⟩
      have hD14 := hD13.same s13
      fold_lay; fold_depth
      refine c_plain (n := 2) (m := 1) (by omega) hD14 fun v dt H14 hv v1 v2 v3 hD15 s14 => ?_
      fold_lay
      refine c_plain (n := 2) (m := 1) (by omega) hD15 fun v' dt' H15 hv' v1' v2' v3' hD16 s15 => ?_
      fold_lay
      refine ⟨v, .int n, v', dt, .int n, dt', rfl, hv.mono (Same.trans (nw_hidw hD14 (by mem_news)) hid_same), .int n, hv'.mono nw_same, ⟨by omega, v2⟩, ⟨by simp [Dt.dep], rfl⟩, ⟨by omega, v2'⟩, AK, fun H16 s16 => ?_⟩
      fold_lay
      refine c_aligned_right n0 n1 m1 m2 R fun H17 s17 => ?_
      fold_lay
      refine c_aligned_right (by omega) (by omega) m1 m2 R fun H18 s18 => ?_
      fold_lay
      exact c_order_right c0 ct1 R fun H19 _ => k H19
end Gv
namespace K00
open PySem L2 Gv PySem.Spec PyProof.Rows
def top (i : Nat) : Stmt := PySem.Challenge.pw_allgivenback_k00_align.main.body.getD i (.Pass ⟨0, 0, 0, 0⟩)
abbrev s_c_BadValue_init : Stmt := inClass (top 15) 0
theorem sc_c_BadValue_init : FnScope N_c_BadValue_init ["self", "parameter"] (defScope s_c_BadValue_init) := ⟨rfl, rfl, rfl, by decide +kernel, rfl, by decide +kernel, by decide +kernel⟩
abbrev s_c_Broken_init : Stmt := inClass (top 16) 0
theorem sc_c_Broken_init : FnScope N_c_Broken_init ["self", "place", "found", "due"] (defScope s_c_Broken_init) := ⟨rfl, rfl, rfl, by decide +kernel, rfl, by decide +kernel, by decide +kernel⟩
abbrev s_c_Unknown_init : Stmt := inClass (top 17) 0
theorem sc_c_Unknown_init : FnScope N_c_Unknown_init ["self", "parameter"] (defScope s_c_Unknown_init) := ⟨rfl, rfl, rfl, by decide +kernel, rfl, by decide +kernel, by decide +kernel⟩
abbrev s_c_NotHeld_init : Stmt := inClass (top 18) 0
theorem sc_c_NotHeld_init : FnScope N_c_NotHeld_init ["self", "place", "found"] (defScope s_c_NotHeld_init) := ⟨rfl, rfl, rfl, by decide +kernel, rfl, by decide +kernel, by decide +kernel⟩
abbrev s_c_Fault_init : Stmt := inClass (top 19) 0
theorem sc_c_Fault_init : FnScope N_c_Fault_init ["self", "kind", "place"] (defScope s_c_Fault_init) := ⟨rfl, rfl, rfl, by decide +kernel, rfl, by decide +kernel, by decide +kernel⟩
abbrev s_c_NoRoom_init : Stmt := inClass (top 20) 0
theorem sc_c_NoRoom_init : FnScope N_c_NoRoom_init ["self", "paper"] (defScope s_c_NoRoom_init) := ⟨rfl, rfl, rfl, by decide +kernel, rfl, by decide +kernel, by decide +kernel⟩
abbrev s_c_Cut_init : Stmt := inClass (top 21) 0
theorem sc_c_Cut_init : FnScope N_c_Cut_init ["self", "needed", "left"] (defScope s_c_Cut_init) := ⟨rfl, rfl, rfl, by decide +kernel, rfl, by decide +kernel, by decide +kernel⟩
abbrev s_c_BadLine_init : Stmt := inClass (top 22) 0
theorem sc_c_BadLine_init : FnScope N_c_BadLine_init ["self", "line", "column"] (defScope s_c_BadLine_init) := ⟨rfl, rfl, rfl, by decide +kernel, rfl, by decide +kernel, by decide +kernel⟩
abbrev s_p_is_whole : Stmt := top 23
theorem sc_p_is_whole : FnScope N_p_is_whole ["value"] (defScope s_p_is_whole) := ⟨rfl, rfl, rfl, by decide +kernel, rfl, by decide +kernel, by decide +kernel⟩
abbrev s_p_whole_between : Stmt := top 24
theorem sc_p_whole_between : FnScope N_p_whole_between ["value", "low", "high"] (defScope s_p_whole_between) := ⟨rfl, rfl, rfl, by decide +kernel, rfl, by decide +kernel, by decide +kernel⟩
abbrev s_p_is_power : Stmt := top 28
theorem sc_p_is_power : FnScope N_p_is_power ["value"] (defScope s_p_is_power) := ⟨rfl, rfl, rfl, by decide +kernel, rfl, by decide +kernel, by decide +kernel⟩
abbrev s_p_is_align : Stmt := top 29
theorem sc_p_is_align : FnScope N_p_is_align ["value", "most"] (defScope s_p_is_align) := ⟨rfl, rfl, rfl, by decide +kernel, rfl, by decide +kernel, by decide +kernel⟩
abbrev s_p_align_up : Stmt := top 30
theorem sc_p_align_up : FnScope N_p_align_up00 ["number", "align"] (defScope s_p_align_up) := ⟨rfl, rfl, rfl, by decide +kernel, rfl, by decide +kernel, by decide +kernel⟩
abbrev s_p_align_down : Stmt := top 31
theorem sc_p_align_down : FnScope N_p_align_down ["number", "align"] (defScope s_p_align_down) := ⟨rfl, rfl, rfl, by decide +kernel, rfl, by decide +kernel, by decide +kernel⟩
abbrev s_p_order_of : Stmt := top 32
theorem sc_p_order_of : FnScope N_p_order_of ["count"] (defScope s_p_order_of) := ⟨rfl, rfl, rfl, by decide +kernel, rfl, by decide +kernel, by decide +kernel⟩
abbrev s_p_power_in : Stmt := top 33
theorem sc_p_power_in : FnScope N_p_power_in00 ["number"] (defScope s_p_power_in) := ⟨rfl, rfl, rfl, by decide +kernel, rfl, by decide +kernel, by decide +kernel⟩
abbrev s_l_draws : Stmt := top 35
theorem sc_l_draws : FnScope N_l_draws ["_law_script"] (defScope s_l_draws) := ⟨rfl, rfl, rfl, by decide +kernel, rfl, by decide +kernel, by decide +kernel⟩
abbrev s_l_next_cell : Stmt := top 36
theorem sc_l_next_cell : FnScope N_l_next_cell ["_law_draws_here"] (defScope s_l_next_cell) := ⟨rfl, rfl, rfl, by decide +kernel, rfl, by decide +kernel, by decide +kernel⟩
abbrev s_l_mixed : Stmt := top 37
theorem sc_l_mixed : FnScope N_l_mixed ["_law_seed", "_law_turn", "_law_many"] (defScope s_l_mixed) := ⟨rfl, rfl, rfl, by decide +kernel, rfl, by decide +kernel, by decide +kernel⟩
abbrev s_l_take : Stmt := top 38
theorem sc_l_take : FnScope N_l_take ["_law_draws_here", "_law_many"] (defScope s_l_take) := ⟨rfl, rfl, rfl, by decide +kernel, rfl, by decide +kernel, by decide +kernel⟩
abbrev s_l_among : Stmt := top 39
theorem sc_l_among : FnScope N_l_among ["_law_draws_here", "_law_row"] (defScope s_l_among) := ⟨rfl, rfl, rfl, by decide +kernel, rfl, by decide +kernel, by decide +kernel⟩
abbrev s_l_between : Stmt := top 40
theorem sc_l_between : FnScope N_l_between ["_law_draws_here", "_law_low", "_law_high"] (defScope s_l_between) := ⟨rfl, rfl, rfl, by decide +kernel, rfl, by decide +kernel, by decide +kernel⟩
abbrev s_l_number : Stmt := top 41
theorem sc_l_number : FnScope N_l_number ["_law_draws_here", "_law_low", "_law_high"] (defScope s_l_number) := ⟨rfl, rfl, rfl, by decide +kernel, rfl, by decide +kernel, by decide +kernel⟩
abbrev s_l_alignment : Stmt := top 42
theorem sc_l_alignment : FnScope N_l_alignment ["_law_draws_here", "_law_most"] (defScope s_l_alignment) := ⟨rfl, rfl, rfl, by decide +kernel, rfl, by decide +kernel, by decide +kernel⟩
abbrev s_l_power : Stmt := top 43
theorem sc_l_power : FnScope N_l_power ["_law_number_here"] (defScope s_l_power) := ⟨rfl, rfl, rfl, by decide +kernel, rfl, by decide +kernel, by decide +kernel⟩
abbrev s_l_long : Stmt := top 44
theorem sc_l_long : FnScope N_l_long [] (defScope s_l_long) := ⟨rfl, rfl, rfl, by decide +kernel, rfl, by decide +kernel, by decide +kernel⟩
abbrev s_l_integer : Stmt := top 45
theorem sc_l_integer : FnScope N_l_integer ["_law_draws_here"] (defScope s_l_integer) := ⟨rfl, rfl, rfl, by decide +kernel, rfl, by decide +kernel, by decide +kernel⟩
abbrev s_l_chars : Stmt := top 46
theorem sc_l_chars : FnScope N_l_chars [] (defScope s_l_chars) := ⟨rfl, rfl, rfl, by decide +kernel, rfl, by decide +kernel, by decide +kernel⟩
abbrev s_l_text : Stmt := top 47
theorem sc_l_text : FnScope N_l_text ["_law_draws_here", "_law_most"] (defScope s_l_text) := ⟨rfl, rfl, rfl, by decide +kernel, rfl, by decide +kernel, by decide +kernel⟩
abbrev s_l_plain : Stmt := top 48
theorem sc_l_plain : FnScope N_l_plain ["_law_draws_here", "_law_deep"] (defScope s_l_plain) := ⟨rfl, rfl, rfl, by decide +kernel, rfl, by decide +kernel, by decide +kernel⟩
abbrev s_l_not_integer : Stmt := top 49
theorem sc_l_not_integer : FnScope N_l_not_integer ["_law_draws_here"] (defScope s_l_not_integer) := ⟨rfl, rfl, rfl, by decide +kernel, rfl, by decide +kernel, by decide +kernel⟩
abbrev s_l_not_within : Stmt := top 50
theorem sc_l_not_within : FnScope N_l_not_within ["_law_draws_here", "_law_low", "_law_high"] (defScope s_l_not_within) := ⟨rfl, rfl, rfl, by decide +kernel, rfl, by decide +kernel, by decide +kernel⟩
abbrev s_l_not_alignment : Stmt := top 51
theorem sc_l_not_alignment : FnScope N_l_not_alignment ["_law_draws_here", "_law_most"] (defScope s_l_not_alignment) := ⟨rfl, rfl, rfl, by decide +kernel, rfl, by decide +kernel, by decide +kernel⟩
abbrev s_l_is_int : Stmt := top 52
theorem sc_l_is_int : FnScope N_l_is_int ["_law_value"] (defScope s_l_is_int) := ⟨rfl, rfl, rfl, by decide +kernel, rfl, by decide +kernel, by decide +kernel⟩
abbrev s_l_is_within : Stmt := top 53
theorem sc_l_is_within : FnScope N_l_is_within ["_law_value", "_law_low", "_law_high"] (defScope s_l_is_within) := ⟨rfl, rfl, rfl, by decide +kernel, rfl, by decide +kernel, by decide +kernel⟩
abbrev s_l_same : Stmt := top 54
theorem sc_l_same : FnScope N_l_same ["_law_actual", "_law_expected"] (defScope s_l_same) := ⟨rfl, rfl, rfl, by decide +kernel, rfl, by decide +kernel, by decide +kernel⟩
abbrev s_l_copy : Stmt := top 55
theorem sc_l_copy : FnScope N_l_copy ["_law_value"] (defScope s_l_copy) := ⟨rfl, rfl, rfl, by decide +kernel, rfl, by decide +kernel, by decide +kernel⟩
abbrev s_l_kinds : Stmt := top 56
theorem sc_l_kinds : FnScope N_l_kinds ["_law_error"] (defScope s_l_kinds) := ⟨rfl, rfl, rfl, by decide +kernel, rfl, by decide +kernel, by decide +kernel⟩
abbrev s_l_refused : Stmt := top 57
theorem sc_l_refused : FnScope N_l_refused ["_law_title", "_law_fields"] (defScope s_l_refused) := ⟨rfl, rfl, rfl, by decide +kernel, rfl, by decide +kernel, by decide +kernel⟩
abbrev s_l_made_right : Stmt := top 58
theorem sc_l_made_right : FnScope N_l_made_right ["_law_one", "_law_two", "_law_three"] (defScope s_l_made_right) := ⟨rfl, rfl, rfl, by decide +kernel, rfl, by decide +kernel, by decide +kernel⟩
abbrev s_l_numbers_right : Stmt := top 59
theorem sc_l_numbers_right : FnScope N_l_numbers_right [] (defScope s_l_numbers_right) := ⟨rfl, rfl, rfl, by decide +kernel, rfl, by decide +kernel, by decide +kernel⟩
abbrev s_l_asked : Stmt := top 60
theorem sc_l_asked : FnScope N_l_asked ["_law_title", "_law_first", "_law_second"] (defScope s_l_asked) := ⟨rfl, rfl, rfl, by decide +kernel, rfl, by decide +kernel, by decide +kernel⟩
abbrev s_l_aligned_right : Stmt := top 61
theorem sc_l_aligned_right : FnScope N_l_aligned_right ["_law_number_here", "_law_alignment_here"] (defScope s_l_aligned_right) := ⟨rfl, rfl, rfl, by decide +kernel, rfl, by decide +kernel, by decide +kernel⟩
abbrev s_l_order_right : Stmt := top 62
theorem sc_l_order_right : FnScope N_l_order_right ["_law_count"] (defScope s_l_order_right) := ⟨rfl, rfl, rfl, by decide +kernel, rfl, by decide +kernel, by decide +kernel⟩
abbrev s_l_factor_right : Stmt := top 63
theorem sc_l_factor_right : FnScope N_l_factor_right ["_law_number_here"] (defScope s_l_factor_right) := ⟨rfl, rfl, rfl, by decide +kernel, rfl, by decide +kernel, by decide +kernel⟩
abbrev s_l_great_power : Stmt := top 64
theorem sc_l_great_power : FnScope N_l_great_power ["_law_draws_here"] (defScope s_l_great_power) := ⟨rfl, rfl, rfl, by decide +kernel, rfl, by decide +kernel, by decide +kernel⟩
abbrev s_l_is_power_due : Stmt := top 65
theorem sc_l_is_power_due : FnScope N_l_is_power_due ["_law_value"] (defScope s_l_is_power_due) := ⟨rfl, rfl, rfl, by decide +kernel, rfl, by decide +kernel, by decide +kernel⟩
abbrev s_l_judged_right : Stmt := top 66
theorem sc_l_judged_right : FnScope N_l_judged_right ["_law_values"] (defScope s_l_judged_right) := ⟨rfl, rfl, rfl, by decide +kernel, rfl, by decide +kernel, by decide +kernel⟩
abbrev s_l_refused_right : Stmt := top 67
theorem sc_l_refused_right : FnScope N_l_refused_right ["_law_draws_here", "_law_number_here", "_law_alignment_here"] (defScope s_l_refused_right) := ⟨rfl, rfl, rfl, by decide +kernel, rfl, by decide +kernel, by decide +kernel⟩
abbrev s_l_law : Stmt := top 68
theorem sc_l_law : FnScope N_l_law ["_law_script"] (defScope s_l_law) := ⟨rfl, rfl, rfl, by decide +kernel, rfl, by decide +kernel, by decide +kernel⟩
/-- where the defs and constants stand -/
structure Ad where
  c : Cl
  c_BadValue_init : Addr
  c_BadValue_init_d : FuncData
  c_Broken_init : Addr
  c_Broken_init_d : FuncData
  c_Unknown_init : Addr
  c_Unknown_init_d : FuncData
  c_NotHeld_init : Addr
  c_NotHeld_init_d : FuncData
  c_Fault_init : Addr
  c_Fault_init_d : FuncData
  c_NoRoom_init : Addr
  c_NoRoom_init_d : FuncData
  c_Cut_init : Addr
  c_Cut_init_d : FuncData
  c_BadLine_init : Addr
  c_BadLine_init_d : FuncData
  p_is_whole : Addr
  p_is_whole_d : FuncData
  p_whole_between : Addr
  p_whole_between_d : FuncData
  p_is_power : Addr
  p_is_power_d : FuncData
  p_is_align : Addr
  p_is_align_d : FuncData
  p_align_up : Addr
  p_align_up_d : FuncData
  p_align_down : Addr
  p_align_down_d : FuncData
  p_order_of : Addr
  p_order_of_d : FuncData
  p_power_in : Addr
  p_power_in_d : FuncData
  l_draws : Addr
  l_draws_d : FuncData
  l_next_cell : Addr
  l_next_cell_d : FuncData
  l_mixed : Addr
  l_mixed_d : FuncData
  l_take : Addr
  l_take_d : FuncData
  l_among : Addr
  l_among_d : FuncData
  l_between : Addr
  l_between_d : FuncData
  l_number : Addr
  l_number_d : FuncData
  l_alignment : Addr
  l_alignment_d : FuncData
  l_power : Addr
  l_power_d : FuncData
  l_long : Addr
  l_long_d : FuncData
  l_integer : Addr
  l_integer_d : FuncData
  l_chars : Addr
  l_chars_d : FuncData
  l_text : Addr
  l_text_d : FuncData
  l_plain : Addr
  l_plain_d : FuncData
  l_not_integer : Addr
  l_not_integer_d : FuncData
  l_not_within : Addr
  l_not_within_d : FuncData
  l_not_alignment : Addr
  l_not_alignment_d : FuncData
  l_is_int : Addr
  l_is_int_d : FuncData
  l_is_within : Addr
  l_is_within_d : FuncData
  l_same : Addr
  l_same_d : FuncData
  l_copy : Addr
  l_copy_d : FuncData
  l_kinds : Addr
  l_kinds_d : FuncData
  l_refused : Addr
  l_refused_d : FuncData
  l_made_right : Addr
  l_made_right_d : FuncData
  l_numbers_right : Addr
  l_numbers_right_d : FuncData
  l_asked : Addr
  l_asked_d : FuncData
  l_aligned_right : Addr
  l_aligned_right_d : FuncData
  l_order_right : Addr
  l_order_right_d : FuncData
  l_factor_right : Addr
  l_factor_right_d : FuncData
  l_great_power : Addr
  l_great_power_d : FuncData
  l_is_power_due : Addr
  l_is_power_due_d : FuncData
  l_judged_right : Addr
  l_judged_right_d : FuncData
  l_refused_right : Addr
  l_refused_right_d : FuncData
  l_law : Addr
  l_law_d : FuncData
  v_EXTENT : Value
  v_HANDLE : Value
  v_HEAP : Value
  v_MAGIC : Value
  v_MAP : Value
  v_MAPPED : Value
  v_MOST_ALIGN : Value
  v_MOST_END : Value
  v_MOST_WORD : Value
  v_NOBODY : Value
  v_NODE : Value
  v_POISON : Value
  v_RED : Value
  v_REGION : Value
  v_SLAB : Value
/-- what the top has written -/
structure Txt (K : PySem.W.Frag) (mg : Str → Option Value) (a : Ad) : Prop where
  b_ValueError : mg "ValueError" = none
  b_bool : mg "bool" = none
  b_dict : mg "dict" = none
  b_int : mg "int" = none
  b_isinstance : mg "isinstance" = none
  b_len : mg "len" = none
  b_list : mg "list" = none
  b_max : mg "max" = none
  b_min : mg "min" = none
  b_range : mg "range" = none
  b_str : mg "str" = none
  b_tuple : mg "tuple" = none
  g_EXTENT : mg "EXTENT" = some a.v_EXTENT
  r_EXTENT : RelV (.int 23) a.v_EXTENT
  g_HANDLE : mg "HANDLE" = some a.v_HANDLE
  r_HANDLE : RelV (.int 26) a.v_HANDLE
  g_HEAP : mg "HEAP" = some a.v_HEAP
  r_HEAP : RelV (.int 24) a.v_HEAP
  g_MAGIC : mg "MAGIC" = some a.v_MAGIC
  r_MAGIC : RelV (.int 4711) a.v_MAGIC
  g_MAP : mg "MAP" = some a.v_MAP
  r_MAP : RelV (.int 21) a.v_MAP
  g_MAPPED : mg "MAPPED" = some a.v_MAPPED
  r_MAPPED : RelV (.int 27) a.v_MAPPED
  g_MOST_ALIGN : mg "MOST_ALIGN" = some a.v_MOST_ALIGN
  r_MOST_ALIGN : RelV (.int 1073741824) a.v_MOST_ALIGN
  g_MOST_END : mg "MOST_END" = some a.v_MOST_END
  r_MOST_END : RelV (.int 1000000000) a.v_MOST_END
  g_MOST_WORD : mg "MOST_WORD" = some a.v_MOST_WORD
  r_MOST_WORD : RelV (.int 65535) a.v_MOST_WORD
  g_NOBODY : mg "NOBODY" = some a.v_NOBODY
  r_NOBODY : RelV (.int 0) a.v_NOBODY
  g_NODE : mg "NODE" = some a.v_NODE
  r_NODE : RelV (.int 28) a.v_NODE
  g_POISON : mg "POISON" = some a.v_POISON
  r_POISON : RelV (.int 60002) a.v_POISON
  g_RED : mg "RED" = some a.v_RED
  r_RED : RelV (.int 60001) a.v_RED
  g_REGION : mg "REGION" = some a.v_REGION
  r_REGION : RelV (.int 25) a.v_REGION
  g_SLAB : mg "SLAB" = some a.v_SLAB
  r_SLAB : RelV (.int 22) a.v_SLAB
  k_StoreError : mg "StoreError" = some (.ref a.c.k_StoreError)
  k_BadValue : mg "BadValue" = some (.ref a.c.k_BadValue)
  k_Broken : mg "Broken" = some (.ref a.c.k_Broken)
  k_Unknown : mg "Unknown" = some (.ref a.c.k_Unknown)
  k_NotHeld : mg "NotHeld" = some (.ref a.c.k_NotHeld)
  k_Fault : mg "Fault" = some (.ref a.c.k_Fault)
  k_NoRoom : mg "NoRoom" = some (.ref a.c.k_NoRoom)
  k_Cut : mg "Cut" = some (.ref a.c.k_Cut)
  k_BadLine : mg "BadLine" = some (.ref a.c.k_BadLine)
  c_BadValue_init : DfM K "__init__" "BadValue.__init__" s_c_BadValue_init ["self", "parameter"] a.c_BadValue_init a.c_BadValue_init_d
  c_Broken_init : DfM K "__init__" "Broken.__init__" s_c_Broken_init ["self", "place", "found", "due"] a.c_Broken_init a.c_Broken_init_d
  c_Unknown_init : DfM K "__init__" "Unknown.__init__" s_c_Unknown_init ["self", "parameter"] a.c_Unknown_init a.c_Unknown_init_d
  c_NotHeld_init : DfM K "__init__" "NotHeld.__init__" s_c_NotHeld_init ["self", "place", "found"] a.c_NotHeld_init a.c_NotHeld_init_d
  c_Fault_init : DfM K "__init__" "Fault.__init__" s_c_Fault_init ["self", "kind", "place"] a.c_Fault_init a.c_Fault_init_d
  c_NoRoom_init : DfM K "__init__" "NoRoom.__init__" s_c_NoRoom_init ["self", "paper"] a.c_NoRoom_init a.c_NoRoom_init_d
  c_Cut_init : DfM K "__init__" "Cut.__init__" s_c_Cut_init ["self", "needed", "left"] a.c_Cut_init a.c_Cut_init_d
  c_BadLine_init : DfM K "__init__" "BadLine.__init__" s_c_BadLine_init ["self", "line", "column"] a.c_BadLine_init a.c_BadLine_init_d
  p_is_whole : DfG K mg "is_whole" s_p_is_whole ["value"] a.p_is_whole a.p_is_whole_d
  p_whole_between : DfG K mg "whole_between" s_p_whole_between ["value", "low", "high"] a.p_whole_between a.p_whole_between_d
  p_is_power : DfG K mg "is_power" s_p_is_power ["value"] a.p_is_power a.p_is_power_d
  p_is_align : DfG K mg "is_align" s_p_is_align ["value", "most"] a.p_is_align a.p_is_align_d
  p_align_up : DfG K mg "align_up" s_p_align_up ["number", "align"] a.p_align_up a.p_align_up_d
  p_align_down : DfG K mg "align_down" s_p_align_down ["number", "align"] a.p_align_down a.p_align_down_d
  p_order_of : DfG K mg "order_of" s_p_order_of ["count"] a.p_order_of a.p_order_of_d
  p_power_in : DfG K mg "power_in" s_p_power_in ["number"] a.p_power_in a.p_power_in_d
  l_draws : DfG K mg "_law_draws" s_l_draws ["_law_script"] a.l_draws a.l_draws_d
  l_next_cell : DfG K mg "_law_next_cell" s_l_next_cell ["_law_draws_here"] a.l_next_cell a.l_next_cell_d
  l_mixed : DfG K mg "_law_mixed" s_l_mixed ["_law_seed", "_law_turn", "_law_many"] a.l_mixed a.l_mixed_d
  l_take : DfG K mg "_law_take" s_l_take ["_law_draws_here", "_law_many"] a.l_take a.l_take_d
  l_among : DfG K mg "_law_among" s_l_among ["_law_draws_here", "_law_row"] a.l_among a.l_among_d
  l_between : DfG K mg "_law_between" s_l_between ["_law_draws_here", "_law_low", "_law_high"] a.l_between a.l_between_d
  l_number : DfG K mg "_law_number" s_l_number ["_law_draws_here", "_law_low", "_law_high"] a.l_number a.l_number_d
  l_alignment : DfG K mg "_law_alignment" s_l_alignment ["_law_draws_here", "_law_most"] a.l_alignment a.l_alignment_d
  l_power : DfG K mg "_law_power" s_l_power ["_law_number_here"] a.l_power a.l_power_d
  l_long : DfG K mg "_law_long" s_l_long [] a.l_long a.l_long_d
  l_integer : DfG K mg "_law_integer" s_l_integer ["_law_draws_here"] a.l_integer a.l_integer_d
  l_chars : DfG K mg "_law_chars" s_l_chars [] a.l_chars a.l_chars_d
  l_text : DfG K mg "_law_text" s_l_text ["_law_draws_here", "_law_most"] a.l_text a.l_text_d
  l_plain : DfG K mg "_law_plain" s_l_plain ["_law_draws_here", "_law_deep"] a.l_plain a.l_plain_d
  l_not_integer : DfG K mg "_law_not_integer" s_l_not_integer ["_law_draws_here"] a.l_not_integer a.l_not_integer_d
  l_not_within : DfG K mg "_law_not_within" s_l_not_within ["_law_draws_here", "_law_low", "_law_high"] a.l_not_within a.l_not_within_d
  l_not_alignment : DfG K mg "_law_not_alignment" s_l_not_alignment ["_law_draws_here", "_law_most"] a.l_not_alignment a.l_not_alignment_d
  l_is_int : DfG K mg "_law_is_int" s_l_is_int ["_law_value"] a.l_is_int a.l_is_int_d
  l_is_within : DfG K mg "_law_is_within" s_l_is_within ["_law_value", "_law_low", "_law_high"] a.l_is_within a.l_is_within_d
  l_same : DfG K mg "_law_same" s_l_same ["_law_actual", "_law_expected"] a.l_same a.l_same_d
  l_copy : DfG K mg "_law_copy" s_l_copy ["_law_value"] a.l_copy a.l_copy_d
  l_kinds : DfG K mg "_law_kinds" s_l_kinds ["_law_error"] a.l_kinds a.l_kinds_d
  l_refused : DfG K mg "_law_refused" s_l_refused ["_law_title", "_law_fields"] a.l_refused a.l_refused_d
  l_made_right : DfG K mg "_law_made_right" s_l_made_right ["_law_one", "_law_two", "_law_three"] a.l_made_right a.l_made_right_d
  l_numbers_right : DfG K mg "_law_numbers_right" s_l_numbers_right [] a.l_numbers_right a.l_numbers_right_d
  l_asked : DfG K mg "_law_asked" s_l_asked ["_law_title", "_law_first", "_law_second"] a.l_asked a.l_asked_d
  l_aligned_right : DfG K mg "_law_aligned_right" s_l_aligned_right ["_law_number_here", "_law_alignment_here"] a.l_aligned_right a.l_aligned_right_d
  l_order_right : DfG K mg "_law_order_right" s_l_order_right ["_law_count"] a.l_order_right a.l_order_right_d
  l_factor_right : DfG K mg "_law_factor_right" s_l_factor_right ["_law_number_here"] a.l_factor_right a.l_factor_right_d
  l_great_power : DfG K mg "_law_great_power" s_l_great_power ["_law_draws_here"] a.l_great_power a.l_great_power_d
  l_is_power_due : DfG K mg "_law_is_power_due" s_l_is_power_due ["_law_value"] a.l_is_power_due a.l_is_power_due_d
  l_judged_right : DfG K mg "_law_judged_right" s_l_judged_right ["_law_values"] a.l_judged_right a.l_judged_right_d
  l_refused_right : DfG K mg "_law_refused_right" s_l_refused_right ["_law_draws_here", "_law_number_here", "_law_alignment_here"] a.l_refused_right a.l_refused_right_d
  l_law : DfG K mg "law" s_l_law ["_law_script"] a.l_law a.l_law_d
  bv : BvC K a.c.k_BadValue
  iC : PySem.W.findIn K (.ref a.c.k_BadValue) "__init__" = some (some (.ref a.c_BadValue_init))
  tI : PySem.W.typeIn K (.ref a.c_BadValue_init) = some (.type "function")
  e_Broken : ErC K a.c.k_Broken ["told", "place", "found", "due"]
  iC_Broken : PySem.W.findIn K (.ref a.c.k_Broken) "__init__" = some (some (.ref a.c_Broken_init))
  tI_Broken : PySem.W.typeIn K (.ref a.c_Broken_init) = some (.type "function")
  e_Unknown : ErC K a.c.k_Unknown ["told", "parameter"]
  iC_Unknown : PySem.W.findIn K (.ref a.c.k_Unknown) "__init__" = some (some (.ref a.c_Unknown_init))
  tI_Unknown : PySem.W.typeIn K (.ref a.c_Unknown_init) = some (.type "function")
  e_NotHeld : ErC K a.c.k_NotHeld ["told", "place", "found"]
  iC_NotHeld : PySem.W.findIn K (.ref a.c.k_NotHeld) "__init__" = some (some (.ref a.c_NotHeld_init))
  tI_NotHeld : PySem.W.typeIn K (.ref a.c_NotHeld_init) = some (.type "function")
  e_Fault : ErC K a.c.k_Fault ["told", "kind", "place"]
  iC_Fault : PySem.W.findIn K (.ref a.c.k_Fault) "__init__" = some (some (.ref a.c_Fault_init))
  tI_Fault : PySem.W.typeIn K (.ref a.c_Fault_init) = some (.type "function")
  e_NoRoom : ErC K a.c.k_NoRoom ["told", "paper"]
  iC_NoRoom : PySem.W.findIn K (.ref a.c.k_NoRoom) "__init__" = some (some (.ref a.c_NoRoom_init))
  tI_NoRoom : PySem.W.typeIn K (.ref a.c_NoRoom_init) = some (.type "function")
  e_Cut : ErC K a.c.k_Cut ["told", "needed", "left"]
  iC_Cut : PySem.W.findIn K (.ref a.c.k_Cut) "__init__" = some (some (.ref a.c_Cut_init))
  tI_Cut : PySem.W.typeIn K (.ref a.c_Cut_init) = some (.type "function")
  e_BadLine : ErC K a.c.k_BadLine ["told", "line", "column"]
  iC_BadLine : PySem.W.findIn K (.ref a.c.k_BadLine) "__init__" = some (some (.ref a.c_BadLine_init))
  tI_BadLine : PySem.W.typeIn K (.ref a.c_BadLine_init) = some (.type "function")
section
variable {P : Program} {w : World} {K : PySem.W.Frag} {mg : Str → Option Value} {base : Heap} {a : Ad}
theorem ok_c_BadValue_init (T : Txt K mg a) : FnOk P w K mg base CX0 1 a.c_BadValue_init a.c_BadValue_init_d ["self", "parameter"] (sp_init_BadValue K a.c.k_BadValue) := by
  refine T.c_BadValue_init.fn.ok sc_c_BadValue_init (fun vs H Q E h => ?_) (fun cdv A outer s H vs Q E hr h => ⟨t_c_BadValue_init K, ?_, pure_init_BadValue  h⟩)
  · repeat' (first | (obtain ⟨e, _⟩ := h; (first | (subst e; rfl) | (rw [e]; rfl))) | (obtain ⟨_, h⟩ := h))
  · exact (pss_cons (ps_ost (pv 0) (pv 1))
  (pss_one (ps_ost (pv 0) (pe_tup (pa_cons pe_str (pa_cons (pe_tup (pa_cons (pv 1) pa_nil)) pa_nil))))))
theorem ok_c_Broken_init (T : Txt K mg a) : FnOk P w K mg base CX0 1 a.c_Broken_init a.c_Broken_init_d ["self", "place", "found", "due"] (sp_init_Broken K a.c.k_Broken) := by
  refine T.c_Broken_init.fn.ok sc_c_Broken_init (fun vs H Q E h => ?_) (fun cdv A outer s H vs Q E hr h => ⟨t_c_Broken_init K, ?_, pure_init_Broken  h⟩)
  · repeat' (first | (obtain ⟨e, _⟩ := h; (first | (subst e; rfl) | (rw [e]; rfl))) | (obtain ⟨_, h⟩ := h))
  · exact (pss_cons (ps_ost (pv 0) (pv 1))
  (pss_cons (ps_ost (pv 0) (pv 2))
  (pss_cons (ps_ost (pv 0) (pv 3))
  (pss_one (ps_ost (pv 0) (pe_tup (pa_cons pe_str (pa_cons (pe_tup (pa_cons (pv 1) (pa_cons (pv 2) (pa_cons (pv 3) pa_nil)))) pa_nil))))))))
theorem ok_c_Unknown_init (T : Txt K mg a) : FnOk P w K mg base CX0 1 a.c_Unknown_init a.c_Unknown_init_d ["self", "parameter"] (sp_init_Unknown K a.c.k_Unknown) := by
  refine T.c_Unknown_init.fn.ok sc_c_Unknown_init (fun vs H Q E h => ?_) (fun cdv A outer s H vs Q E hr h => ⟨t_c_Unknown_init K, ?_, pure_init_Unknown  h⟩)
  · repeat' (first | (obtain ⟨e, _⟩ := h; (first | (subst e; rfl) | (rw [e]; rfl))) | (obtain ⟨_, h⟩ := h))
  · exact (pss_cons (ps_ost (pv 0) (pv 1))
  (pss_one (ps_ost (pv 0) (pe_tup (pa_cons pe_str (pa_cons (pe_tup (pa_cons (pv 1) pa_nil)) pa_nil))))))
theorem ok_c_NotHeld_init (T : Txt K mg a) : FnOk P w K mg base CX0 1 a.c_NotHeld_init a.c_NotHeld_init_d ["self", "place", "found"] (sp_init_NotHeld K a.c.k_NotHeld) := by
  refine T.c_NotHeld_init.fn.ok sc_c_NotHeld_init (fun vs H Q E h => ?_) (fun cdv A outer s H vs Q E hr h => ⟨t_c_NotHeld_init K, ?_, pure_init_NotHeld  h⟩)
  · repeat' (first | (obtain ⟨e, _⟩ := h; (first | (subst e; rfl) | (rw [e]; rfl))) | (obtain ⟨_, h⟩ := h))
  · exact (pss_cons (ps_ost (pv 0) (pv 1))
  (pss_cons (ps_ost (pv 0) (pv 2))
  (pss_one (ps_ost (pv 0) (pe_tup (pa_cons pe_str (pa_cons (pe_tup (pa_cons (pv 1) (pa_cons (pv 2) pa_nil))) pa_nil)))))))
theorem ok_c_Fault_init (T : Txt K mg a) : FnOk P w K mg base CX0 1 a.c_Fault_init a.c_Fault_init_d ["self", "kind", "place"] (sp_init_Fault K a.c.k_Fault) := by
  refine T.c_Fault_init.fn.ok sc_c_Fault_init (fun vs H Q E h => ?_) (fun cdv A outer s H vs Q E hr h => ⟨t_c_Fault_init K, ?_, pure_init_Fault  h⟩)
  · repeat' (first | (obtain ⟨e, _⟩ := h; (first | (subst e; rfl) | (rw [e]; rfl))) | (obtain ⟨_, h⟩ := h))
  · exact (pss_cons (ps_ost (pv 0) (pv 1))
  (pss_cons (ps_ost (pv 0) (pv 2))
  (pss_one (ps_ost (pv 0) (pe_tup (pa_cons pe_str (pa_cons (pe_tup (pa_cons (pv 1) (pa_cons (pv 2) pa_nil))) pa_nil)))))))
theorem ok_c_NoRoom_init (T : Txt K mg a) : FnOk P w K mg base CX0 1 a.c_NoRoom_init a.c_NoRoom_init_d ["self", "paper"] (sp_init_NoRoom K a.c.k_NoRoom) := by
  refine T.c_NoRoom_init.fn.ok sc_c_NoRoom_init (fun vs H Q E h => ?_) (fun cdv A outer s H vs Q E hr h => ⟨t_c_NoRoom_init K, ?_, pure_init_NoRoom  h⟩)
  · repeat' (first | (obtain ⟨e, _⟩ := h; (first | (subst e; rfl) | (rw [e]; rfl))) | (obtain ⟨_, h⟩ := h))
  · exact (pss_cons (ps_ost (pv 0) (pv 1))
  (pss_one (ps_ost (pv 0) (pe_tup (pa_cons pe_str (pa_cons (pe_tup (pa_cons (pv 1) pa_nil)) pa_nil))))))
theorem ok_c_Cut_init (T : Txt K mg a) : FnOk P w K mg base CX0 1 a.c_Cut_init a.c_Cut_init_d ["self", "needed", "left"] (sp_init_Cut K a.c.k_Cut) := by
  refine T.c_Cut_init.fn.ok sc_c_Cut_init (fun vs H Q E h => ?_) (fun cdv A outer s H vs Q E hr h => ⟨t_c_Cut_init K, ?_, pure_init_Cut  h⟩)
  · repeat' (first | (obtain ⟨e, _⟩ := h; (first | (subst e; rfl) | (rw [e]; rfl))) | (obtain ⟨_, h⟩ := h))
  · exact (pss_cons (ps_ost (pv 0) (pv 1))
  (pss_cons (ps_ost (pv 0) (pv 2))
  (pss_one (ps_ost (pv 0) (pe_tup (pa_cons pe_str (pa_cons (pe_tup (pa_cons (pv 1) (pa_cons (pv 2) pa_nil))) pa_nil)))))))
theorem ok_c_BadLine_init (T : Txt K mg a) : FnOk P w K mg base CX0 1 a.c_BadLine_init a.c_BadLine_init_d ["self", "line", "column"] (sp_init_BadLine K a.c.k_BadLine) := by
  refine T.c_BadLine_init.fn.ok sc_c_BadLine_init (fun vs H Q E h => ?_) (fun cdv A outer s H vs Q E hr h => ⟨t_c_BadLine_init K, ?_, pure_init_BadLine  h⟩)
  · repeat' (first | (obtain ⟨e, _⟩ := h; (first | (subst e; rfl) | (rw [e]; rfl))) | (obtain ⟨_, h⟩ := h))
  · exact (pss_cons (ps_ost (pv 0) (pv 1))
  (pss_cons (ps_ost (pv 0) (pv 2))
  (pss_one (ps_ost (pv 0) (pe_tup (pa_cons pe_str (pa_cons (pe_tup (pa_cons (pv 1) (pa_cons (pv 2) pa_nil))) pa_nil)))))))
theorem ok_p_is_whole (T : Txt K mg a) : FnOk P w K mg base CX0 1 a.p_is_whole a.p_is_whole_d ["value"] (sp_is_whole K) := by
  refine T.p_is_whole.fn.ok sc_p_is_whole (fun vs H Q E h => ?_) (fun cdv A outer s H vs Q E hr h => ⟨t_p_is_whole K, ?_, pure_is_whole  h⟩)
  · repeat' (first | (obtain ⟨e, _⟩ := h; (first | (subst e; rfl) | (rw [e]; rfl))) | (obtain ⟨_, h⟩ := h))
  · exact (pss_one (ps_ret (pe_and (pe_callB call_isi (by rfl) T.b_isinstance (by decide +kernel) (pa_cons (pv 0) (pa_cons (pe_bltn (by rfl) T.b_int (by decide +kernel) rfl) pa_nil))) (pe_one (pe_not (pe_callB call_isi (by rfl) T.b_isinstance (by decide +kernel) (pa_cons (pv 0) (pa_cons (pe_bltn (by rfl) T.b_bool (by decide +kernel) rfl) pa_nil))))))))
theorem ok_l_draws (T : Txt K mg a) : FnOk P w K mg base CX0 1 a.l_draws a.l_draws_d ["_law_script"] (sp_draws K) := by
  refine T.l_draws.fn.ok sc_l_draws (fun vs H Q E h => ?_) (fun cdv A outer s H vs Q E hr h => ⟨t_l_draws K, ?_, pure_draws  h⟩)
  · repeat' (first | (obtain ⟨e, _⟩ := h; (first | (subst e; rfl) | (rw [e]; rfl))) | (obtain ⟨_, h⟩ := h))
  · exact (pss_one (ps_ret (pe_lst (pa_cons (pe_lc (own := [("_law_cell", 1)]) (g := (gName 1)) (tt := tYes) (by rfl) sc_l_draws.nd (pi_list (pv 0)) (blkOk_by (own := [("_law_cell", 1)]) (N := N_l_draws) (sc := defScope s_l_draws) (by decide +kernel)) (fun _ _ _ _ _ => pg_name (i := 1) sc_l_draws.nd rfl (Or.inl rfl)) (fun _ _ _ _ _ => pts_nil) (fun _ _ _ _ _ => (pe_callTy call_int1 (by rfl) T.b_int (by decide +kernel) (pa_cons (pv 1) pa_nil)))) (pa_cons (pe_lst (pa_cons pe_int (pa_cons pe_int (pa_cons pe_int (pa_cons pe_int (pa_cons pe_int pa_nil)))))) pa_nil)))))
theorem ok_l_next_cell (T : Txt K mg a) : FnOk P w K mg base CX0 1 a.l_next_cell a.l_next_cell_d ["_law_draws_here"] sp_next_cell := by
  refine T.l_next_cell.fn.ok sc_l_next_cell (fun vs H Q E h => ?_) (fun cdv A outer s H vs Q E hr h => ⟨t_l_next_cell K, ?_, pure_next_cell  h⟩)
  · repeat' (first | (obtain ⟨e, _⟩ := h; (first | (subst e; rfl) | (rw [e]; rfl))) | (obtain ⟨_, h⟩ := h))
  · exact (pss_cons (ps_set (i := 1) sc_l_next_cell.nd rfl (Or.inl rfl) (pe_ix ix_list (pv 0) pe_int (fun _ _ => rfl)))
  (pss_cons (ps_set (i := 2) sc_l_next_cell.nd rfl (Or.inl rfl) (pe_ix ix_list (pv 0) pe_int (fun _ _ => rfl)))
  (pss_one (ps_if (pt_cmpR op_lt (pe_ix ix_list (pv 2) pe_int (fun _ _ => rfl)) (pe_callB call_len (by rfl) T.b_len (by decide +kernel) (pa_cons (pv 1) pa_nil)) (nomark _)) (pss_cons (ps_set (i := 3) sc_l_next_cell.nd rfl (Or.inl rfl) (pe_callTy call_int1 (by rfl) T.b_int (by decide +kernel) (pa_cons (pe_ix ix_list (pv 1) (pe_ix ix_list (pv 2) pe_int (fun _ _ => rfl)) (fun _ _ => rfl)) pa_nil)))
  (pss_cons (ps_asg (pe_op op_add (pe_ix ix_list (pv 2) pe_int (fun _ _ => rfl)) pe_int) (pg_sub (pv 2) pe_int set_list))
  (pss_cons (ps_asg (pe_op op_mod (pe_callTy call_int1 (by rfl) T.b_int (by decide +kernel) (pa_cons (pe_op op_add (pe_op op_add (pe_op op_mul (pe_ix ix_list (pv 2) pe_int (fun _ _ => rfl)) pe_int) (pe_op op_mod (pv 3) pe_int)) pe_int) pa_nil)) pe_int) (pg_sub (pv 2) pe_int set_list))
  (pss_one (ps_if (pt_cmpR op_ge (pv 3) (pe_op op_pow pe_int pe_int) (nomark _)) (pss_one (ps_asg (pv 3) (pg_sub (pv 2) pe_int set_list))) (pss_one (ps_asg pe_int (pg_sub (pv 2) pe_int set_list)))))))) pss_nil))))
theorem ok_l_mixed (T : Txt K mg a) : FnOk P w K mg base CX0 1 a.l_mixed a.l_mixed_d ["_law_seed", "_law_turn", "_law_many"] sp_mixed := by
  refine T.l_mixed.fn.ok sc_l_mixed (fun vs H Q E h => ?_) (fun cdv A outer s H vs Q E hr h => ⟨t_l_mixed K, ?_, pure_mixed  h⟩)
  · repeat' (first | (obtain ⟨e, _⟩ := h; (first | (subst e; rfl) | (rw [e]; rfl))) | (obtain ⟨_, h⟩ := h))
  · exact (pss_cons (ps_set (i := 3) sc_l_mixed.nd rfl (Or.inl rfl) pe_int)
  (pss_cons (ps_for PassesOwn.never rfl (pi_range1 (by rfl) T.b_range (pa_cons pe_int pa_nil)) (pg_name (i := 4) sc_l_mixed.nd rfl (Or.inl rfl)) (pss_cons (ps_set (i := 5) sc_l_mixed.nd rfl (Or.inl rfl) (pe_op op_mod (pe_callTy call_int1 (by rfl) T.b_int (by decide +kernel) (pa_cons (pe_op op_mul (pe_op op_add (pe_op op_add (pv 0) pe_int) (pe_op op_mul (pe_op op_add (pe_op op_mul pe_int (pv 1)) (pv 4)) pe_int)) pe_int) pa_nil)) pe_int))
  (pss_cons (ps_set (i := 6) sc_l_mixed.nd rfl (Or.inl rfl) (pe_op op_mod (pe_callTy call_int1 (by rfl) T.b_int (by decide +kernel) (pa_cons (pe_op op_add (pe_op op_add (pe_op op_mul (pv 5) (pv 5)) (pe_op op_mul (pe_op op_fdivW (pv 5) pe_int) pe_int)) (pv 1)) pa_nil)) pe_int))
  (pss_one (ps_set (i := 3) sc_l_mixed.nd rfl (Or.inl rfl) (pe_op op_add (pe_op op_mul (pv 3) pe_int) (pe_op op_fdivW (pv 6) pe_int)))))))
  (pss_one (ps_ret (pe_op op_mod (pe_callTy call_int1 (by rfl) T.b_int (by decide +kernel) (pa_cons (pv 3) pa_nil)) (pv 2))))))
theorem ok_l_power (T : Txt K mg a) : FnOk P w K mg base CX0 1 a.l_power a.l_power_d ["_law_number_here"] sp_power := by
  refine T.l_power.fn.ok sc_l_power (fun vs H Q E h => ?_) (fun cdv A outer s H vs Q E hr h => ⟨t_l_power K, ?_, pure_power  h⟩)
  · repeat' (first | (obtain ⟨e, _⟩ := h; (first | (subst e; rfl) | (rw [e]; rfl))) | (obtain ⟨_, h⟩ := h))
  · exact (pss_cons (ps_set (i := 1) sc_l_power.nd rfl (Or.inl rfl) pe_int)
  (pss_cons (ps_for PassesOwn.never rfl (pi_range1 (by rfl) T.b_range (pa_cons (pv 0) pa_nil)) (pg_name (i := 2) sc_l_power.nd rfl (Or.inl rfl)) (pss_one (ps_set (i := 1) sc_l_power.nd rfl (Or.inl rfl) (pe_op op_mul (pv 1) pe_int))))
  (pss_one (ps_ret (pv 1)))))
theorem ok_l_long (T : Txt K mg a) : FnOk P w K mg base CX0 1 a.l_long a.l_long_d [] sp_long := by
  refine T.l_long.fn.ok sc_l_long (fun vs H Q E h => ?_) (fun cdv A outer s H vs Q E hr h => ⟨t_l_long K, ?_, pure_long  h⟩)
  · repeat' (first | (obtain ⟨e, _⟩ := h; (first | (subst e; rfl) | (rw [e]; rfl))) | (obtain ⟨_, h⟩ := h))
  · exact (pss_cons (ps_set (i := 0) sc_l_long.nd rfl (Or.inl rfl) (pe_op op_pow pe_int pe_int))
  (pss_cons (ps_for PassesOwn.never rfl (pi_range1 (by rfl) T.b_range (pa_cons pe_int pa_nil)) (pg_name (i := 1) sc_l_long.nd rfl (Or.inl rfl)) (pss_one (ps_set (i := 0) sc_l_long.nd rfl (Or.inl rfl) (pe_op op_mulW (pv 0) (pe_op op_pow pe_int pe_int)))))
  (pss_one (ps_ret (pv 0)))))
theorem ok_l_chars (T : Txt K mg a) : FnOk P w K mg base CX0 1 a.l_chars a.l_chars_d [] sp_chars := by
  refine T.l_chars.fn.ok sc_l_chars (fun vs H Q E h => ?_) (fun cdv A outer s H vs Q E hr h => ⟨t_l_chars K, ?_, pure_chars  h⟩)
  · repeat' (first | (obtain ⟨e, _⟩ := h; (first | (subst e; rfl) | (rw [e]; rfl))) | (obtain ⟨_, h⟩ := h))
  · exact (pss_cons (ps_set (i := 0) sc_l_chars.nd rfl (Or.inl rfl) pe_str)
  (pss_one (ps_ret (pe_op op_add_str (pv 0) pe_str))))
theorem ok_l_is_int (T : Txt K mg a) : FnOk P w K mg base CX0 1 a.l_is_int a.l_is_int_d ["_law_value"] (sp_is_int K) := by
  refine T.l_is_int.fn.ok sc_l_is_int (fun vs H Q E h => ?_) (fun cdv A outer s H vs Q E hr h => ⟨t_l_is_int K, ?_, pure_is_int  h⟩)
  · repeat' (first | (obtain ⟨e, _⟩ := h; (first | (subst e; rfl) | (rw [e]; rfl))) | (obtain ⟨_, h⟩ := h))
  · exact (pss_one (ps_ret (pe_and (pe_callB call_isi (by rfl) T.b_isinstance (by decide +kernel) (pa_cons (pv 0) (pa_cons (pe_bltn (by rfl) T.b_int (by decide +kernel) rfl) pa_nil))) (pe_one (pe_not (pe_callB call_isi (by rfl) T.b_isinstance (by decide +kernel) (pa_cons (pv 0) (pa_cons (pe_bltn (by rfl) T.b_bool (by decide +kernel) rfl) pa_nil))))))))
theorem ok_l_kinds (T : Txt K mg a) : FnU P w K mg base 1 a.l_kinds a.l_kinds_d ["_law_error"] (sp_kinds K a.c) := by
  refine Fun_okU T.l_kinds.fn sc_l_kinds (fun vs H Q E h => ?_) (fun cdv A outer s H vs Q E hr h => ⟨t_l_kinds K a.c, ?_, pure_kinds  h⟩)
  · repeat' (first | (obtain ⟨e, _⟩ := h; (first | (subst e; rfl) | (rw [e]; rfl))) | (obtain ⟨_, h⟩ := h))
  · exact (pss_one (ps_ret (pe_lst (pa_cons (pe_callB call_isX (by rfl) T.b_isinstance (by decide +kernel) (pa_cons (pv 0) (pa_cons (pe_glob (by rfl) T.k_StoreError rfl) pa_nil))) (pa_cons (pe_callB call_isX (by rfl) T.b_isinstance (by decide +kernel) (pa_cons (pv 0) (pa_cons (pe_bltn (by rfl) T.b_ValueError (by decide +kernel) rfl) pa_nil))) (pa_cons (pe_callB call_isX (by rfl) T.b_isinstance (by decide +kernel) (pa_cons (pv 0) (pa_cons (pe_glob (by rfl) T.k_BadValue rfl) pa_nil))) (pa_cons (pe_callB call_isX (by rfl) T.b_isinstance (by decide +kernel) (pa_cons (pv 0) (pa_cons (pe_glob (by rfl) T.k_Broken rfl) pa_nil))) (pa_cons (pe_callB call_isX (by rfl) T.b_isinstance (by decide +kernel) (pa_cons (pv 0) (pa_cons (pe_glob (by rfl) T.k_Unknown rfl) pa_nil))) (pa_cons (pe_callB call_isX (by rfl) T.b_isinstance (by decide +kernel) (pa_cons (pv 0) (pa_cons (pe_glob (by rfl) T.k_NotHeld rfl) pa_nil))) (pa_cons (pe_callB call_isX (by rfl) T.b_isinstance (by decide +kernel) (pa_cons (pv 0) (pa_cons (pe_glob (by rfl) T.k_Fault rfl) pa_nil))) (pa_cons (pe_callB call_isX (by rfl) T.b_isinstance (by decide +kernel) (pa_cons (pv 0) (pa_cons (pe_glob (by rfl) T.k_NoRoom rfl) pa_nil))) (pa_cons (pe_callB call_isX (by rfl) T.b_isinstance (by decide +kernel) (pa_cons (pv 0) (pa_cons (pe_glob (by rfl) T.k_Cut rfl) pa_nil))) (pa_cons (pe_callB call_isX (by rfl) T.b_isinstance (by decide +kernel) (pa_cons (pv 0) (pa_cons (pe_glob (by rfl) T.k_BadLine rfl) pa_nil))) pa_nil)))))))))))))
theorem ok_l_refused (T : Txt K mg a) : FnOk P w K mg base CX0 1 a.l_refused a.l_refused_d ["_law_title", "_law_fields"] sp_refused := by
  refine T.l_refused.fn.ok sc_l_refused (fun vs H Q E h => ?_) (fun cdv A outer s H vs Q E hr h => ⟨t_l_refused K, ?_, pure_refused  h⟩)
  · repeat' (first | (obtain ⟨e, _⟩ := h; (first | (subst e; rfl) | (rw [e]; rfl))) | (obtain ⟨_, h⟩ := h))
  · exact (pss_cons (ps_set (i := 2) sc_l_refused.nd rfl (Or.inl rfl) (pe_lst (pa_cons pe_str (pa_cons pe_str (pa_cons pe_str (pa_cons pe_str (pa_cons pe_str (pa_cons pe_str (pa_cons pe_str (pa_cons pe_str pa_nil))))))))))
  (pss_one (ps_ret (pe_lst (pa_cons pe_str (pa_cons (pe_tup (pa_cons (pv 0) (pa_cons (pv 1) pa_nil))) (pa_cons (pv 1) (pa_cons (pe_op op_cat (pe_lst (pa_cons pe_bl (pa_cons pe_bl pa_nil))) (pe_lc (own := [("_law_one", 3)]) (g := (gName 3)) (tt := tYes) (by rfl) sc_l_refused.nd (pi_list (pv 2)) (blkOk_by (own := [("_law_one", 3)]) (N := N_l_refused) (sc := defScope s_l_refused) (by decide +kernel)) (fun _ _ _ _ _ => pg_name (i := 3) sc_l_refused.nd rfl (Or.inl rfl)) (fun _ _ _ _ _ => pts_nil) (fun _ _ _ _ _ => (pe_cmpR op_eq (pv 3) (pv 0) (nomark _))))) pa_nil))))))))
theorem ok_p_whole_between (T : Txt K mg a) : FnOk P w K mg base CX0 2 a.p_whole_between a.p_whole_between_d ["value", "low", "high"] (sp_whole_between K) := by
  refine T.p_whole_between.fn.ok sc_p_whole_between (fun vs H Q E h => ?_) (fun cdv A outer s H vs Q E hr h => ⟨t_p_whole_between K, ?_, pure_whole_between  h⟩)
  · repeat' (first | (obtain ⟨e, _⟩ := h; (first | (subst e; rfl) | (rw [e]; rfl))) | (obtain ⟨_, h⟩ := h))
  · exact (pss_one (ps_ret (pe_and (pe_call (ok_p_is_whole T) (hr.mono (by decide)) (by rfl) T.p_is_whole.gl T.p_is_whole.fn.kp T.p_is_whole.bd .nil pass0 (pa_cons (pv 0) pa_nil)) (pe_one (pe_chain op_le op_le (pv 1) (pv 0) (pv 2))))))
theorem ok_p_is_power (T : Txt K mg a) : FnOk P w K mg base CX0 2 a.p_is_power a.p_is_power_d ["value"] (sp_is_power K) := by
  refine T.p_is_power.fn.ok sc_p_is_power (fun vs H Q E h => ?_) (fun cdv A outer s H vs Q E hr h => ⟨t_p_is_power K, ?_, pure_is_power  h⟩)
  · repeat' (first | (obtain ⟨e, _⟩ := h; (first | (subst e; rfl) | (rw [e]; rfl))) | (obtain ⟨_, h⟩ := h))
  · exact (pss_one (ps_ret (pe_and (pe_call (ok_p_is_whole T) (hr.mono (by decide)) (by rfl) T.p_is_whole.gl T.p_is_whole.fn.kp T.p_is_whole.bd .nil pass0 (pa_cons (pv 0) pa_nil)) (pe_and (pe_cmpR op_ge (pv 0) pe_int (nomark _)) (pe_one (pe_cmpR op_eq (pe_op op_and (pv 0) (pe_op op_sub (pv 0) pe_int)) pe_int (nomark _)))))))
theorem ok_l_take (T : Txt K mg a) : FnOk P w K mg base CX0 2 a.l_take a.l_take_d ["_law_draws_here", "_law_many"] sp_take := by
  refine T.l_take.fn.ok sc_l_take (fun vs H Q E h => ?_) (fun cdv A outer s H vs Q E hr h => ⟨t_l_take K, ?_, pure_take  h⟩)
  · repeat' (first | (obtain ⟨e, _⟩ := h; (first | (subst e; rfl) | (rw [e]; rfl))) | (obtain ⟨_, h⟩ := h))
  · exact (pss_cons (ps_if (pt_cmpR op_lt (pv 1) pe_int (nomark _)) (pss_one (ps_ret pe_int)) pss_nil)
  (pss_cons (ps_set (i := 2) sc_l_take.nd rfl (Or.inl rfl) (pe_ix ix_list (pv 0) pe_int (fun _ _ => rfl)))
  (pss_cons (ps_asg (pe_op op_add (pe_ix ix_list (pv 2) pe_int (fun _ _ => rfl)) pe_int) (pg_sub (pv 2) pe_int set_list))
  (pss_cons (ps_if (PW.pt (pw_and (pt_cmpR op_lt (pe_ix ix_list (pv 2) pe_int (fun _ _ => rfl)) pe_int (nomark _)) (pw_and1 (pt_cmpR op_lt (pe_ix ix_list (pv 2) pe_int (fun _ _ => rfl)) pe_int (nomark _))))) (pss_one (ps_expr (pe_call (ok_l_next_cell T) (hr.mono (by decide)) (by rfl) T.l_next_cell.gl T.l_next_cell.fn.kp T.l_next_cell.bd .nil pass0 (pa_cons (pv 0) pa_nil)))) pss_nil)
  (pss_cons (ps_if (pt_cmpR op_gt (pe_ix ix_list (pv 2) pe_int (fun _ _ => rfl)) pe_int (nomark _)) (pss_cons (ps_set (i := 3) sc_l_take.nd rfl (Or.inl rfl) (pe_op op_mod (pe_callTy call_int1 (by rfl) T.b_int (by decide +kernel) (pa_cons (pe_ix ix_list (pv 2) pe_int (fun _ _ => rfl)) pa_nil)) (pv 1)))
  (pss_cons (ps_asg (pe_op op_fdivW (pe_ix ix_list (pv 2) pe_int (fun _ _ => rfl)) (pv 1)) (pg_sub (pv 2) pe_int set_list))
  (pss_one (ps_ret (pv 3))))) pss_nil)
  (pss_cons (ps_if (pt_cmpR op_gt (pe_ix ix_list (pv 2) pe_int (fun _ _ => rfl)) pe_int (nomark _)) (pss_one (ps_asg (pe_op op_sub (pe_ix ix_list (pv 2) pe_int (fun _ _ => rfl)) pe_int) (pg_sub (pv 2) pe_int set_list))) pss_nil)
  (pss_one (ps_ret (pe_call (ok_l_mixed T) (hr.mono (by decide)) (by rfl) T.l_mixed.gl T.l_mixed.fn.kp T.l_mixed.bd .nil pass0 (pa_cons (pe_ix ix_list (pv 2) pe_int (fun _ _ => rfl)) (pa_cons (pe_ix ix_list (pv 2) pe_int (fun _ _ => rfl)) (pa_cons (pv 1) pa_nil))))))))))))
theorem ok_l_is_within (T : Txt K mg a) : FnOk P w K mg base CX0 2 a.l_is_within a.l_is_within_d ["_law_value", "_law_low", "_law_high"] (sp_is_within K) := by
  refine T.l_is_within.fn.ok sc_l_is_within (fun vs H Q E h => ?_) (fun cdv A outer s H vs Q E hr h => ⟨t_l_is_within K, ?_, pure_is_within  h⟩)
  · repeat' (first | (obtain ⟨e, _⟩ := h; (first | (subst e; rfl) | (rw [e]; rfl))) | (obtain ⟨_, h⟩ := h))
  · exact (pss_one (ps_ret (pe_and (pe_call (ok_l_is_int T) (hr.mono (by decide)) (by rfl) T.l_is_int.gl T.l_is_int.fn.kp T.l_is_int.bd .nil pass0 (pa_cons (pv 0) pa_nil)) (pe_one (pe_chain op_le op_le (pv 1) (pv 0) (pv 2))))))
theorem ok_l_is_power_due (T : Txt K mg a) : FnOk P w K mg base CX0 2 a.l_is_power_due a.l_is_power_due_d ["_law_value"] (sp_is_power_due K) := by
  refine T.l_is_power_due.fn.ok sc_l_is_power_due (fun vs H Q E h => ?_) (fun cdv A outer s H vs Q E hr h => ⟨t_l_is_power_due K, ?_, pure_is_power_due  h⟩)
  · repeat' (first | (obtain ⟨e, _⟩ := h; (first | (subst e; rfl) | (rw [e]; rfl))) | (obtain ⟨_, h⟩ := h))
  · exact (pss_cons (ps_if (pt_not (pt_val (pe_call (ok_l_is_int T) (hr.mono (by decide)) (by rfl) T.l_is_int.gl T.l_is_int.fn.kp T.l_is_int.bd .nil pass0 (pa_cons (pv 0) pa_nil)))) (pss_one (ps_ret pe_bl)) pss_nil)
  (pss_cons (ps_set (i := 1) sc_l_is_power_due.nd rfl (Or.inl rfl) pe_int)
  (pss_cons (ps_for PassesOwn.never rfl (pi_range1 (by rfl) T.b_range (pa_cons pe_int pa_nil)) (pg_name (i := 2) sc_l_is_power_due.nd rfl (Or.inl rfl)) (pss_cons (ps_if (pt_cmpR op_ge (pv 1) (pv 0) (nomark _)) (pss_one ps_break) pss_nil)
  (pss_one (ps_set (i := 1) sc_l_is_power_due.nd rfl (Or.inl rfl) (pe_op op_add (pv 1) (pv 1))))))
  (pss_one (ps_ret (pe_cmpR op_eq (pv 1) (pv 0) (nomark _)))))))
theorem ok_p_is_align (T : Txt K mg a) : FnOk P w K mg base CX0 3 a.p_is_align a.p_is_align_d ["value", "most"] (sp_is_align K) := by
  refine T.p_is_align.fn.ok sc_p_is_align (fun vs H Q E h => ?_) (fun cdv A outer s H vs Q E hr h => ⟨t_p_is_align K, ?_, pure_is_align  h⟩)
  · repeat' (first | (obtain ⟨e, _⟩ := h; (first | (subst e; rfl) | (rw [e]; rfl))) | (obtain ⟨_, h⟩ := h))
  · exact (pss_one (ps_ret (pe_and (pe_call (ok_p_is_power T) (hr.mono (by decide)) (by rfl) T.p_is_power.gl T.p_is_power.fn.kp T.p_is_power.bd .nil pass0 (pa_cons (pv 0) pa_nil)) (pe_one (pe_cmpR op_le (pv 0) (pv 1) (nomark _))))))
theorem ok_p_order_of (T : Txt K mg a) : FnOk P w K mg base (L2.CX P w) 3 a.p_order_of a.p_order_of_d ["count"] (sp_order_of K a.c) := by
  refine T.p_order_of.fn.okX sc_p_order_of (fun vs H Q E h => ?_) (fun cdv A outer s H vs Q E hr h => ⟨t_p_order_of K a.c E, ?_, pure_order_of  h⟩)
  · repeat' (first | (obtain ⟨e, _⟩ := h; (first | (subst e; rfl) | (rw [e]; rfl))) | (obtain ⟨_, h⟩ := h))
  · exact (pss_cons (ps_if (pt_not (pt_val (pe_call (ok_p_whole_between T) (hr.mono (by decide)) (by rfl) T.p_whole_between.gl T.p_whole_between.fn.kp T.p_whole_between.bd .nil pass0 (pa_cons (pv 0) (pa_cons pe_int (pa_cons (pe_glob (by rfl) T.g_MOST_END T.r_MOST_END) pa_nil)))))) (pss_one (ps_raise rfl (takes_of rfl rfl rfl rfl) (pmk_oex T.bv.ox T.iC T.tI (ok_c_BadValue_init T) (hr.mono (by decide)) T.c_BadValue_init.bd .nil pass0 (by rfl) T.k_BadValue (pa_cons pe_str pa_nil)))) pss_nil)
  (pss_one (ps_ret (pe_bits (pe_op op_sub (pv 0) pe_int)))))
theorem ok_p_power_in (T : Txt K mg a) : FnOk P w K mg base (L2.CX P w) 3 a.p_power_in a.p_power_in_d ["number"] (sp_power_in00 K a.c) := by
  refine T.p_power_in.fn.okX sc_p_power_in (fun vs H Q E h => ?_) (fun cdv A outer s H vs Q E hr h => ⟨t_p_power_in00 K a.c E, ?_, pure_power_in00  h⟩)
  · repeat' (first | (obtain ⟨e, _⟩ := h; (first | (subst e; rfl) | (rw [e]; rfl))) | (obtain ⟨_, h⟩ := h))
  · exact (pss_cons (ps_if (pt_not (pt_val (pe_call (ok_p_whole_between T) (hr.mono (by decide)) (by rfl) T.p_whole_between.gl T.p_whole_between.fn.kp T.p_whole_between.bd .nil pass0 (pa_cons (pv 0) (pa_cons pe_int (pa_cons (pe_glob (by rfl) T.g_MOST_END T.r_MOST_END) pa_nil)))))) (pss_one (ps_raise rfl (takes_of rfl rfl rfl rfl) (pmk_oex T.bv.ox T.iC T.tI (ok_c_BadValue_init T) (hr.mono (by decide)) T.c_BadValue_init.bd .nil pass0 (by rfl) T.k_BadValue (pa_cons pe_str pa_nil)))) pss_nil)
  (pss_one (ps_ret (pe_op op_and (pv 0) (pe_un un_neg (pv 0))))))
theorem ok_l_among (T : Txt K mg a) : FnOk P w K mg base CX0 3 a.l_among a.l_among_d ["_law_draws_here", "_law_row"] (sp_among K) := by
  refine T.l_among.fn.ok sc_l_among (fun vs H Q E h => ?_) (fun cdv A outer s H vs Q E hr h => ⟨t_l_among K, ?_, pure_among  h⟩)
  · repeat' (first | (obtain ⟨e, _⟩ := h; (first | (subst e; rfl) | (rw [e]; rfl))) | (obtain ⟨_, h⟩ := h))
  · exact (pss_one (ps_ret (pe_ix ix_list (pv 1) (pe_call (ok_l_take T) (hr.mono (by decide)) (by rfl) T.l_take.gl T.l_take.fn.kp T.l_take.bd .nil pass0 (pa_cons (pv 0) (pa_cons (pe_callB call_len (by rfl) T.b_len (by decide +kernel) (pa_cons (pv 1) pa_nil)) pa_nil))) (fun _ _ => rfl))))
theorem ok_l_between (T : Txt K mg a) : FnOk P w K mg base CX0 3 a.l_between a.l_between_d ["_law_draws_here", "_law_low", "_law_high"] sp_between := by
  refine T.l_between.fn.ok sc_l_between (fun vs H Q E h => ?_) (fun cdv A outer s H vs Q E hr h => ⟨t_l_between K, ?_, pure_between  h⟩)
  · repeat' (first | (obtain ⟨e, _⟩ := h; (first | (subst e; rfl) | (rw [e]; rfl))) | (obtain ⟨_, h⟩ := h))
  · exact (pss_cons (ps_if (pt_cmpR op_le (pv 2) (pv 1) (nomark _)) (pss_one (ps_ret (pv 1))) pss_nil)
  (pss_cons (ps_set (i := 3) sc_l_between.nd rfl (Or.inl rfl) (pe_call (ok_l_take T) (hr.mono (by decide)) (by rfl) T.l_take.gl T.l_take.fn.kp T.l_take.bd .nil pass0 (pa_cons (pv 0) (pa_cons pe_int pa_nil))))
  (pss_cons (ps_if (pt_cmpR op_eq (pv 3) pe_int (nomark _)) (pss_one (ps_ret (pv 1))) pss_nil)
  (pss_cons (ps_if (pt_cmpR op_eq (pv 3) pe_int (nomark _)) (pss_one (ps_ret (pv 2))) pss_nil)
  (pss_one (ps_ret (pe_op op_add (pv 1) (pe_call (ok_l_take T) (hr.mono (by decide)) (by rfl) T.l_take.gl T.l_take.fn.kp T.l_take.bd .nil pass0 (pa_cons (pv 0) (pa_cons (pe_op op_add (pe_op op_sub (pv 2) (pv 1)) pe_int) pa_nil))))))))))
theorem ok_l_integer (T : Txt K mg a) : FnOk P w K mg base CX0 3 a.l_integer a.l_integer_d ["_law_draws_here"] sp_integer := by
  refine T.l_integer.fn.ok sc_l_integer (fun vs H Q E h => ?_) (fun cdv A outer s H vs Q E hr h => ⟨t_l_integer K, ?_, pure_integer  h⟩)
  · repeat' (first | (obtain ⟨e, _⟩ := h; (first | (subst e; rfl) | (rw [e]; rfl))) | (obtain ⟨_, h⟩ := h))
  · exact (pss_cons (ps_set (i := 1) sc_l_integer.nd rfl (Or.inl rfl) (pe_call (ok_l_take T) (hr.mono (by decide)) (by rfl) T.l_take.gl T.l_take.fn.kp T.l_take.bd .nil pass0 (pa_cons (pv 0) (pa_cons pe_int pa_nil))))
  (pss_cons (ps_if (pt_cmpR op_lt (pv 1) pe_int (nomark _)) (pss_one (ps_ret (pe_op op_sub (pe_call (ok_l_take T) (hr.mono (by decide)) (by rfl) T.l_take.gl T.l_take.fn.kp T.l_take.bd .nil pass0 (pa_cons (pv 0) (pa_cons pe_int pa_nil))) pe_int))) pss_nil)
  (pss_cons (ps_if (pt_cmpR op_eq (pv 1) pe_int (nomark _)) (pss_one (ps_ret (pe_call (ok_l_take T) (hr.mono (by decide)) (by rfl) T.l_take.gl T.l_take.fn.kp T.l_take.bd .nil pass0 (pa_cons (pv 0) (pa_cons pe_int pa_nil))))) pss_nil)
  (pss_cons (ps_if (pt_cmpR op_eq (pv 1) pe_int (nomark _)) (pss_one (ps_ret (pe_call (ok_l_take T) (hr.mono (by decide)) (by rfl) T.l_take.gl T.l_take.fn.kp T.l_take.bd .nil pass0 (pa_cons (pv 0) (pa_cons (pe_op op_add (pe_op op_pow pe_int pe_int) pe_int) pa_nil))))) pss_nil)
  (pss_cons (ps_set (i := 2) sc_l_integer.nd rfl (Or.inl rfl) (pe_op op_add (pe_op op_pow pe_int pe_int) (pe_call (ok_l_take T) (hr.mono (by decide)) (by rfl) T.l_take.gl T.l_take.fn.kp T.l_take.bd .nil pass0 (pa_cons (pv 0) (pa_cons (pe_op op_pow pe_int pe_int) pa_nil)))))
  (pss_cons (ps_if (pt_cmpR op_eq (pv 1) pe_int (nomark _)) (pss_one (ps_set (i := 2) sc_l_integer.nd rfl (Or.inl rfl) (pe_op op_add (pe_call0 (ok_l_long T) (hr.mono (by decide)) (by rfl) T.l_long.gl T.l_long.fn.kp T.l_long.bd .nil pass0) (pe_call (ok_l_take T) (hr.mono (by decide)) (by rfl) T.l_take.gl T.l_take.fn.kp T.l_take.bd .nil pass0 (pa_cons (pv 0) (pa_cons (pe_op op_pow pe_int pe_int) pa_nil)))))) pss_nil)
  (pss_cons (ps_if (pt_cmpR op_eq (pe_call (ok_l_take T) (hr.mono (by decide)) (by rfl) T.l_take.gl T.l_take.fn.kp T.l_take.bd .nil pass0 (pa_cons (pv 0) (pa_cons pe_int pa_nil))) pe_int (nomark _)) (pss_one (ps_ret (pe_un un_neg (pv 2)))) pss_nil)
  (pss_one (ps_ret (pv 2))))))))))
theorem ok_l_not_integer (T : Txt K mg a) : FnOk P w K mg base CX0 3 a.l_not_integer a.l_not_integer_d ["_law_draws_here"] sp_not_integer := by
  refine T.l_not_integer.fn.ok sc_l_not_integer (fun vs H Q E h => ?_) (fun cdv A outer s H vs Q E hr h => ⟨t_l_not_integer K, ?_, pure_not_integer  h⟩)
  · repeat' (first | (obtain ⟨e, _⟩ := h; (first | (subst e; rfl) | (rw [e]; rfl))) | (obtain ⟨_, h⟩ := h))
  · exact (pss_one (ps_ret (pe_ix ix_list (pe_lst (pa_cons pe_bl (pa_cons pe_bl (pa_cons pe_non (pa_cons pe_str (pa_cons pe_str (pa_cons pe_str (pa_cons (pe_lst pa_nil) (pa_cons (pe_tup pa_nil) (pa_cons (pe_lst (pa_cons pe_int pa_nil)) (pa_cons (pe_tup (pa_cons pe_int pa_nil)) (pa_cons (pe_disp (pps_cons pe_str pe_int pps_nil) (by rfl) (by rfl) (fun z => by cases z) (by decide)) pa_nil)))))))))))) (pe_call (ok_l_take T) (hr.mono (by decide)) (by rfl) T.l_take.gl T.l_take.fn.kp T.l_take.bd .nil pass0 (pa_cons (pv 0) (pa_cons pe_int pa_nil))) (fun _ _ => rfl))))
theorem ok_p_align_up (T : Txt K mg a) : FnOk P w K mg base (L2.CX P w) 4 a.p_align_up a.p_align_up_d ["number", "align"] (sp_align00 upI K a.c) := by
  refine T.p_align_up.fn.okX sc_p_align_up (fun vs H Q E h => ?_) (fun cdv A outer s H vs Q E hr h => ⟨t_p_align_up00 K a.c E, ?_, pure_align_up00  h⟩)
  · repeat' (first | (obtain ⟨e, _⟩ := h; (first | (subst e; rfl) | (rw [e]; rfl))) | (obtain ⟨_, h⟩ := h))
  · exact (pss_cons (ps_if (pt_not (pt_val (pe_call (ok_p_whole_between T) (hr.mono (by decide)) (by rfl) T.p_whole_between.gl T.p_whole_between.fn.kp T.p_whole_between.bd .nil pass0 (pa_cons (pv 0) (pa_cons pe_int (pa_cons (pe_glob (by rfl) T.g_MOST_END T.r_MOST_END) pa_nil)))))) (pss_one (ps_raise rfl (takes_of rfl rfl rfl rfl) (pmk_oex T.bv.ox T.iC T.tI (ok_c_BadValue_init T) (hr.mono (by decide)) T.c_BadValue_init.bd .nil pass0 (by rfl) T.k_BadValue (pa_cons pe_str pa_nil)))) pss_nil)
  (pss_cons (ps_if (pt_not (pt_val (pe_call (ok_p_is_align T) (hr.mono (by decide)) (by rfl) T.p_is_align.gl T.p_is_align.fn.kp T.p_is_align.bd .nil pass0 (pa_cons (pv 1) (pa_cons (pe_glob (by rfl) T.g_MOST_ALIGN T.r_MOST_ALIGN) pa_nil))))) (pss_one (ps_raise rfl (takes_of rfl rfl rfl rfl) (pmk_oex T.bv.ox T.iC T.tI (ok_c_BadValue_init T) (hr.mono (by decide)) T.c_BadValue_init.bd .nil pass0 (by rfl) T.k_BadValue (pa_cons pe_str pa_nil)))) pss_nil)
  (pss_one (ps_ret (pe_op op_mul (pe_op op_fdivW (pe_op op_sub (pe_op op_add (pv 0) (pv 1)) pe_int) (pv 1)) (pv 1))))))
theorem ok_p_align_down (T : Txt K mg a) : FnOk P w K mg base (L2.CX P w) 4 a.p_align_down a.p_align_down_d ["number", "align"] (sp_align00 downI K a.c) := by
  refine T.p_align_down.fn.okX sc_p_align_down (fun vs H Q E h => ?_) (fun cdv A outer s H vs Q E hr h => ⟨t_p_align_down K a.c E, ?_, pure_align_down  h⟩)
  · repeat' (first | (obtain ⟨e, _⟩ := h; (first | (subst e; rfl) | (rw [e]; rfl))) | (obtain ⟨_, h⟩ := h))
  · exact (pss_cons (ps_if (pt_not (pt_val (pe_call (ok_p_whole_between T) (hr.mono (by decide)) (by rfl) T.p_whole_between.gl T.p_whole_between.fn.kp T.p_whole_between.bd .nil pass0 (pa_cons (pv 0) (pa_cons pe_int (pa_cons (pe_glob (by rfl) T.g_MOST_END T.r_MOST_END) pa_nil)))))) (pss_one (ps_raise rfl (takes_of rfl rfl rfl rfl) (pmk_oex T.bv.ox T.iC T.tI (ok_c_BadValue_init T) (hr.mono (by decide)) T.c_BadValue_init.bd .nil pass0 (by rfl) T.k_BadValue (pa_cons pe_str pa_nil)))) pss_nil)
  (pss_cons (ps_if (pt_not (pt_val (pe_call (ok_p_is_align T) (hr.mono (by decide)) (by rfl) T.p_is_align.gl T.p_is_align.fn.kp T.p_is_align.bd .nil pass0 (pa_cons (pv 1) (pa_cons (pe_glob (by rfl) T.g_MOST_ALIGN T.r_MOST_ALIGN) pa_nil))))) (pss_one (ps_raise rfl (takes_of rfl rfl rfl rfl) (pmk_oex T.bv.ox T.iC T.tI (ok_c_BadValue_init T) (hr.mono (by decide)) T.c_BadValue_init.bd .nil pass0 (by rfl) T.k_BadValue (pa_cons pe_str pa_nil)))) pss_nil)
  (pss_one (ps_ret (pe_op op_mul (pe_op op_fdivW (pv 0) (pv 1)) (pv 1))))))
theorem ok_l_alignment (T : Txt K mg a) : FnOk P w K mg base CX0 4 a.l_alignment a.l_alignment_d ["_law_draws_here", "_law_most"] sp_alignment := by
  refine T.l_alignment.fn.ok sc_l_alignment (fun vs H Q E h => ?_) (fun cdv A outer s H vs Q E hr h => ⟨t_l_alignment K, ?_, pure_alignment  h⟩)
  · repeat' (first | (obtain ⟨e, _⟩ := h; (first | (subst e; rfl) | (rw [e]; rfl))) | (obtain ⟨_, h⟩ := h))
  · exact (pss_cons (ps_set (i := 2) sc_l_alignment.nd rfl (Or.inl rfl) pe_int)
  (pss_cons (ps_for PassesOwn.never rfl (pi_range1 (by rfl) T.b_range (pa_cons (pe_call (ok_l_between T) (hr.mono (by decide)) (by rfl) T.l_between.gl T.l_between.fn.kp T.l_between.bd .nil pass0 (pa_cons (pv 0) (pa_cons pe_int (pa_cons (pv 1) pa_nil)))) pa_nil)) (pg_name (i := 3) sc_l_alignment.nd rfl (Or.inl rfl)) (pss_one (ps_set (i := 2) sc_l_alignment.nd rfl (Or.inl rfl) (pe_op op_mul (pv 2) pe_int))))
  (pss_one (ps_ret (pv 2)))))
theorem ok_l_text (T : Txt K mg a) : FnOk P w K mg base CX0 4 a.l_text a.l_text_d ["_law_draws_here", "_law_most"] sp_text := by
  refine T.l_text.fn.ok sc_l_text (fun vs H Q E h => ?_) (fun cdv A outer s H vs Q E hr h => ⟨t_l_text K, ?_, pure_text  h⟩)
  · repeat' (first | (obtain ⟨e, _⟩ := h; (first | (subst e; rfl) | (rw [e]; rfl))) | (obtain ⟨_, h⟩ := h))
  · exact (pss_cons (ps_set (i := 2) sc_l_text.nd rfl (Or.inr rfl) (pe_call0 (ok_l_chars T) (hr.mono (by decide)) (by rfl) T.l_chars.gl T.l_chars.fn.kp T.l_chars.bd .nil pass0))
  (pss_one (ps_ret (pe_join pe_str (pe_lc (own := [("_law_k", 3)]) (g := (gName 3)) (tt := tYes) (by rfl) sc_l_text.nd (pi_range1 (by rfl) T.b_range (pa_cons (pe_call (ok_l_between T) (hr.mono (by decide)) (by rfl) T.l_between.gl T.l_between.fn.kp T.l_between.bd .nil pass0 (pa_cons (pv 0) (pa_cons pe_int (pa_cons (pv 1) pa_nil)))) pa_nil)) (blkOk_by (own := [("_law_k", 3)]) (N := N_l_text) (sc := defScope s_l_text) (by decide +kernel)) (fun _ _ _ _ _ => pg_name (i := 3) sc_l_text.nd rfl (Or.inl rfl)) (fun _ _ _ _ _ => pts_nil) (fun _ _ _ _ _ => (pe_ix ix_str (pv 2) (pe_call (ok_l_take T) (hr.mono (by decide)) (by rfl) T.l_take.gl T.l_take.fn.kp T.l_take.bd .nil pass0 (pa_cons (pv 0) (pa_cons pe_int pa_nil))) (fun _ _ => rfl))))))))
theorem ok_l_not_within (T : Txt K mg a) : FnOk P w K mg base CX0 4 a.l_not_within a.l_not_within_d ["_law_draws_here", "_law_low", "_law_high"] sp_not_within := by
  refine T.l_not_within.fn.ok sc_l_not_within (fun vs H Q E h => ?_) (fun cdv A outer s H vs Q E hr h => ⟨t_l_not_within K, ?_, pure_not_within  h⟩)
  · repeat' (first | (obtain ⟨e, _⟩ := h; (first | (subst e; rfl) | (rw [e]; rfl))) | (obtain ⟨_, h⟩ := h))
  · exact (pss_cons (ps_set (i := 3) sc_l_not_within.nd rfl (Or.inl rfl) (pe_call (ok_l_take T) (hr.mono (by decide)) (by rfl) T.l_take.gl T.l_take.fn.kp T.l_take.bd .nil pass0 (pa_cons (pv 0) (pa_cons pe_int pa_nil))))
  (pss_cons (ps_if (pt_cmpR op_lt (pv 3) pe_int (nomark _)) (pss_one (ps_ret (pe_ix ix_list (pe_lst (pa_cons (pe_op op_sub (pv 1) pe_int) (pa_cons (pe_op op_add (pv 2) pe_int) pa_nil))) (pv 3) (fun _ _ => rfl)))) pss_nil)
  (pss_cons (ps_if (pt_cmpR op_eq (pv 3) pe_int (nomark _)) (pss_one (ps_ret (pe_op op_add (pe_op op_add (pv 2) pe_int) (pe_call (ok_l_take T) (hr.mono (by decide)) (by rfl) T.l_take.gl T.l_take.fn.kp T.l_take.bd .nil pass0 (pa_cons (pv 0) (pa_cons (pe_op op_pow pe_int pe_int) pa_nil)))))) pss_nil)
  (pss_cons (ps_if (pt_cmpR op_eq (pv 3) pe_int (nomark _)) (pss_one (ps_ret (pe_op op_sub (pe_op op_sub (pv 1) pe_int) (pe_call (ok_l_take T) (hr.mono (by decide)) (by rfl) T.l_take.gl T.l_take.fn.kp T.l_take.bd .nil pass0 (pa_cons (pv 0) (pa_cons (pe_op op_pow pe_int pe_int) pa_nil)))))) pss_nil)
  (pss_cons (ps_if (pt_cmpR op_eq (pv 3) pe_int (nomark _)) (pss_one (ps_ret (pe_ix ix_list (pe_lst (pa_cons (pe_call0 (ok_l_long T) (hr.mono (by decide)) (by rfl) T.l_long.gl T.l_long.fn.kp T.l_long.bd .nil pass0) (pa_cons (pe_un un_neg (pe_call0 (ok_l_long T) (hr.mono (by decide)) (by rfl) T.l_long.gl T.l_long.fn.kp T.l_long.bd .nil pass0)) pa_nil))) (pe_call (ok_l_take T) (hr.mono (by decide)) (by rfl) T.l_take.gl T.l_take.fn.kp T.l_take.bd .nil pass0 (pa_cons (pv 0) (pa_cons pe_int pa_nil))) (fun _ _ => rfl)))) pss_nil)
  (pss_one (ps_ret (pe_call (ok_l_not_integer T) (hr.mono (by decide)) (by rfl) T.l_not_integer.gl T.l_not_integer.fn.kp T.l_not_integer.bd .nil pass0 (pa_cons (pv 0) pa_nil)))))))))
theorem ok_l_not_alignment (T : Txt K mg a) : FnOk P w K mg base CX0 4 a.l_not_alignment a.l_not_alignment_d ["_law_draws_here", "_law_most"] sp_not_alignment := by
  refine T.l_not_alignment.fn.ok sc_l_not_alignment (fun vs H Q E h => ?_) (fun cdv A outer s H vs Q E hr h => ⟨t_l_not_alignment K, ?_, pure_not_alignment  h⟩)
  · repeat' (first | (obtain ⟨e, _⟩ := h; (first | (subst e; rfl) | (rw [e]; rfl))) | (obtain ⟨_, h⟩ := h))
  · exact (pss_cons (ps_set (i := 2) sc_l_not_alignment.nd rfl (Or.inl rfl) (pe_call (ok_l_take T) (hr.mono (by decide)) (by rfl) T.l_take.gl T.l_take.fn.kp T.l_take.bd .nil pass0 (pa_cons (pv 0) (pa_cons pe_int pa_nil))))
  (pss_cons (ps_if (pt_cmpR op_lt (pv 2) pe_int (nomark _)) (pss_one (ps_ret (pe_ix ix_list (pe_lst (pa_cons pe_int (pa_cons (pe_un un_neg pe_int) (pa_cons (pe_un un_neg pe_int) (pa_cons pe_int (pa_cons (pe_op op_add (pv 1) (pv 1)) (pa_cons (pe_op op_add (pe_op op_add (pv 1) (pv 1)) pe_int) pa_nil))))))) (pv 2) (fun _ _ => rfl)))) pss_nil)
  (pss_cons (ps_if (pt_cmpR op_eq (pv 2) pe_int (nomark _)) (pss_one (ps_ret (pe_call (ok_l_among T) (hr.mono (by decide)) (by rfl) T.l_among.gl T.l_among.fn.kp T.l_among.bd .nil pass0 (pa_cons (pv 0) (pa_cons (pe_lst (pa_cons pe_int (pa_cons pe_int (pa_cons (pe_op op_pow pe_int pe_int) (pa_cons (pe_call0 (ok_l_long T) (hr.mono (by decide)) (by rfl) T.l_long.gl T.l_long.fn.kp T.l_long.bd .nil pass0) (pa_cons (pe_un un_neg (pv 1)) (pa_cons (pe_op op_mul (pv 1) pe_int) pa_nil))))))) pa_nil))))) pss_nil)
  (pss_one (ps_ret (pe_call (ok_l_not_integer T) (hr.mono (by decide)) (by rfl) T.l_not_integer.gl T.l_not_integer.fn.kp T.l_not_integer.bd .nil pass0 (pa_cons (pv 0) pa_nil)))))))
theorem ok_l_number (T : Txt K mg a) : FnOk P w K mg base CX0 5 a.l_number a.l_number_d ["_law_draws_here", "_law_low", "_law_high"] sp_number := by
  refine T.l_number.fn.ok sc_l_number (fun vs H Q E h => ?_) (fun cdv A outer s H vs Q E hr h => ⟨t_l_number K, ?_, pure_number  h⟩)
  · repeat' (first | (obtain ⟨e, _⟩ := h; (first | (subst e; rfl) | (rw [e]; rfl))) | (obtain ⟨_, h⟩ := h))
  · exact (pss_cons (ps_if (pt_cmpR op_lt (pe_op op_sub (pv 2) (pv 1)) pe_int (nomark _)) (pss_one (ps_ret (pe_call (ok_l_between T) (hr.mono (by decide)) (by rfl) T.l_between.gl T.l_between.fn.kp T.l_between.bd .nil pass0 (pa_cons (pv 0) (pa_cons (pv 1) (pa_cons (pv 2) pa_nil)))))) pss_nil)
  (pss_cons (ps_set (i := 3) sc_l_number.nd rfl (Or.inl rfl) (pe_call (ok_l_take T) (hr.mono (by decide)) (by rfl) T.l_take.gl T.l_take.fn.kp T.l_take.bd .nil pass0 (pa_cons (pv 0) (pa_cons pe_int pa_nil))))
  (pss_cons (ps_if (pt_cmpR op_lt (pv 3) pe_int (nomark _)) (pss_one (ps_ret (pe_ix ix_list (pe_lst (pa_cons (pv 1) (pa_cons (pv 2) (pa_cons (pe_op op_add (pv 1) pe_int) (pa_cons (pe_op op_sub (pv 2) pe_int) pa_nil))))) (pv 3) (fun _ _ => rfl)))) pss_nil)
  (pss_cons (ps_if (pt_cmpR op_lt (pv 3) pe_int (nomark _)) (pss_one (ps_ret (pe_op op_add (pv 1) (pe_call (ok_l_take T) (hr.mono (by decide)) (by rfl) T.l_take.gl T.l_take.fn.kp T.l_take.bd .nil pass0 (pa_cons (pv 0) (pa_cons (pe_op op_add (pe_callB (call_min2 rfl) (by rfl) T.b_min (by decide +kernel) (pa_cons (pe_op op_sub (pv 2) (pv 1)) (pa_cons pe_int pa_nil))) pe_int) pa_nil)))))) pss_nil)
  (pss_cons (ps_if (pt_cmpR op_eq (pv 3) pe_int (nomark _)) (pss_one (ps_ret (pe_callB (call_max2 rfl) (by rfl) T.b_max (by decide +kernel) (pa_cons (pv 1) (pa_cons (pe_callB (call_min2 rfl) (by rfl) T.b_min (by decide +kernel) (pa_cons (pv 2) (pa_cons (pe_op op_sub (pe_op op_add (pe_call (ok_l_alignment T) (hr.mono (by decide)) (by rfl) T.l_alignment.gl T.l_alignment.fn.kp T.l_alignment.bd .nil pass0 (pa_cons (pv 0) (pa_cons pe_int pa_nil))) (pe_call (ok_l_take T) (hr.mono (by decide)) (by rfl) T.l_take.gl T.l_take.fn.kp T.l_take.bd .nil pass0 (pa_cons (pv 0) (pa_cons pe_int pa_nil)))) pe_int) pa_nil))) pa_nil))))) pss_nil)
  (pss_one (ps_ret (pe_op op_add (pv 1) (pe_call (ok_l_take T) (hr.mono (by decide)) (by rfl) T.l_take.gl T.l_take.fn.kp T.l_take.bd .nil pass0 (pa_cons (pv 0) (pa_cons (pe_op op_add (pe_op op_sub (pv 2) (pv 1)) pe_int) pa_nil)))))))))))
theorem ok_l_asked (T : Txt K mg a) : FnOk P w K mg base CX0 5 a.l_asked a.l_asked_d ["_law_title", "_law_first", "_law_second"] (sp_asked00 K a.c) := by
  refine T.l_asked.fn.ok sc_l_asked (fun vs H Q E h => ?_) (fun cdv A outer s H vs Q E hr h => ⟨t_l_asked K a.c, ?_, pure_asked  h⟩)
  · repeat' (first | (obtain ⟨e, _⟩ := h; (first | (subst e; rfl) | (rw [e]; rfl))) | (obtain ⟨_, h⟩ := h))
  · exact (pss_one (ps_try_asT (i := 3) (tb := fun W => (tSeq (tIfS (tTest (tOp rEq (tVar 0) (tC (.str "align_up")))) (tRet (tLst (tCons (tC (.str "done")) (tCons (tCallS (sp_align00 upI K a.c) (WE W) (tCons (tVar 1) (tCons (tVar 2) tNil))) tNil)))) tNext)
  (tSeq (tIfS (tTest (tOp rEq (tVar 0) (tC (.str "align_down")))) (tRet (tLst (tCons (tC (.str "done")) (tCons (tCallS (sp_align00 downI K a.c) (WE W) (tCons (tVar 1) (tCons (tVar 2) tNil))) tNil)))) tNext)
  (tSeq (tIfS (tTest (tOp rEq (tVar 0) (tC (.str "order_of")))) (tRet (tLst (tCons (tC (.str "done")) (tCons (tCallS (sp_order_of K a.c) (WE W) (tCons (tVar 1) tNil)) tNil)))) tNext)
  (tRet (tLst (tCons (tC (.str "done")) (tCons (tCallS (sp_power_in00 K a.c) (WE W) (tCons (tVar 1) tNil)) tNil)))))))) (ts := (tRet (tLst (tCons (tC (.str "refused")) (tCons (tXt K "told" (tVar 3)) (tCons (tTup (tCons (tXt K "parameter" (tVar 3)) tNil)) (tCons (tCall (sp_kinds K a.c) [] E0 (tCons (tVar 3) tNil)) tNil))))))) (Wout := (fun _ _ _ _ => False)) rfl rfl rfl sc_l_asked.nd rfl rfl ⟨rfl, by decide, Or.inl T.k_BadValue⟩ takes0
  (fun W pn xe tk _ => (pss_cons (ps_if (pt_cmpR op_eq (pv 0) pe_str (nomark _)) (pss_one (ps_ret (pe_lst (pa_cons pe_str (pa_cons (pe_callS (ok_p_align_up T) (hr.mono (by decide)) (by rfl) T.p_align_up.gl T.p_align_up.fn.kp T.p_align_up.bd (fun σ => passAt tk σ) (pa_cons (pv 1) (pa_cons (pv 2) pa_nil))) pa_nil))))) pss_nil)
  (pss_cons (ps_if (pt_cmpR op_eq (pv 0) pe_str (nomark _)) (pss_one (ps_ret (pe_lst (pa_cons pe_str (pa_cons (pe_callS (ok_p_align_down T) (hr.mono (by decide)) (by rfl) T.p_align_down.gl T.p_align_down.fn.kp T.p_align_down.bd (fun σ => passAt tk σ) (pa_cons (pv 1) (pa_cons (pv 2) pa_nil))) pa_nil))))) pss_nil)
  (pss_cons (ps_if (pt_cmpR op_eq (pv 0) pe_str (nomark _)) (pss_one (ps_ret (pe_lst (pa_cons pe_str (pa_cons (pe_callS (ok_p_order_of T) (hr.mono (by decide)) (by rfl) T.p_order_of.gl T.p_order_of.fn.kp T.p_order_of.bd (fun σ => passAt tk σ) (pa_cons (pv 1) pa_nil)) pa_nil))))) pss_nil)
  (pss_one (ps_ret (pe_lst (pa_cons pe_str (pa_cons (pe_callS (ok_p_power_in T) (hr.mono (by decide)) (by rfl) T.p_power_in.gl T.p_power_in.fn.kp T.p_power_in.bd (fun σ => passAt tk σ) (pa_cons (pv 1) pa_nil)) pa_nil)))))))))
  (fun _ _ => (pss_one (ps_ret (pe_lst (pa_cons pe_str (pa_cons (pe_xt (pv 3)) (pa_cons (pe_tup (pa_cons (pe_xt (pv 3)) pa_nil)) (pa_cons (pe_callU (ok_l_kinds T) (roomH_suite (hr.mono (by decide))) (by rfl) T.l_kinds.gl T.l_kinds.fn.kp T.l_kinds.bd (pa_cons (pv 3) pa_nil)) pa_nil))))))))))
theorem ok_l_great_power (T : Txt K mg a) : FnOk P w K mg base CX0 5 a.l_great_power a.l_great_power_d ["_law_draws_here"] sp_great_power := by
  refine T.l_great_power.fn.ok sc_l_great_power (fun vs H Q E h => ?_) (fun cdv A outer s H vs Q E hr h => ⟨t_l_great_power K, ?_, pure_great_power  h⟩)
  · repeat' (first | (obtain ⟨e, _⟩ := h; (first | (subst e; rfl) | (rw [e]; rfl))) | (obtain ⟨_, h⟩ := h))
  · exact (pss_cons (ps_set (i := 1) sc_l_great_power.nd rfl (Or.inl rfl) pe_int)
  (pss_cons (ps_for PassesOwn.never rfl (pi_range1 (by rfl) T.b_range (pa_cons (pe_call (ok_l_take T) (hr.mono (by decide)) (by rfl) T.l_take.gl T.l_take.fn.kp T.l_take.bd .nil pass0 (pa_cons (pv 0) (pa_cons pe_int pa_nil))) pa_nil)) (pg_name (i := 2) sc_l_great_power.nd rfl (Or.inl rfl)) (pss_one (ps_set (i := 1) sc_l_great_power.nd rfl (Or.inl rfl) (pe_op op_mulW (pv 1) (pe_op op_pow pe_int pe_int)))))
  (pss_one (ps_ret (pe_op op_mulW (pv 1) (pe_call (ok_l_alignment T) (hr.mono (by decide)) (by rfl) T.l_alignment.gl T.l_alignment.fn.kp T.l_alignment.bd .nil pass0 (pa_cons (pv 0) (pa_cons pe_int pa_nil))))))))
theorem ok_l_aligned_right (T : Txt K mg a) : FnOk P w K mg base CX0 6 a.l_aligned_right a.l_aligned_right_d ["_law_number_here", "_law_alignment_here"] (sp_aligned_right K a.c) := by
  refine T.l_aligned_right.fn.ok sc_l_aligned_right (fun vs H Q E h => ?_) (fun cdv A outer s H vs Q E hr h => ⟨t_l_aligned_right K a.c, ?_, pure_aligned_right  h⟩)
  · repeat' (first | (obtain ⟨e, _⟩ := h; (first | (subst e; rfl) | (rw [e]; rfl))) | (obtain ⟨_, h⟩ := h))
  · exact (pss_cons (ps_set (i := 2) sc_l_aligned_right.nd rfl (Or.inl rfl) (pe_call (ok_l_asked T) (hr.mono (by decide)) (by rfl) T.l_asked.gl T.l_asked.fn.kp T.l_asked.bd .nil pass0 (pa_cons pe_str (pa_cons (pv 0) (pa_cons (pv 1) pa_nil)))))
  (pss_cons (ps_set (i := 3) sc_l_aligned_right.nd rfl (Or.inl rfl) (pe_call (ok_l_asked T) (hr.mono (by decide)) (by rfl) T.l_asked.gl T.l_asked.fn.kp T.l_asked.bd .nil pass0 (pa_cons pe_str (pa_cons (pv 0) (pa_cons (pv 1) pa_nil)))))
  (pss_cons (ps_if (PW.pt (pw_or (pt_cmpR op_ne (pe_ix ix_list (pv 2) pe_int (fun _ _ => rfl)) pe_str (nomark _)) (pw_or (pt_cmpR op_ne (pe_ix ix_list (pv 3) pe_int (fun _ _ => rfl)) pe_str (nomark _)) (pw_or (pt_not (pt_val (pe_call (ok_l_is_int T) (hr.mono (by decide)) (by rfl) T.l_is_int.gl T.l_is_int.fn.kp T.l_is_int.bd .nil pass0 (pa_cons (pe_ix ix_list (pv 2) pe_int (fun _ _ => rfl)) pa_nil)))) (pw_or1 (pt_not (pt_val (pe_call (ok_l_is_int T) (hr.mono (by decide)) (by rfl) T.l_is_int.gl T.l_is_int.fn.kp T.l_is_int.bd .nil pass0 (pa_cons (pe_ix ix_list (pv 3) pe_int (fun _ _ => rfl)) pa_nil))))))))) (pss_one (ps_ret pe_bl)) pss_nil)
  (pss_cons (ps_if (PW.pt (pw_or (pt_cmpR op_ne (pe_op op_mod (pe_callTy call_int1 (by rfl) T.b_int (by decide +kernel) (pa_cons (pe_ix ix_list (pv 2) pe_int (fun _ _ => rfl)) pa_nil)) (pv 1)) pe_int (nomark _)) (pw_or1 (pt_cmpR op_ne (pe_op op_mod (pe_callTy call_int1 (by rfl) T.b_int (by decide +kernel) (pa_cons (pe_ix ix_list (pv 3) pe_int (fun _ _ => rfl)) pa_nil)) (pv 1)) pe_int (nomark _))))) (pss_one (ps_ret pe_bl)) pss_nil)
  (pss_one (ps_ret (pe_and (pe_chain op_lt op_le (pe_op op_sub (pe_ix ix_list (pv 2) pe_int (fun _ _ => rfl)) (pv 1)) (pv 0) (pe_ix ix_list (pv 2) pe_int (fun _ _ => rfl))) (pe_one (pe_chain op_le op_lt (pe_ix ix_list (pv 3) pe_int (fun _ _ => rfl)) (pv 0) (pe_op op_add (pe_ix ix_list (pv 3) pe_int (fun _ _ => rfl)) (pv 1)))))))))))
theorem ok_l_order_right (T : Txt K mg a) : FnOk P w K mg base CX0 6 a.l_order_right a.l_order_right_d ["_law_count"] (sp_order_right K a.c) := by
  refine T.l_order_right.fn.ok sc_l_order_right (fun vs H Q E h => ?_) (fun cdv A outer s H vs Q E hr h => ⟨t_l_order_right K a.c, ?_, pure_order_right  h⟩)
  · repeat' (first | (obtain ⟨e, _⟩ := h; (first | (subst e; rfl) | (rw [e]; rfl))) | (obtain ⟨_, h⟩ := h))
  · exact (pss_cons (ps_set (i := 1) sc_l_order_right.nd rfl (Or.inl rfl) (pe_call (ok_l_asked T) (hr.mono (by decide)) (by rfl) T.l_asked.gl T.l_asked.fn.kp T.l_asked.bd .nil pass0 (pa_cons pe_str (pa_cons (pv 0) (pa_cons pe_non pa_nil)))))
  (pss_cons (ps_if (PW.pt (pw_or (pt_cmpR op_ne (pe_ix ix_list (pv 1) pe_int (fun _ _ => rfl)) pe_str (nomark _)) (pw_or1 (pt_not (pt_val (pe_call (ok_l_is_within T) (hr.mono (by decide)) (by rfl) T.l_is_within.gl T.l_is_within.fn.kp T.l_is_within.bd .nil pass0 (pa_cons (pe_ix ix_list (pv 1) pe_int (fun _ _ => rfl)) (pa_cons pe_int (pa_cons pe_int pa_nil))))))))) (pss_one (ps_ret pe_bl)) pss_nil)
  (pss_cons (ps_set (i := 2) sc_l_order_right.nd rfl (Or.inl rfl) (pe_call (ok_l_power T) (hr.mono (by decide)) (by rfl) T.l_power.gl T.l_power.fn.kp T.l_power.bd .nil pass0 (pa_cons (pe_ix ix_list (pv 1) pe_int (fun _ _ => rfl)) pa_nil)))
  (pss_one (ps_ret (pe_and (pe_cmpR op_ge (pv 2) (pv 0) (nomark _)) (pe_one (pe_or (pe_cmpR op_eq (pv 2) pe_int (nomark _)) (pe_one (pe_cmpR op_lt (pe_op op_fdivW (pv 2) pe_int) (pv 0) (nomark _)))))))))))
theorem ok_l_factor_right (T : Txt K mg a) : FnOk P w K mg base CX0 6 a.l_factor_right a.l_factor_right_d ["_law_number_here"] (sp_factor_right K a.c) := by
  refine T.l_factor_right.fn.ok sc_l_factor_right (fun vs H Q E h => ?_) (fun cdv A outer s H vs Q E hr h => ⟨t_l_factor_right K a.c, ?_, pure_factor_right  h⟩)
  · repeat' (first | (obtain ⟨e, _⟩ := h; (first | (subst e; rfl) | (rw [e]; rfl))) | (obtain ⟨_, h⟩ := h))
  · exact (pss_cons (ps_set (i := 1) sc_l_factor_right.nd rfl (Or.inl rfl) (pe_call (ok_l_asked T) (hr.mono (by decide)) (by rfl) T.l_asked.gl T.l_asked.fn.kp T.l_asked.bd .nil pass0 (pa_cons pe_str (pa_cons (pv 0) (pa_cons pe_non pa_nil)))))
  (pss_cons (ps_if (PW.pt (pw_or (pt_cmpR op_ne (pe_ix ix_list (pv 1) pe_int (fun _ _ => rfl)) pe_str (nomark _)) (pw_or1 (pt_not (pt_val (pe_call (ok_l_is_within T) (hr.mono (by decide)) (by rfl) T.l_is_within.gl T.l_is_within.fn.kp T.l_is_within.bd .nil pass0 (pa_cons (pe_ix ix_list (pv 1) pe_int (fun _ _ => rfl)) (pa_cons pe_int (pa_cons (pe_op op_pow pe_int pe_int) pa_nil))))))))) (pss_one (ps_ret pe_bl)) pss_nil)
  (pss_cons (ps_set (i := 2) sc_l_factor_right.nd rfl (Or.inl rfl) (pe_ix ix_list (pv 1) pe_int (fun _ _ => rfl)))
  (pss_one (ps_ret (pe_and (pe_cmpR op_eq (pe_op op_mod (pe_callTy call_int1 (by rfl) T.b_int (by decide +kernel) (pa_cons (pe_op op_pow pe_int pe_int) pa_nil)) (pv 2)) pe_int (nomark _)) (pe_and (pe_cmpR op_eq (pe_op op_mod (pe_callTy call_int1 (by rfl) T.b_int (by decide +kernel) (pa_cons (pv 0) pa_nil)) (pv 2)) pe_int (nomark _)) (pe_one (pe_cmpR op_eq (pe_op op_mod (pe_callTy call_int1 (by rfl) T.b_int (by decide +kernel) (pa_cons (pe_op op_fdivW (pv 0) (pv 2)) pa_nil)) pe_int) pe_int (nomark _))))))))))
theorem ok_l_same (T : Txt K mg a) : ∀ n : Nat, FnOk P w K mg base CX0 (n + 1) a.l_same a.l_same_d ["_law_actual", "_law_expected"] (sp_same n)
  | 0 => fn_false
  | n + 1 => by
    have ih := ok_l_same T n
    refine T.l_same.fn.ok sc_l_same (fun vs H Q E h => ?_) (fun cdv A outer s H vs Q E hr h => ⟨t_l_same K n, ?_, pure_same h⟩)
    · repeat' (first | (obtain ⟨e, _⟩ := h; (first | (subst e; rfl) | (rw [e]; rfl))) | (obtain ⟨_, h⟩ := h))
    · exact (pss_cons (ps_if (PW.pt (pw_or (pt_cmpR op_isN (pv 0) pe_non (nomark _)) (pw_or1 (pt_cmpR op_isN (pv 1) pe_non (nomark _))))) (pss_one (ps_ret (pe_and (pe_cmpR op_isN (pv 0) pe_non (nomark _)) (pe_one (pe_cmpR op_isN (pv 1) pe_non (nomark _)))))) pss_nil)
  (pss_cons (ps_if (PW.pt (pw_or (pt_val (pe_callB call_isi (by rfl) T.b_isinstance (by decide +kernel) (pa_cons (pv 0) (pa_cons (pe_bltn (by rfl) T.b_bool (by decide +kernel) rfl) pa_nil)))) (pw_or1 (pt_val (pe_callB call_isi (by rfl) T.b_isinstance (by decide +kernel) (pa_cons (pv 1) (pa_cons (pe_bltn (by rfl) T.b_bool (by decide +kernel) rfl) pa_nil))))))) (pss_one (ps_ret (pe_and (pe_callB call_isi (by rfl) T.b_isinstance (by decide +kernel) (pa_cons (pv 0) (pa_cons (pe_bltn (by rfl) T.b_bool (by decide +kernel) rfl) pa_nil))) (pe_and (pe_callB call_isi (by rfl) T.b_isinstance (by decide +kernel) (pa_cons (pv 1) (pa_cons (pe_bltn (by rfl) T.b_bool (by decide +kernel) rfl) pa_nil))) (pe_one (pe_cmpR op_eq (pv 0) (pv 1) (nomark _))))))) pss_nil)
  (pss_cons (ps_if (pt_val (pe_callB call_isi (by rfl) T.b_isinstance (by decide +kernel) (pa_cons (pv 1) (pa_cons (pe_bltn (by rfl) T.b_int (by decide +kernel) rfl) pa_nil)))) (pss_one (ps_ret (pe_and (pe_callB call_isi (by rfl) T.b_isinstance (by decide +kernel) (pa_cons (pv 0) (pa_cons (pe_bltn (by rfl) T.b_int (by decide +kernel) rfl) pa_nil))) (pe_one (pe_cmpR op_eq (pv 0) (pv 1) (nomark _)))))) pss_nil)
  (pss_cons (ps_if (pt_val (pe_callB call_isi (by rfl) T.b_isinstance (by decide +kernel) (pa_cons (pv 1) (pa_cons (pe_bltn (by rfl) T.b_str (by decide +kernel) rfl) pa_nil)))) (pss_one (ps_ret (pe_and (pe_callB call_isi (by rfl) T.b_isinstance (by decide +kernel) (pa_cons (pv 0) (pa_cons (pe_bltn (by rfl) T.b_str (by decide +kernel) rfl) pa_nil))) (pe_one (pe_cmpR op_eq (pv 0) (pv 1) (nomark _)))))) pss_nil)
  (pss_cons (ps_if (pt_val (pe_callB call_isi (by rfl) T.b_isinstance (by decide +kernel) (pa_cons (pv 1) (pa_cons (pe_bltn (by rfl) T.b_dict (by decide +kernel) rfl) pa_nil)))) (pss_cons (ps_if (PW.pt (pw_or (pt_not (pt_val (pe_callB call_isi (by rfl) T.b_isinstance (by decide +kernel) (pa_cons (pv 0) (pa_cons (pe_bltn (by rfl) T.b_dict (by decide +kernel) rfl) pa_nil))))) (pw_or1 (pt_cmpR op_ne (pe_callB call_lenD (by rfl) T.b_len (by decide +kernel) (pa_cons (pv 0) pa_nil)) (pe_callB call_lenD (by rfl) T.b_len (by decide +kernel) (pa_cons (pv 1) pa_nil)) (nomark _))))) (pss_one (ps_ret pe_bl)) pss_nil)
  (pss_cons (ps_for PassesOwn.never rfl (pi_list (pe_callTy (call_listD rfl) (by rfl) T.b_list (by decide +kernel) (pa_cons (pv 1) pa_nil))) (pg_name (i := 2) sc_l_same.nd rfl (Or.inl rfl)) (pss_one (ps_if (PW.pt (pw_or (pt_cmp (pc_dnotin (hu_of hr) (pv 2) (pv 0))) (pw_or1 (pt_not (pt_val (pe_call ih (hr.mono (by omega)) (by rfl) T.l_same.gl T.l_same.fn.kp T.l_same.bd .nil pass0 (pa_cons (pe_dget (hu_of hr) (pv 0) (pv 2) (fun _ _ => rfl)) (pa_cons (pe_dget (hu_of hr) (pv 1) (pv 2) (fun _ _ => rfl)) pa_nil)))))))) (pss_one (ps_ret pe_bl)) pss_nil)))
  (pss_one (ps_ret pe_bl)))) pss_nil)
  (pss_cons (ps_if (pt_cmpR op_ne (pe_callB call_isi (by rfl) T.b_isinstance (by decide +kernel) (pa_cons (pv 1) (pa_cons (pe_bltn (by rfl) T.b_list (by decide +kernel) rfl) pa_nil))) (pe_callB call_isi (by rfl) T.b_isinstance (by decide +kernel) (pa_cons (pv 0) (pa_cons (pe_bltn (by rfl) T.b_list (by decide +kernel) rfl) pa_nil))) (nomark _)) (pss_one (ps_ret pe_bl)) pss_nil)
  (pss_cons (ps_if (pt_cmpR op_ne (pe_callB call_isi (by rfl) T.b_isinstance (by decide +kernel) (pa_cons (pv 1) (pa_cons (pe_bltn (by rfl) T.b_tuple (by decide +kernel) rfl) pa_nil))) (pe_callB call_isi (by rfl) T.b_isinstance (by decide +kernel) (pa_cons (pv 0) (pa_cons (pe_bltn (by rfl) T.b_tuple (by decide +kernel) rfl) pa_nil))) (nomark _)) (pss_one (ps_ret pe_bl)) pss_nil)
  (pss_cons (ps_if (PW.pt (pw_or (PW.pt (pw_and (pt_not (pt_val (pe_callB call_isi (by rfl) T.b_isinstance (by decide +kernel) (pa_cons (pv 1) (pa_cons (pe_bltn (by rfl) T.b_list (by decide +kernel) rfl) pa_nil))))) (pw_and1 (pt_not (pt_val (pe_callB call_isi (by rfl) T.b_isinstance (by decide +kernel) (pa_cons (pv 1) (pa_cons (pe_bltn (by rfl) T.b_tuple (by decide +kernel) rfl) pa_nil)))))))) (pw_or1 (pt_cmpR op_ne (pe_callB call_len (by rfl) T.b_len (by decide +kernel) (pa_cons (pv 0) pa_nil)) (pe_callB call_len (by rfl) T.b_len (by decide +kernel) (pa_cons (pv 1) pa_nil)) (nomark _))))) (pss_one (ps_ret pe_bl)) pss_nil)
  (pss_cons (ps_for PassesOwn.never rfl (pi_range1 (by rfl) T.b_range (pa_cons (pe_callB call_len (by rfl) T.b_len (by decide +kernel) (pa_cons (pv 1) pa_nil)) pa_nil)) (pg_name (i := 3) sc_l_same.nd rfl (Or.inl rfl)) (pss_one (ps_if (pt_not (pt_val (pe_call ih (hr.mono (by omega)) (by rfl) T.l_same.gl T.l_same.fn.kp T.l_same.bd .nil pass0 (pa_cons (pe_ix ix_seq (pv 0) (pv 3) (fun _ _ => rfl)) (pa_cons (pe_ix ix_seq (pv 1) (pv 3) (fun _ _ => rfl)) pa_nil))))) (pss_one (ps_ret pe_bl)) pss_nil)))
  (pss_one (ps_ret pe_bl)))))))))))
theorem ok_l_copy (T : Txt K mg a) : ∀ n : Nat, FnOk P w K mg base CX0 (n + 1) a.l_copy a.l_copy_d ["_law_value"] (sp_copy n)
  | 0 => fn_false
  | n + 1 => by
    have ih := ok_l_copy T n
    refine T.l_copy.fn.ok sc_l_copy (fun vs H Q E h => ?_) (fun cdv A outer s H vs Q E hr h => ⟨t_l_copy K n, ?_, pure_copy h⟩)
    · repeat' (first | (obtain ⟨e, _⟩ := h; (first | (subst e; rfl) | (rw [e]; rfl))) | (obtain ⟨_, h⟩ := h))
    · exact (pss_cons (ps_if (pt_val (pe_callB call_isi (by rfl) T.b_isinstance (by decide +kernel) (pa_cons (pv 0) (pa_cons (pe_bltn (by rfl) T.b_list (by decide +kernel) rfl) pa_nil)))) (pss_one (ps_ret (pe_lc (own := [("_law_one", 3)]) (g := (gName 3)) (tt := tYes) (by rfl) sc_l_copy.nd (pi_list (pv 0)) (blkOk_by (own := [("_law_one", 3)]) (N := N_l_copy) (sc := defScope s_l_copy) (by decide +kernel)) (fun _ _ _ _ _ => pg_name (i := 3) sc_l_copy.nd rfl (Or.inl rfl)) (fun _ _ _ _ _ => pts_nil) (fun _ _ _ _ _ => (pe_call ih (hr.mono (by omega)) (by rfl) T.l_copy.gl T.l_copy.fn.kp T.l_copy.bd .nil pass0 (pa_cons (pv 3) pa_nil)))))) pss_nil)
  (pss_cons (ps_if (pt_val (pe_callB call_isi (by rfl) T.b_isinstance (by decide +kernel) (pa_cons (pv 0) (pa_cons (pe_bltn (by rfl) T.b_tuple (by decide +kernel) rfl) pa_nil)))) (pss_one (ps_ret (pe_callTy call_tuple_of (by rfl) T.b_tuple (by decide +kernel) (pa_cons (pe_lc (own := [("_law_one", 3)]) (g := (gName 3)) (tt := tYes) (by rfl) sc_l_copy.nd (pi_tup (pv 0)) (blkOk_by (own := [("_law_one", 3)]) (N := N_l_copy) (sc := defScope s_l_copy) (by decide +kernel)) (fun _ _ _ _ _ => pg_name (i := 3) sc_l_copy.nd rfl (Or.inl rfl)) (fun _ _ _ _ _ => pts_nil) (fun _ _ _ _ _ => (pe_call ih (hr.mono (by omega)) (by rfl) T.l_copy.gl T.l_copy.fn.kp T.l_copy.bd .nil pass0 (pa_cons (pv 3) pa_nil)))) pa_nil)))) pss_nil)
  (pss_cons (ps_if (pt_val (pe_callB call_isi (by rfl) T.b_isinstance (by decide +kernel) (pa_cons (pv 0) (pa_cons (pe_bltn (by rfl) T.b_dict (by decide +kernel) rfl) pa_nil)))) (pss_cons (ps_set (i := 1) sc_l_copy.nd rfl (Or.inl rfl) pe_dnewK)
  (pss_cons (ps_for PassesOwn.never rfl (pi_list (pe_callTy (call_listD rfl) (by rfl) T.b_list (by decide +kernel) (pa_cons (pv 0) pa_nil))) (pg_name (i := 2) sc_l_copy.nd rfl (Or.inl rfl)) (pss_one (ps_dput (hu_of hr) (pv 1) (pv 2) (pe_call ih (hr.mono (by omega)) (by rfl) T.l_copy.gl T.l_copy.fn.kp T.l_copy.bd .nil pass0 (pa_cons (pe_dget (hu_of hr) (pv 0) (pv 2) (fun _ _ => rfl)) pa_nil)) rfl)))
  (pss_one (ps_ret (pv 1))))) pss_nil)
  (pss_one (ps_ret (pv 0))))))
theorem ok_l_made_right (T : Txt K mg a) : FnOk P w K mg base CX0 12 a.l_made_right a.l_made_right_d ["_law_one", "_law_two", "_law_three"] (sp_made_right K a.c) := by
  refine T.l_made_right.fn.ok sc_l_made_right (fun vs H Q E h => ?_) (fun cdv A outer s H vs Q E hr h => ⟨t_l_made_right K a.c, ?_, pure_made_right  h⟩)
  · repeat' (first | (obtain ⟨e, _⟩ := h; (first | (subst e; rfl) | (rw [e]; rfl))) | (obtain ⟨_, h⟩ := h))
  · exact (pss_cons (ps_set (i := 3) sc_l_made_right.nd rfl (Or.inl rfl) (pe_mkx (pmk_oex T.bv.ox T.iC T.tI (ok_c_BadValue_init T) (hr.mono (by decide)) T.c_BadValue_init.bd .nil pass0 (by rfl) T.k_BadValue (pa_cons (pv 0) pa_nil))))
  (pss_cons (ps_set (i := 4) sc_l_made_right.nd rfl (Or.inl rfl) (pe_mkx (pmk_oex T.e_Broken.ox T.iC_Broken T.tI_Broken (ok_c_Broken_init T) (hr.mono (by decide)) T.c_Broken_init.bd .nil pass0 (by rfl) T.k_Broken (pa_cons (pv 0) (pa_cons (pv 1) (pa_cons (pv 2) pa_nil))))))
  (pss_cons (ps_set (i := 5) sc_l_made_right.nd rfl (Or.inl rfl) (pe_mkx (pmk_oex T.e_Unknown.ox T.iC_Unknown T.tI_Unknown (ok_c_Unknown_init T) (hr.mono (by decide)) T.c_Unknown_init.bd .nil pass0 (by rfl) T.k_Unknown (pa_cons (pv 1) pa_nil))))
  (pss_cons (ps_set (i := 6) sc_l_made_right.nd rfl (Or.inl rfl) (pe_mkx (pmk_oex T.e_NotHeld.ox T.iC_NotHeld T.tI_NotHeld (ok_c_NotHeld_init T) (hr.mono (by decide)) T.c_NotHeld_init.bd .nil pass0 (by rfl) T.k_NotHeld (pa_cons (pv 1) (pa_cons (pv 0) pa_nil)))))
  (pss_cons (ps_set (i := 7) sc_l_made_right.nd rfl (Or.inl rfl) (pe_mkx (pmk_oex T.e_Fault.ox T.iC_Fault T.tI_Fault (ok_c_Fault_init T) (hr.mono (by decide)) T.c_Fault_init.bd .nil pass0 (by rfl) T.k_Fault (pa_cons (pv 0) (pa_cons (pv 2) pa_nil)))))
  (pss_cons (ps_set (i := 8) sc_l_made_right.nd rfl (Or.inl rfl) (pe_mkx (pmk_oex T.e_NoRoom.ox T.iC_NoRoom T.tI_NoRoom (ok_c_NoRoom_init T) (hr.mono (by decide)) T.c_NoRoom_init.bd .nil pass0 (by rfl) T.k_NoRoom (pa_cons (pv 2) pa_nil))))
  (pss_cons (ps_set (i := 9) sc_l_made_right.nd rfl (Or.inl rfl) (pe_mkx (pmk_oex T.e_Cut.ox T.iC_Cut T.tI_Cut (ok_c_Cut_init T) (hr.mono (by decide)) T.c_Cut_init.bd .nil pass0 (by rfl) T.k_Cut (pa_cons (pv 2) (pa_cons (pv 1) pa_nil)))))
  (pss_cons (ps_set (i := 10) sc_l_made_right.nd rfl (Or.inl rfl) (pe_mkx (pmk_oex T.e_BadLine.ox T.iC_BadLine T.tI_BadLine (ok_c_BadLine_init T) (hr.mono (by decide)) T.c_BadLine_init.bd .nil pass0 (by rfl) T.k_BadLine (pa_cons (pv 1) (pa_cons (pv 2) pa_nil)))))
  (pss_cons (ps_set (i := 11) sc_l_made_right.nd rfl (Or.inl rfl) (pe_lst (pa_cons (pv 3) (pa_cons (pv 4) (pa_cons (pv 5) (pa_cons (pv 6) (pa_cons (pv 7) (pa_cons (pv 8) (pa_cons (pv 9) (pa_cons (pv 10) pa_nil))))))))))
  (pss_cons (ps_set (i := 12) sc_l_made_right.nd rfl (Or.inl rfl) (pe_lst (pa_cons (pe_tup (pa_cons (pe_xt (pv 3)) pa_nil)) (pa_cons (pe_tup (pa_cons (pe_xt (pv 4)) (pa_cons (pe_xt (pv 4)) (pa_cons (pe_xt (pv 4)) pa_nil)))) (pa_cons (pe_tup (pa_cons (pe_xt (pv 5)) pa_nil)) pa_nil)))))
  (pss_cons (ps_set (i := 12) sc_l_made_right.nd rfl (Or.inl rfl) (pe_op op_cat (pv 12) (pe_lst (pa_cons (pe_tup (pa_cons (pe_xt (pv 6)) (pa_cons (pe_xt (pv 6)) pa_nil))) (pa_cons (pe_tup (pa_cons (pe_xt (pv 7)) (pa_cons (pe_xt (pv 7)) pa_nil))) (pa_cons (pe_tup (pa_cons (pe_xt (pv 8)) pa_nil)) (pa_cons (pe_tup (pa_cons (pe_xt (pv 9)) (pa_cons (pe_xt (pv 9)) pa_nil))) pa_nil)))))))
  (pss_cons (ps_set (i := 12) sc_l_made_right.nd rfl (Or.inl rfl) (pe_op op_cat (pv 12) (pe_lst (pa_cons (pe_tup (pa_cons (pe_xt (pv 10)) (pa_cons (pe_xt (pv 10)) pa_nil))) pa_nil))))
  (pss_cons (ps_set (i := 13) sc_l_made_right.nd rfl (Or.inl rfl) (pe_lst (pa_cons (pe_tup (pa_cons (pv 0) pa_nil)) (pa_cons (pe_tup (pa_cons (pv 0) (pa_cons (pv 1) (pa_cons (pv 2) pa_nil)))) (pa_cons (pe_tup (pa_cons (pv 1) pa_nil)) (pa_cons (pe_tup (pa_cons (pv 1) (pa_cons (pv 0) pa_nil))) (pa_cons (pe_tup (pa_cons (pv 0) (pa_cons (pv 2) pa_nil))) (pa_cons (pe_tup (pa_cons (pv 2) pa_nil)) (pa_cons (pe_tup (pa_cons (pv 2) (pa_cons (pv 1) pa_nil))) (pa_cons (pe_tup (pa_cons (pv 1) (pa_cons (pv 2) pa_nil))) pa_nil))))))))))
  (pss_cons (ps_set (i := 14) sc_l_made_right.nd rfl (Or.inl rfl) (pe_lst (pa_cons pe_str (pa_cons pe_str (pa_cons pe_str (pa_cons pe_str (pa_cons pe_str (pa_cons pe_str (pa_cons pe_str (pa_cons pe_str pa_nil))))))))))
  (pss_cons (ps_for PassesOwn.never rfl (pi_range1 (by rfl) T.b_range (pa_cons pe_int pa_nil)) (pg_name (i := 15) sc_l_made_right.nd rfl (Or.inl rfl)) (pss_one (ps_if (pt_not (pt_val (pe_call (ok_l_same T 10) (hr.mono (by decide)) (by rfl) T.l_same.gl T.l_same.fn.kp T.l_same.bd .nil pass0 (pa_cons (pe_lst (pa_cons pe_str (pa_cons (pe_xt (pe_ix ix_list (pv 11) (pv 15) (fun _ _ => rfl))) (pa_cons (pe_ix ix_list (pv 12) (pv 15) (fun _ _ => rfl)) (pa_cons (pe_call (FnU.ok (ok_l_kinds T)) (hr.mono (by decide)) (by rfl) T.l_kinds.gl T.l_kinds.fn.kp T.l_kinds.bd .nil pass0 (pa_cons (pe_ix ix_list (pv 11) (pv 15) (fun _ _ => rfl)) pa_nil)) pa_nil))))) (pa_cons (pe_call (ok_l_refused T) (hr.mono (by decide)) (by rfl) T.l_refused.gl T.l_refused.fn.kp T.l_refused.bd .nil pass0 (pa_cons (pe_ix ix_list (pv 14) (pv 15) (fun _ _ => rfl)) (pa_cons (pe_ix ix_list (pv 13) (pv 15) (fun _ _ => rfl)) pa_nil))) pa_nil))))) (pss_one (ps_ret pe_bl)) pss_nil)))
  (pss_one (ps_ret pe_bl)))))))))))))))))
theorem ok_l_numbers_right (T : Txt K mg a) : FnOk P w K mg base CX0 12 a.l_numbers_right a.l_numbers_right_d [] sp_numbers_right := by
  refine T.l_numbers_right.fn.ok sc_l_numbers_right (fun vs H Q E h => ?_) (fun cdv A outer s H vs Q E hr h => ⟨t_l_numbers_right K, ?_, pure_numbers_right  h⟩)
  · repeat' (first | (obtain ⟨e, _⟩ := h; (first | (subst e; rfl) | (rw [e]; rfl))) | (obtain ⟨_, h⟩ := h))
  · exact (pss_cons (ps_set (i := 0) sc_l_numbers_right.nd rfl (Or.inl rfl) (pe_lst (pa_cons (pe_glob (by rfl) T.g_MOST_WORD T.r_MOST_WORD) (pa_cons (pe_glob (by rfl) T.g_NOBODY T.r_NOBODY) (pa_cons (pe_glob (by rfl) T.g_MAP T.r_MAP) (pa_cons (pe_glob (by rfl) T.g_SLAB T.r_SLAB) (pa_cons (pe_glob (by rfl) T.g_EXTENT T.r_EXTENT) (pa_cons (pe_glob (by rfl) T.g_HEAP T.r_HEAP) (pa_cons (pe_glob (by rfl) T.g_REGION T.r_REGION) (pa_cons (pe_glob (by rfl) T.g_HANDLE T.r_HANDLE) (pa_cons (pe_glob (by rfl) T.g_MAPPED T.r_MAPPED) (pa_cons (pe_glob (by rfl) T.g_NODE T.r_NODE) (pa_cons (pe_glob (by rfl) T.g_MAGIC T.r_MAGIC) (pa_cons (pe_glob (by rfl) T.g_RED T.r_RED) (pa_cons (pe_glob (by rfl) T.g_POISON T.r_POISON) pa_nil)))))))))))))))
  (pss_one (ps_ret (pe_call (ok_l_same T 10) (hr.mono (by decide)) (by rfl) T.l_same.gl T.l_same.fn.kp T.l_same.bd .nil pass0 (pa_cons (pv 0) (pa_cons (pe_lst (pa_cons pe_int (pa_cons pe_int (pa_cons pe_int (pa_cons pe_int (pa_cons pe_int (pa_cons pe_int (pa_cons pe_int (pa_cons pe_int (pa_cons pe_int (pa_cons pe_int (pa_cons pe_int (pa_cons pe_int (pa_cons pe_int pa_nil)))))))))))))) pa_nil))))))
theorem ok_l_judged_right (T : Txt K mg a) : FnOk P w K mg base CX0 12 a.l_judged_right a.l_judged_right_d ["_law_values"] (sp_judged00 K) := by
  refine T.l_judged_right.fn.ok sc_l_judged_right (fun vs H Q E h => ?_) (fun cdv A outer s H vs Q E hr h => ⟨t_l_judged_right K, ?_, pure_judged00  h⟩)
  · repeat' (first | (obtain ⟨e, _⟩ := h; (first | (subst e; rfl) | (rw [e]; rfl))) | (obtain ⟨_, h⟩ := h))
  · exact (pss_cons (ps_for PassesOwn.never rfl (pi_list (pv 0)) (pg_name (i := 1) sc_l_judged_right.nd rfl (Or.inl rfl)) (pss_cons (ps_set (i := 2) sc_l_judged_right.nd rfl (Or.inl rfl) (pe_call (ok_l_copy T 10) (hr.mono (by decide)) (by rfl) T.l_copy.gl T.l_copy.fn.kp T.l_copy.bd .nil pass0 (pa_cons (pv 1) pa_nil)))
  (pss_cons (ps_if (pt_not (pt_val (pe_call (ok_l_same T 10) (hr.mono (by decide)) (by rfl) T.l_same.gl T.l_same.fn.kp T.l_same.bd .nil pass0 (pa_cons (pe_call (ok_p_is_power T) (hr.mono (by decide)) (by rfl) T.p_is_power.gl T.p_is_power.fn.kp T.p_is_power.bd .nil pass0 (pa_cons (pv 1) pa_nil)) (pa_cons (pe_call (ok_l_is_power_due T) (hr.mono (by decide)) (by rfl) T.l_is_power_due.gl T.l_is_power_due.fn.kp T.l_is_power_due.bd .nil pass0 (pa_cons (pv 2) pa_nil)) pa_nil))))) (pss_one (ps_ret pe_bl)) pss_nil)
  (pss_one (ps_if (PW.pt (pw_or (pt_not (pt_val (pe_call (ok_l_same T 10) (hr.mono (by decide)) (by rfl) T.l_same.gl T.l_same.fn.kp T.l_same.bd .nil pass0 (pa_cons (pe_call (ok_p_is_whole T) (hr.mono (by decide)) (by rfl) T.p_is_whole.gl T.p_is_whole.fn.kp T.p_is_whole.bd .nil pass0 (pa_cons (pv 1) pa_nil)) (pa_cons (pe_call (ok_l_is_int T) (hr.mono (by decide)) (by rfl) T.l_is_int.gl T.l_is_int.fn.kp T.l_is_int.bd .nil pass0 (pa_cons (pv 2) pa_nil)) pa_nil))))) (pw_or1 (pt_not (pt_val (pe_call (ok_l_same T 10) (hr.mono (by decide)) (by rfl) T.l_same.gl T.l_same.fn.kp T.l_same.bd .nil pass0 (pa_cons (pv 1) (pa_cons (pv 2) pa_nil)))))))) (pss_one (ps_ret pe_bl)) pss_nil)))))
  (pss_one (ps_ret pe_bl)))
theorem ok_l_refused_right (T : Txt K mg a) : FnOk P w K mg base CX0 12 a.l_refused_right a.l_refused_right_d ["_law_draws_here", "_law_number_here", "_law_alignment_here"] (sp_refused00 K a.c) := by
  refine T.l_refused_right.fn.ok sc_l_refused_right (fun vs H Q E h => ?_) (fun cdv A outer s H vs Q E hr h => ⟨t_l_refused_right K a.c, ?_, pure_refused00  h⟩)
  · repeat' (first | (obtain ⟨e, _⟩ := h; (first | (subst e; rfl) | (rw [e]; rfl))) | (obtain ⟨_, h⟩ := h))
  · exact (pss_cons (ps_set (i := 3) sc_l_refused_right.nd rfl (Or.inl rfl) (pe_call (ok_l_not_within T) (hr.mono (by decide)) (by rfl) T.l_not_within.gl T.l_not_within.fn.kp T.l_not_within.bd .nil pass0 (pa_cons (pv 0) (pa_cons pe_int (pa_cons (pe_op op_pow pe_int pe_int) pa_nil)))))
  (pss_cons (ps_set (i := 4) sc_l_refused_right.nd rfl (Or.inl rfl) (pe_call (ok_l_not_alignment T) (hr.mono (by decide)) (by rfl) T.l_not_alignment.gl T.l_not_alignment.fn.kp T.l_not_alignment.bd .nil pass0 (pa_cons (pv 0) (pa_cons (pe_op op_pow pe_int pe_int) pa_nil))))
  (pss_cons (ps_set (i := 5) sc_l_refused_right.nd rfl (Or.inl rfl) (pe_call (ok_l_not_within T) (hr.mono (by decide)) (by rfl) T.l_not_within.gl T.l_not_within.fn.kp T.l_not_within.bd .nil pass0 (pa_cons (pv 0) (pa_cons pe_int (pa_cons (pe_op op_pow pe_int pe_int) pa_nil)))))
  (pss_cons (ps_set (i := 6) sc_l_refused_right.nd rfl (Or.inl rfl) (pe_call (ok_l_copy T 10) (hr.mono (by decide)) (by rfl) T.l_copy.gl T.l_copy.fn.kp T.l_copy.bd .nil pass0 (pa_cons (pe_lst (pa_cons (pv 3) (pa_cons (pv 4) (pa_cons (pv 5) pa_nil)))) pa_nil)))
  (pss_cons (ps_for PassesOwn.never rfl (pi_list (pe_lst (pa_cons pe_str (pa_cons pe_str pa_nil)))) (pg_name (i := 7) sc_l_refused_right.nd rfl (Or.inl rfl)) (pss_cons (ps_if (pt_not (pt_val (pe_call (ok_l_same T 10) (hr.mono (by decide)) (by rfl) T.l_same.gl T.l_same.fn.kp T.l_same.bd .nil pass0 (pa_cons (pe_call (ok_l_asked T) (hr.mono (by decide)) (by rfl) T.l_asked.gl T.l_asked.fn.kp T.l_asked.bd .nil pass0 (pa_cons (pv 7) (pa_cons (pv 3) (pa_cons (pv 2) pa_nil)))) (pa_cons (pe_call (ok_l_refused T) (hr.mono (by decide)) (by rfl) T.l_refused.gl T.l_refused.fn.kp T.l_refused.bd .nil pass0 (pa_cons pe_str (pa_cons (pe_tup (pa_cons pe_str pa_nil)) pa_nil))) pa_nil))))) (pss_one (ps_ret pe_bl)) pss_nil)
  (pss_cons (ps_if (pt_not (pt_val (pe_call (ok_l_same T 10) (hr.mono (by decide)) (by rfl) T.l_same.gl T.l_same.fn.kp T.l_same.bd .nil pass0 (pa_cons (pe_call (ok_l_asked T) (hr.mono (by decide)) (by rfl) T.l_asked.gl T.l_asked.fn.kp T.l_asked.bd .nil pass0 (pa_cons (pv 7) (pa_cons (pv 1) (pa_cons (pv 4) pa_nil)))) (pa_cons (pe_call (ok_l_refused T) (hr.mono (by decide)) (by rfl) T.l_refused.gl T.l_refused.fn.kp T.l_refused.bd .nil pass0 (pa_cons pe_str (pa_cons (pe_tup (pa_cons pe_str pa_nil)) pa_nil))) pa_nil))))) (pss_one (ps_ret pe_bl)) pss_nil)
  (pss_one (ps_if (pt_not (pt_val (pe_call (ok_l_same T 10) (hr.mono (by decide)) (by rfl) T.l_same.gl T.l_same.fn.kp T.l_same.bd .nil pass0 (pa_cons (pe_call (ok_l_asked T) (hr.mono (by decide)) (by rfl) T.l_asked.gl T.l_asked.fn.kp T.l_asked.bd .nil pass0 (pa_cons (pv 7) (pa_cons (pv 3) (pa_cons (pv 4) pa_nil)))) (pa_cons (pe_call (ok_l_refused T) (hr.mono (by decide)) (by rfl) T.l_refused.gl T.l_refused.fn.kp T.l_refused.bd .nil pass0 (pa_cons pe_str (pa_cons (pe_tup (pa_cons pe_str pa_nil)) pa_nil))) pa_nil))))) (pss_one (ps_ret pe_bl)) pss_nil)))))
  (pss_cons (ps_if (pt_not (pt_val (pe_call (ok_l_same T 10) (hr.mono (by decide)) (by rfl) T.l_same.gl T.l_same.fn.kp T.l_same.bd .nil pass0 (pa_cons (pe_call (ok_l_asked T) (hr.mono (by decide)) (by rfl) T.l_asked.gl T.l_asked.fn.kp T.l_asked.bd .nil pass0 (pa_cons pe_str (pa_cons (pv 5) (pa_cons pe_non pa_nil)))) (pa_cons (pe_call (ok_l_refused T) (hr.mono (by decide)) (by rfl) T.l_refused.gl T.l_refused.fn.kp T.l_refused.bd .nil pass0 (pa_cons pe_str (pa_cons (pe_tup (pa_cons pe_str pa_nil)) pa_nil))) pa_nil))))) (pss_one (ps_ret pe_bl)) pss_nil)
  (pss_cons (ps_if (pt_not (pt_val (pe_call (ok_l_same T 10) (hr.mono (by decide)) (by rfl) T.l_same.gl T.l_same.fn.kp T.l_same.bd .nil pass0 (pa_cons (pe_call (ok_l_asked T) (hr.mono (by decide)) (by rfl) T.l_asked.gl T.l_asked.fn.kp T.l_asked.bd .nil pass0 (pa_cons pe_str (pa_cons (pv 5) (pa_cons pe_non pa_nil)))) (pa_cons (pe_call (ok_l_refused T) (hr.mono (by decide)) (by rfl) T.l_refused.gl T.l_refused.fn.kp T.l_refused.bd .nil pass0 (pa_cons pe_str (pa_cons (pe_tup (pa_cons pe_str pa_nil)) pa_nil))) pa_nil))))) (pss_one (ps_ret pe_bl)) pss_nil)
  (pss_one (ps_ret (pe_call (ok_l_same T 10) (hr.mono (by decide)) (by rfl) T.l_same.gl T.l_same.fn.kp T.l_same.bd .nil pass0 (pa_cons (pe_lst (pa_cons (pv 3) (pa_cons (pv 4) (pa_cons (pv 5) pa_nil)))) (pa_cons (pv 6) pa_nil))))))))))))
theorem ok_l_plain (T : Txt K mg a) : ∀ n : Nat, FnOk P w K mg base CX0 (n + 10) a.l_plain a.l_plain_d ["_law_draws_here", "_law_deep"] (sp_plain n)
  | 0 => fn_false
  | n + 1 => by
    have ih := ok_l_plain T n
    refine T.l_plain.fn.ok sc_l_plain (fun vs H Q E h => ?_) (fun cdv A outer s H vs Q E hr h => ⟨t_l_plain K n, ?_, pure_plain h⟩)
    · repeat' (first | (obtain ⟨e, _⟩ := h; (first | (subst e; rfl) | (rw [e]; rfl))) | (obtain ⟨_, h⟩ := h))
    · exact (pss_cons (ps_set (i := 2) sc_l_plain.nd rfl (Or.inl rfl) (pe_call (ok_l_take T) (hr.mono (by omega)) (by rfl) T.l_take.gl T.l_take.fn.kp T.l_take.bd .nil pass0 (pa_cons (pv 0) (pa_cons pe_int pa_nil))))
  (pss_cons (ps_if (pt_cmpR op_eq (pv 2) pe_int (nomark _)) (pss_one (ps_ret pe_non)) pss_nil)
  (pss_cons (ps_if (pt_cmpR op_eq (pv 2) pe_int (nomark _)) (pss_one (ps_ret (pe_cmpR op_eq (pe_call (ok_l_take T) (hr.mono (by omega)) (by rfl) T.l_take.gl T.l_take.fn.kp T.l_take.bd .nil pass0 (pa_cons (pv 0) (pa_cons pe_int pa_nil))) pe_int (nomark _)))) pss_nil)
  (pss_cons (ps_if (pt_cmpR op_lt (pv 2) pe_int (nomark _)) (pss_one (ps_ret (pe_call (ok_l_integer T) (hr.mono (by omega)) (by rfl) T.l_integer.gl T.l_integer.fn.kp T.l_integer.bd .nil pass0 (pa_cons (pv 0) pa_nil)))) pss_nil)
  (pss_cons (ps_if (pt_cmpR op_eq (pv 2) pe_int (nomark _)) (pss_one (ps_ret (pe_call (ok_l_text T) (hr.mono (by omega)) (by rfl) T.l_text.gl T.l_text.fn.kp T.l_text.bd .nil pass0 (pa_cons (pv 0) (pa_cons pe_int pa_nil))))) pss_nil)
  (pss_cons (ps_set (i := 3) sc_l_plain.nd rfl (Or.inl rfl) (pe_lst pa_nil))
  (pss_cons (ps_if (pt_cmpR op_gt (pv 1) pe_int (nomark _)) (pss_one (ps_setLc (i := 3) (own := [("_law_k", 4)]) (g := (gName 4)) (tt := tYes) (by rfl) sc_l_plain.nd rfl rfl (sw_true rfl rfl rfl (by decide +kernel)) (pi_range1 (by rfl) T.b_range (pa_cons (pe_call (ok_l_take T) (hr.mono (by omega)) (by rfl) T.l_take.gl T.l_take.fn.kp T.l_take.bd .nil pass0 (pa_cons (pv 0) (pa_cons pe_int pa_nil))) pa_nil)) (blkOk_by (own := [("_law_k", 4)]) (N := N_l_plain) (sc := defScope s_l_plain) (by decide +kernel)) (fun _ _ _ _ _ => pg_name (i := 4) sc_l_plain.nd rfl (Or.inl rfl)) (fun _ _ _ _ _ => pts_nil) (fun _ _ _ _ _ => (pe_call ih (hr.mono (by omega)) (by rfl) T.l_plain.gl T.l_plain.fn.kp T.l_plain.bd .nil pass0 (pa_cons (pv 0) (pa_cons (pe_op op_sub (pv 1) pe_int) pa_nil)))))) pss_nil)
  (pss_cons (ps_if (pt_cmpR op_lt (pv 2) pe_int (nomark _)) (pss_one (ps_ret (pe_callTy call_tuple_of (by rfl) T.b_tuple (by decide +kernel) (pa_cons (pv 3) pa_nil)))) pss_nil)
  (pss_cons (ps_if (pt_cmpR op_eq (pv 2) pe_int (nomark _)) (pss_one (ps_ret (pv 3))) pss_nil)
  (pss_one (ps_ret (pe_disp (pps_cons pe_str (pv 3) pps_nil) (by rfl) (by rfl) (fun z => by cases z) (by decide)))))))))))))
theorem ok_l_law (T : Txt K mg a) : FnOk P w K mg base CX0 14 a.l_law a.l_law_d ["_law_script"] (sp_law00 K a.c) := by
  refine T.l_law.fn.ok sc_l_law (fun vs H Q E h => ?_) (fun cdv A outer s H vs Q E hr h => ⟨t_l_law K a.c, ?_, pure_law00  h⟩)
  · repeat' (first | (obtain ⟨e, _⟩ := h; (first | (subst e; rfl) | (rw [e]; rfl))) | (obtain ⟨_, h⟩ := h))
  · exact (pss_cons (ps_set (i := 1) sc_l_law.nd rfl (Or.inr rfl) (pe_call (ok_l_draws T) (hr.mono (by decide)) (by rfl) T.l_draws.gl T.l_draws.fn.kp T.l_draws.bd .nil pass0 (pa_cons (pv 0) pa_nil)))
  (pss_cons (ps_set (i := 2) sc_l_law.nd rfl (Or.inl rfl) (pe_call (ok_l_number T) (hr.mono (by decide)) (by rfl) T.l_number.gl T.l_number.fn.kp T.l_number.bd .nil pass0 (pa_cons (pv 1) (pa_cons pe_int (pa_cons (pe_op op_pow pe_int pe_int) pa_nil)))))
  (pss_cons (ps_set (i := 3) sc_l_law.nd rfl (Or.inl rfl) (pe_call (ok_l_alignment T) (hr.mono (by decide)) (by rfl) T.l_alignment.gl T.l_alignment.fn.kp T.l_alignment.bd .nil pass0 (pa_cons (pv 1) (pa_cons pe_int pa_nil))))
  (pss_cons (ps_if (pt_cmpR op_eq (pe_call (ok_l_take T) (hr.mono (by decide)) (by rfl) T.l_take.gl T.l_take.fn.kp T.l_take.bd .nil pass0 (pa_cons (pv 1) (pa_cons pe_int pa_nil))) pe_int (nomark _)) (pss_cons (ps_set (i := 2) sc_l_law.nd rfl (Or.inl rfl) (pe_op op_sub (pe_op op_add (pe_op op_mul (pv 3) (pe_call (ok_l_take T) (hr.mono (by decide)) (by rfl) T.l_take.gl T.l_take.fn.kp T.l_take.bd .nil pass0 (pa_cons (pv 1) (pa_cons (pe_op op_add (pe_op op_fdivW (pe_op op_pow pe_int pe_int) (pv 3)) pe_int) pa_nil)))) (pe_call (ok_l_take T) (hr.mono (by decide)) (by rfl) T.l_take.gl T.l_take.fn.kp T.l_take.bd .nil pass0 (pa_cons (pv 1) (pa_cons pe_int pa_nil)))) pe_int))
  (pss_one (ps_set (i := 2) sc_l_law.nd rfl (Or.inl rfl) (pe_callB (call_max2 rfl) (by rfl) T.b_max (by decide +kernel) (pa_cons pe_int (pa_cons (pe_callB (call_min2 rfl) (by rfl) T.b_min (by decide +kernel) (pa_cons (pe_op op_pow pe_int pe_int) (pa_cons (pv 2) pa_nil))) pa_nil)))))) pss_nil)
  (pss_cons (ps_set (i := 4) sc_l_law.nd rfl (Or.inl rfl) (pe_call (ok_l_number T) (hr.mono (by decide)) (by rfl) T.l_number.gl T.l_number.fn.kp T.l_number.bd .nil pass0 (pa_cons (pv 1) (pa_cons pe_int (pa_cons (pe_op op_pow pe_int pe_int) pa_nil)))))
  (pss_cons (ps_if (pt_not (pt_val (pe_call (ok_l_aligned_right T) (hr.mono (by decide)) (by rfl) T.l_aligned_right.gl T.l_aligned_right.fn.kp T.l_aligned_right.bd .nil pass0 (pa_cons (pv 2) (pa_cons (pv 3) pa_nil))))) (pss_one (ps_ret pe_bl)) pss_nil)
  (pss_cons (ps_for PassesOwn.never rfl (pi_list (pe_lst (pa_cons (pv 4) (pa_cons (pe_callB (call_max2 rfl) (by rfl) T.b_max (by decide +kernel) (pa_cons pe_int (pa_cons (pv 2) pa_nil))) (pa_cons pe_int (pa_cons (pe_op op_pow pe_int pe_int) pa_nil)))))) (pg_name (i := 5) sc_l_law.nd rfl (Or.inl rfl)) (pss_one (ps_if (PW.pt (pw_or (pt_not (pt_val (pe_call (ok_l_order_right T) (hr.mono (by decide)) (by rfl) T.l_order_right.gl T.l_order_right.fn.kp T.l_order_right.bd .nil pass0 (pa_cons (pv 5) pa_nil)))) (pw_or1 (pt_not (pt_val (pe_call (ok_l_factor_right T) (hr.mono (by decide)) (by rfl) T.l_factor_right.gl T.l_factor_right.fn.kp T.l_factor_right.bd .nil pass0 (pa_cons (pv 5) pa_nil))))))) (pss_one (ps_ret pe_bl)) pss_nil)))
  (pss_cons (ps_set (i := 6) sc_l_law.nd rfl (Or.inl rfl) (pe_op op_add (pe_call (ok_l_great_power T) (hr.mono (by decide)) (by rfl) T.l_great_power.gl T.l_great_power.fn.kp T.l_great_power.bd .nil pass0 (pa_cons (pv 1) pa_nil)) (pe_op op_fdivW (pe_call (ok_l_take T) (hr.mono (by decide)) (by rfl) T.l_take.gl T.l_take.fn.kp T.l_take.bd .nil pass0 (pa_cons (pv 1) (pa_cons pe_int pa_nil))) pe_int)))
  (pss_cons (ps_set (i := 7) sc_l_law.nd rfl (Or.inl rfl) (pe_lst (pa_cons (pv 2) (pa_cons (pv 3) (pa_cons (pe_un un_neg (pv 3)) (pa_cons (pv 6) (pa_cons (pe_op op_sub (pv 6) pe_int) (pa_cons (pe_un un_neg (pv 6)) pa_nil))))))))
  (pss_cons (ps_if (pt_not (pt_val (pe_call (ok_l_judged_right T) (hr.mono (by decide)) (by rfl) T.l_judged_right.gl T.l_judged_right.fn.kp T.l_judged_right.bd .nil pass0 (pa_cons (pe_op op_cat (pv 7) (pe_lc (own := [("_law_k", 8)]) (g := (gName 8)) (tt := tYes) (by rfl) sc_l_law.nd (pi_range1 (by rfl) T.b_range (pa_cons pe_int pa_nil)) (blkOk_by (own := [("_law_k", 8)]) (N := N_l_law) (sc := defScope s_l_law) (by decide +kernel)) (fun _ _ _ _ _ => pg_name (i := 8) sc_l_law.nd rfl (Or.inl rfl)) (fun _ _ _ _ _ => pts_nil) (fun _ _ _ _ _ => (pe_call (ok_l_plain T 3) (hr.mono (by decide)) (by rfl) T.l_plain.gl T.l_plain.fn.kp T.l_plain.bd .nil pass0 (pa_cons (pv 1) (pa_cons pe_int pa_nil)))))) pa_nil)))) (pss_one (ps_ret pe_bl)) pss_nil)
  (pss_cons (ps_if (PW.pt (pw_or (pt_not (pt_val (pe_call (ok_l_refused_right T) (hr.mono (by decide)) (by rfl) T.l_refused_right.gl T.l_refused_right.fn.kp T.l_refused_right.bd .nil pass0 (pa_cons (pv 1) (pa_cons (pv 2) (pa_cons (pv 3) pa_nil)))))) (pw_or1 (pt_not (pt_val (pe_call0 (ok_l_numbers_right T) (hr.mono (by decide)) (by rfl) T.l_numbers_right.gl T.l_numbers_right.fn.kp T.l_numbers_right.bd .nil pass0)))))) (pss_one (ps_ret pe_bl)) pss_nil)
  (pss_cons (ps_if (pt_not (pt_val (pe_call (ok_l_made_right T) (hr.mono (by decide)) (by rfl) T.l_made_right.gl T.l_made_right.fn.kp T.l_made_right.bd .nil pass0 (pa_cons (pe_call (ok_l_plain T 3) (hr.mono (by decide)) (by rfl) T.l_plain.gl T.l_plain.fn.kp T.l_plain.bd .nil pass0 (pa_cons (pv 1) (pa_cons pe_int pa_nil))) (pa_cons (pv 2) (pa_cons (pe_call (ok_l_plain T 3) (hr.mono (by decide)) (by rfl) T.l_plain.gl T.l_plain.fn.kp T.l_plain.bd .nil pass0 (pa_cons (pv 1) (pa_cons pe_int pa_nil))) pa_nil)))))) (pss_one (ps_ret pe_bl)) pss_nil)
  (pss_one (ps_ret (pe_and (pe_call (ok_l_aligned_right T) (hr.mono (by decide)) (by rfl) T.l_aligned_right.gl T.l_aligned_right.fn.kp T.l_aligned_right.bd .nil pass0 (pa_cons (pv 2) (pa_cons (pv 3) pa_nil))) (pe_and (pe_call (ok_l_aligned_right T) (hr.mono (by decide)) (by rfl) T.l_aligned_right.gl T.l_aligned_right.fn.kp T.l_aligned_right.bd .nil pass0 (pa_cons (pe_op op_pow pe_int pe_int) (pa_cons (pv 3) pa_nil))) (pe_one (pe_call (ok_l_order_right T) (hr.mono (by decide)) (by rfl) T.l_order_right.gl T.l_order_right.fn.kp T.l_order_right.bd .nil pass0 (pa_cons (pv 4) pa_nil)))))))))))))))))))
end
/-- the facts of the top, gathered -/
theorem all_mk {P : Program} {w : World} {K : PySem.W.Frag} {h : Heap} {mg : Str → Option Value} {fa : Addr} (X : K.In h) (G : h.Ns mainGlobals mg) (hfa : mg "law" = some (.ref fa))
    {C_StoreError C_BadValue C_Broken C_Unknown C_NotHeld C_Fault C_NoRoom C_Cut C_BadLine f_c_BadValue_init f_c_Broken_init f_c_Unknown_init f_c_NotHeld_init f_c_Fault_init f_c_NoRoom_init f_c_Cut_init f_c_BadLine_init f_p_is_whole f_p_whole_between f_p_is_power f_p_is_align f_p_align_up f_p_align_down f_p_order_of f_p_power_in f_l_draws f_l_next_cell f_l_mixed f_l_take f_l_among f_l_between f_l_number f_l_alignment f_l_power f_l_long f_l_integer f_l_chars f_l_text f_l_plain f_l_not_integer f_l_not_within f_l_not_alignment f_l_is_int f_l_is_within f_l_same f_l_copy f_l_kinds f_l_refused f_l_made_right f_l_numbers_right f_l_asked f_l_aligned_right f_l_order_right f_l_factor_right f_l_great_power f_l_is_power_due f_l_judged_right f_l_refused_right f_l_law : Addr}
    {oc_c_BadValue_init kV_c_BadValue_init dc_c_BadValue_init pm_c_BadValue_init cd_c_BadValue_init ct_c_BadValue_init oc_c_Broken_init kV_c_Broken_init dc_c_Broken_init pm_c_Broken_init cd_c_Broken_init ct_c_Broken_init oc_c_Unknown_init kV_c_Unknown_init dc_c_Unknown_init pm_c_Unknown_init cd_c_Unknown_init ct_c_Unknown_init oc_c_NotHeld_init kV_c_NotHeld_init dc_c_NotHeld_init pm_c_NotHeld_init cd_c_NotHeld_init ct_c_NotHeld_init oc_c_Fault_init kV_c_Fault_init dc_c_Fault_init pm_c_Fault_init cd_c_Fault_init ct_c_Fault_init oc_c_NoRoom_init kV_c_NoRoom_init dc_c_NoRoom_init pm_c_NoRoom_init cd_c_NoRoom_init ct_c_NoRoom_init oc_c_Cut_init kV_c_Cut_init dc_c_Cut_init pm_c_Cut_init cd_c_Cut_init ct_c_Cut_init oc_c_BadLine_init kV_c_BadLine_init dc_c_BadLine_init pm_c_BadLine_init cd_c_BadLine_init ct_c_BadLine_init oc_p_is_whole kV_p_is_whole dc_p_is_whole pm_p_is_whole cd_p_is_whole ct_p_is_whole oc_p_whole_between kV_p_whole_between dc_p_whole_between pm_p_whole_between cd_p_whole_between ct_p_whole_between oc_p_is_power kV_p_is_power dc_p_is_power pm_p_is_power cd_p_is_power ct_p_is_power oc_p_is_align kV_p_is_align dc_p_is_align pm_p_is_align cd_p_is_align ct_p_is_align oc_p_align_up kV_p_align_up dc_p_align_up pm_p_align_up cd_p_align_up ct_p_align_up oc_p_align_down kV_p_align_down dc_p_align_down pm_p_align_down cd_p_align_down ct_p_align_down oc_p_order_of kV_p_order_of dc_p_order_of pm_p_order_of cd_p_order_of ct_p_order_of oc_p_power_in kV_p_power_in dc_p_power_in pm_p_power_in cd_p_power_in ct_p_power_in oc_l_draws kV_l_draws dc_l_draws pm_l_draws cd_l_draws ct_l_draws oc_l_next_cell kV_l_next_cell dc_l_next_cell pm_l_next_cell cd_l_next_cell ct_l_next_cell oc_l_mixed kV_l_mixed dc_l_mixed pm_l_mixed cd_l_mixed ct_l_mixed oc_l_take kV_l_take dc_l_take pm_l_take cd_l_take ct_l_take oc_l_among kV_l_among dc_l_among pm_l_among cd_l_among ct_l_among oc_l_between kV_l_between dc_l_between pm_l_between cd_l_between ct_l_between oc_l_number kV_l_number dc_l_number pm_l_number cd_l_number ct_l_number oc_l_alignment kV_l_alignment dc_l_alignment pm_l_alignment cd_l_alignment ct_l_alignment oc_l_power kV_l_power dc_l_power pm_l_power cd_l_power ct_l_power oc_l_long kV_l_long dc_l_long pm_l_long cd_l_long ct_l_long oc_l_integer kV_l_integer dc_l_integer pm_l_integer cd_l_integer ct_l_integer oc_l_chars kV_l_chars dc_l_chars pm_l_chars cd_l_chars ct_l_chars oc_l_text kV_l_text dc_l_text pm_l_text cd_l_text ct_l_text oc_l_plain kV_l_plain dc_l_plain pm_l_plain cd_l_plain ct_l_plain oc_l_not_integer kV_l_not_integer dc_l_not_integer pm_l_not_integer cd_l_not_integer ct_l_not_integer oc_l_not_within kV_l_not_within dc_l_not_within pm_l_not_within cd_l_not_within ct_l_not_within oc_l_not_alignment kV_l_not_alignment dc_l_not_alignment pm_l_not_alignment cd_l_not_alignment ct_l_not_alignment oc_l_is_int kV_l_is_int dc_l_is_int pm_l_is_int cd_l_is_int ct_l_is_int oc_l_is_within kV_l_is_within dc_l_is_within pm_l_is_within cd_l_is_within ct_l_is_within oc_l_same kV_l_same dc_l_same pm_l_same cd_l_same ct_l_same oc_l_copy kV_l_copy dc_l_copy pm_l_copy cd_l_copy ct_l_copy oc_l_kinds kV_l_kinds dc_l_kinds pm_l_kinds cd_l_kinds ct_l_kinds oc_l_refused kV_l_refused dc_l_refused pm_l_refused cd_l_refused ct_l_refused oc_l_made_right kV_l_made_right dc_l_made_right pm_l_made_right cd_l_made_right ct_l_made_right oc_l_numbers_right kV_l_numbers_right dc_l_numbers_right pm_l_numbers_right cd_l_numbers_right ct_l_numbers_right oc_l_asked kV_l_asked dc_l_asked pm_l_asked cd_l_asked ct_l_asked oc_l_aligned_right kV_l_aligned_right dc_l_aligned_right pm_l_aligned_right cd_l_aligned_right ct_l_aligned_right oc_l_order_right kV_l_order_right dc_l_order_right pm_l_order_right cd_l_order_right ct_l_order_right oc_l_factor_right kV_l_factor_right dc_l_factor_right pm_l_factor_right cd_l_factor_right ct_l_factor_right oc_l_great_power kV_l_great_power dc_l_great_power pm_l_great_power cd_l_great_power ct_l_great_power oc_l_is_power_due kV_l_is_power_due dc_l_is_power_due pm_l_is_power_due cd_l_is_power_due ct_l_is_power_due oc_l_judged_right kV_l_judged_right dc_l_judged_right pm_l_judged_right cd_l_judged_right ct_l_judged_right oc_l_refused_right kV_l_refused_right dc_l_refused_right pm_l_refused_right cd_l_refused_right ct_l_refused_right oc_l_law kV_l_law dc_l_law pm_l_law cd_l_law ct_l_law v_EXTENT v_HANDLE v_HEAP v_MAGIC v_MAP v_MAPPED v_MOST_ALIGN v_MOST_END v_MOST_WORD v_NOBODY v_NODE v_POISON v_RED v_REGION v_SLAB : Value}
    {od_c_BadValue_init an_c_BadValue_init od_c_Broken_init an_c_Broken_init od_c_Unknown_init an_c_Unknown_init od_c_NotHeld_init an_c_NotHeld_init od_c_Fault_init an_c_Fault_init od_c_NoRoom_init an_c_NoRoom_init od_c_Cut_init an_c_Cut_init od_c_BadLine_init an_c_BadLine_init od_p_is_whole an_p_is_whole od_p_whole_between an_p_whole_between od_p_is_power an_p_is_power od_p_is_align an_p_is_align od_p_align_up an_p_align_up od_p_align_down an_p_align_down od_p_order_of an_p_order_of od_p_power_in an_p_power_in od_l_draws an_l_draws od_l_next_cell an_l_next_cell od_l_mixed an_l_mixed od_l_take an_l_take od_l_among an_l_among od_l_between an_l_between od_l_number an_l_number od_l_alignment an_l_alignment od_l_power an_l_power od_l_long an_l_long od_l_integer an_l_integer od_l_chars an_l_chars od_l_text an_l_text od_l_plain an_l_plain od_l_not_integer an_l_not_integer od_l_not_within an_l_not_within od_l_not_alignment an_l_not_alignment od_l_is_int an_l_is_int od_l_is_within an_l_is_within od_l_same an_l_same od_l_copy an_l_copy od_l_kinds an_l_kinds od_l_refused an_l_refused od_l_made_right an_l_made_right od_l_numbers_right an_l_numbers_right od_l_asked an_l_asked od_l_aligned_right an_l_aligned_right od_l_order_right an_l_order_right od_l_factor_right an_l_factor_right od_l_great_power an_l_great_power od_l_is_power_due an_l_is_power_due od_l_judged_right an_l_judged_right od_l_refused_right an_l_refused_right od_l_law an_l_law : Option Addr} {sl_c_BadValue_init sl_c_Broken_init sl_c_Unknown_init sl_c_NotHeld_init sl_c_Fault_init sl_c_NoRoom_init sl_c_Cut_init sl_c_BadLine_init sl_p_is_whole sl_p_whole_between sl_p_is_power sl_p_is_align sl_p_align_up sl_p_align_down sl_p_order_of sl_p_power_in sl_l_draws sl_l_next_cell sl_l_mixed sl_l_take sl_l_among sl_l_between sl_l_number sl_l_alignment sl_l_power sl_l_long sl_l_integer sl_l_chars sl_l_text sl_l_plain sl_l_not_integer sl_l_not_within sl_l_not_alignment sl_l_is_int sl_l_is_within sl_l_same sl_l_copy sl_l_kinds sl_l_refused sl_l_made_right sl_l_numbers_right sl_l_asked sl_l_aligned_right sl_l_order_right sl_l_factor_right sl_l_great_power sl_l_is_power_due sl_l_judged_right sl_l_refused_right sl_l_law : Array (Option Value)}
    {nm_BadValue qn_BadValue : Str} {N_BadValue : Addr} {bs_BadValue : List Value} {sn_BadValue : List Str} {sub_BadValue : List Value} {ab_BadValue : Bool} {col_BadValue : Option Bool} {dd_BadValue : Option Addr} {m0_BadValue m1_BadValue m2_BadValue m3_BadValue m5_BadValue : Option Value}
    {nm_Broken qn_Broken : Str} {N_Broken : Addr} {bs_Broken : List Value} {sn_Broken : List Str} {sub_Broken : List Value} {ab_Broken : Bool} {col_Broken : Option Bool} {dd_Broken : Option Addr} {m0_Broken m1_Broken m2_Broken m3_Broken m5_Broken : Option Value}
    {nm_Unknown qn_Unknown : Str} {N_Unknown : Addr} {bs_Unknown : List Value} {sn_Unknown : List Str} {sub_Unknown : List Value} {ab_Unknown : Bool} {col_Unknown : Option Bool} {dd_Unknown : Option Addr} {m0_Unknown m1_Unknown m2_Unknown m3_Unknown m5_Unknown : Option Value}
    {nm_NotHeld qn_NotHeld : Str} {N_NotHeld : Addr} {bs_NotHeld : List Value} {sn_NotHeld : List Str} {sub_NotHeld : List Value} {ab_NotHeld : Bool} {col_NotHeld : Option Bool} {dd_NotHeld : Option Addr} {m0_NotHeld m1_NotHeld m2_NotHeld m3_NotHeld m5_NotHeld : Option Value}
    {nm_Fault qn_Fault : Str} {N_Fault : Addr} {bs_Fault : List Value} {sn_Fault : List Str} {sub_Fault : List Value} {ab_Fault : Bool} {col_Fault : Option Bool} {dd_Fault : Option Addr} {m0_Fault m1_Fault m2_Fault m3_Fault m5_Fault : Option Value}
    {nm_NoRoom qn_NoRoom : Str} {N_NoRoom : Addr} {bs_NoRoom : List Value} {sn_NoRoom : List Str} {sub_NoRoom : List Value} {ab_NoRoom : Bool} {col_NoRoom : Option Bool} {dd_NoRoom : Option Addr} {m0_NoRoom m1_NoRoom m2_NoRoom m3_NoRoom m5_NoRoom : Option Value}
    {nm_Cut qn_Cut : Str} {N_Cut : Addr} {bs_Cut : List Value} {sn_Cut : List Str} {sub_Cut : List Value} {ab_Cut : Bool} {col_Cut : Option Bool} {dd_Cut : Option Addr} {m0_Cut m1_Cut m2_Cut m3_Cut m5_Cut : Option Value}
    {nm_BadLine qn_BadLine : Str} {N_BadLine : Addr} {bs_BadLine : List Value} {sn_BadLine : List Str} {sub_BadLine : List Value} {ab_BadLine : Bool} {col_BadLine : Option Bool} {dd_BadLine : Option Addr} {m0_BadLine m1_BadLine m2_BadLine m3_BadLine m5_BadLine : Option Value}
    (q_StoreError : PySem.W.nsIn K mainGlobals "StoreError" = some (some (.ref C_StoreError)))
    (q_BadValue : PySem.W.nsIn K mainGlobals "BadValue" = some (some (.ref C_BadValue)))
    (q_Broken : PySem.W.nsIn K mainGlobals "Broken" = some (some (.ref C_Broken)))
    (q_Unknown : PySem.W.nsIn K mainGlobals "Unknown" = some (some (.ref C_Unknown)))
    (q_NotHeld : PySem.W.nsIn K mainGlobals "NotHeld" = some (some (.ref C_NotHeld)))
    (q_Fault : PySem.W.nsIn K mainGlobals "Fault" = some (some (.ref C_Fault)))
    (q_NoRoom : PySem.W.nsIn K mainGlobals "NoRoom" = some (some (.ref C_NoRoom)))
    (q_Cut : PySem.W.nsIn K mainGlobals "Cut" = some (some (.ref C_Cut)))
    (q_BadLine : PySem.W.nsIn K mainGlobals "BadLine" = some (some (.ref C_BadLine)))
    (a_c_BadValue_init : PySem.W.findIn K (.ref C_BadValue) "__init__" = some (some (.ref f_c_BadValue_init)))
    (t_c_BadValue_init : PySem.W.typeIn K (.ref f_c_BadValue_init) = some (.type "function"))
    (l_c_BadValue_init : K.lookup f_c_BadValue_init = some ⟨oc_c_BadValue_init, od_c_BadValue_init, .func (PySem.W.fnOf "__init__" "BadValue.__init__" (defArgs s_c_BadValue_init) (defBody s_c_BadValue_init) (defScope s_c_BadValue_init) .none kV_c_BadValue_init dc_c_BadValue_init pm_c_BadValue_init an_c_BadValue_init cd_c_BadValue_init ct_c_BadValue_init), sl_c_BadValue_init⟩)
    (c_c_BadValue_init : PySem.W.codeIn K cd_c_BadValue_init "BadValue.__init__" = true)
    (k_c_BadValue_init : PySem.W.keepIn K (.ref f_c_BadValue_init) = true)
    (a_c_Broken_init : PySem.W.findIn K (.ref C_Broken) "__init__" = some (some (.ref f_c_Broken_init)))
    (t_c_Broken_init : PySem.W.typeIn K (.ref f_c_Broken_init) = some (.type "function"))
    (l_c_Broken_init : K.lookup f_c_Broken_init = some ⟨oc_c_Broken_init, od_c_Broken_init, .func (PySem.W.fnOf "__init__" "Broken.__init__" (defArgs s_c_Broken_init) (defBody s_c_Broken_init) (defScope s_c_Broken_init) .none kV_c_Broken_init dc_c_Broken_init pm_c_Broken_init an_c_Broken_init cd_c_Broken_init ct_c_Broken_init), sl_c_Broken_init⟩)
    (c_c_Broken_init : PySem.W.codeIn K cd_c_Broken_init "Broken.__init__" = true)
    (k_c_Broken_init : PySem.W.keepIn K (.ref f_c_Broken_init) = true)
    (a_c_Unknown_init : PySem.W.findIn K (.ref C_Unknown) "__init__" = some (some (.ref f_c_Unknown_init)))
    (t_c_Unknown_init : PySem.W.typeIn K (.ref f_c_Unknown_init) = some (.type "function"))
    (l_c_Unknown_init : K.lookup f_c_Unknown_init = some ⟨oc_c_Unknown_init, od_c_Unknown_init, .func (PySem.W.fnOf "__init__" "Unknown.__init__" (defArgs s_c_Unknown_init) (defBody s_c_Unknown_init) (defScope s_c_Unknown_init) .none kV_c_Unknown_init dc_c_Unknown_init pm_c_Unknown_init an_c_Unknown_init cd_c_Unknown_init ct_c_Unknown_init), sl_c_Unknown_init⟩)
    (c_c_Unknown_init : PySem.W.codeIn K cd_c_Unknown_init "Unknown.__init__" = true)
    (k_c_Unknown_init : PySem.W.keepIn K (.ref f_c_Unknown_init) = true)
    (a_c_NotHeld_init : PySem.W.findIn K (.ref C_NotHeld) "__init__" = some (some (.ref f_c_NotHeld_init)))
    (t_c_NotHeld_init : PySem.W.typeIn K (.ref f_c_NotHeld_init) = some (.type "function"))
    (l_c_NotHeld_init : K.lookup f_c_NotHeld_init = some ⟨oc_c_NotHeld_init, od_c_NotHeld_init, .func (PySem.W.fnOf "__init__" "NotHeld.__init__" (defArgs s_c_NotHeld_init) (defBody s_c_NotHeld_init) (defScope s_c_NotHeld_init) .none kV_c_NotHeld_init dc_c_NotHeld_init pm_c_NotHeld_init an_c_NotHeld_init cd_c_NotHeld_init ct_c_NotHeld_init), sl_c_NotHeld_init⟩)
    (c_c_NotHeld_init : PySem.W.codeIn K cd_c_NotHeld_init "NotHeld.__init__" = true)
    (k_c_NotHeld_init : PySem.W.keepIn K (.ref f_c_NotHeld_init) = true)
    (a_c_Fault_init : PySem.W.findIn K (.ref C_Fault) "__init__" = some (some (.ref f_c_Fault_init)))
    (t_c_Fault_init : PySem.W.typeIn K (.ref f_c_Fault_init) = some (.type "function"))
    (l_c_Fault_init : K.lookup f_c_Fault_init = some ⟨oc_c_Fault_init, od_c_Fault_init, .func (PySem.W.fnOf "__init__" "Fault.__init__" (defArgs s_c_Fault_init) (defBody s_c_Fault_init) (defScope s_c_Fault_init) .none kV_c_Fault_init dc_c_Fault_init pm_c_Fault_init an_c_Fault_init cd_c_Fault_init ct_c_Fault_init), sl_c_Fault_init⟩)
    (c_c_Fault_init : PySem.W.codeIn K cd_c_Fault_init "Fault.__init__" = true)
    (k_c_Fault_init : PySem.W.keepIn K (.ref f_c_Fault_init) = true)
    (a_c_NoRoom_init : PySem.W.findIn K (.ref C_NoRoom) "__init__" = some (some (.ref f_c_NoRoom_init)))
    (t_c_NoRoom_init : PySem.W.typeIn K (.ref f_c_NoRoom_init) = some (.type "function"))
    (l_c_NoRoom_init : K.lookup f_c_NoRoom_init = some ⟨oc_c_NoRoom_init, od_c_NoRoom_init, .func (PySem.W.fnOf "__init__" "NoRoom.__init__" (defArgs s_c_NoRoom_init) (defBody s_c_NoRoom_init) (defScope s_c_NoRoom_init) .none kV_c_NoRoom_init dc_c_NoRoom_init pm_c_NoRoom_init an_c_NoRoom_init cd_c_NoRoom_init ct_c_NoRoom_init), sl_c_NoRoom_init⟩)
    (c_c_NoRoom_init : PySem.W.codeIn K cd_c_NoRoom_init "NoRoom.__init__" = true)
    (k_c_NoRoom_init : PySem.W.keepIn K (.ref f_c_NoRoom_init) = true)
    (a_c_Cut_init : PySem.W.findIn K (.ref C_Cut) "__init__" = some (some (.ref f_c_Cut_init)))
    (t_c_Cut_init : PySem.W.typeIn K (.ref f_c_Cut_init) = some (.type "function"))
    (l_c_Cut_init : K.lookup f_c_Cut_init = some ⟨oc_c_Cut_init, od_c_Cut_init, .func (PySem.W.fnOf "__init__" "Cut.__init__" (defArgs s_c_Cut_init) (defBody s_c_Cut_init) (defScope s_c_Cut_init) .none kV_c_Cut_init dc_c_Cut_init pm_c_Cut_init an_c_Cut_init cd_c_Cut_init ct_c_Cut_init), sl_c_Cut_init⟩)
    (c_c_Cut_init : PySem.W.codeIn K cd_c_Cut_init "Cut.__init__" = true)
    (k_c_Cut_init : PySem.W.keepIn K (.ref f_c_Cut_init) = true)
    (a_c_BadLine_init : PySem.W.findIn K (.ref C_BadLine) "__init__" = some (some (.ref f_c_BadLine_init)))
    (t_c_BadLine_init : PySem.W.typeIn K (.ref f_c_BadLine_init) = some (.type "function"))
    (l_c_BadLine_init : K.lookup f_c_BadLine_init = some ⟨oc_c_BadLine_init, od_c_BadLine_init, .func (PySem.W.fnOf "__init__" "BadLine.__init__" (defArgs s_c_BadLine_init) (defBody s_c_BadLine_init) (defScope s_c_BadLine_init) .none kV_c_BadLine_init dc_c_BadLine_init pm_c_BadLine_init an_c_BadLine_init cd_c_BadLine_init ct_c_BadLine_init), sl_c_BadLine_init⟩)
    (c_c_BadLine_init : PySem.W.codeIn K cd_c_BadLine_init "BadLine.__init__" = true)
    (k_c_BadLine_init : PySem.W.keepIn K (.ref f_c_BadLine_init) = true)
    (a_p_is_whole : PySem.W.nsIn K mainGlobals "is_whole" = some (some (.ref f_p_is_whole)))
    (l_p_is_whole : K.lookup f_p_is_whole = some ⟨oc_p_is_whole, od_p_is_whole, .func (PySem.W.fnOf "is_whole" "is_whole" (defArgs s_p_is_whole) (defBody s_p_is_whole) (defScope s_p_is_whole) .none kV_p_is_whole dc_p_is_whole pm_p_is_whole an_p_is_whole cd_p_is_whole ct_p_is_whole), sl_p_is_whole⟩)
    (c_p_is_whole : PySem.W.codeIn K cd_p_is_whole "is_whole" = true)
    (k_p_is_whole : PySem.W.keepIn K (.ref f_p_is_whole) = true)
    (a_p_whole_between : PySem.W.nsIn K mainGlobals "whole_between" = some (some (.ref f_p_whole_between)))
    (l_p_whole_between : K.lookup f_p_whole_between = some ⟨oc_p_whole_between, od_p_whole_between, .func (PySem.W.fnOf "whole_between" "whole_between" (defArgs s_p_whole_between) (defBody s_p_whole_between) (defScope s_p_whole_between) .none kV_p_whole_between dc_p_whole_between pm_p_whole_between an_p_whole_between cd_p_whole_between ct_p_whole_between), sl_p_whole_between⟩)
    (c_p_whole_between : PySem.W.codeIn K cd_p_whole_between "whole_between" = true)
    (k_p_whole_between : PySem.W.keepIn K (.ref f_p_whole_between) = true)
    (a_p_is_power : PySem.W.nsIn K mainGlobals "is_power" = some (some (.ref f_p_is_power)))
    (l_p_is_power : K.lookup f_p_is_power = some ⟨oc_p_is_power, od_p_is_power, .func (PySem.W.fnOf "is_power" "is_power" (defArgs s_p_is_power) (defBody s_p_is_power) (defScope s_p_is_power) .none kV_p_is_power dc_p_is_power pm_p_is_power an_p_is_power cd_p_is_power ct_p_is_power), sl_p_is_power⟩)
    (c_p_is_power : PySem.W.codeIn K cd_p_is_power "is_power" = true)
    (k_p_is_power : PySem.W.keepIn K (.ref f_p_is_power) = true)
    (a_p_is_align : PySem.W.nsIn K mainGlobals "is_align" = some (some (.ref f_p_is_align)))
    (l_p_is_align : K.lookup f_p_is_align = some ⟨oc_p_is_align, od_p_is_align, .func (PySem.W.fnOf "is_align" "is_align" (defArgs s_p_is_align) (defBody s_p_is_align) (defScope s_p_is_align) .none kV_p_is_align dc_p_is_align pm_p_is_align an_p_is_align cd_p_is_align ct_p_is_align), sl_p_is_align⟩)
    (c_p_is_align : PySem.W.codeIn K cd_p_is_align "is_align" = true)
    (k_p_is_align : PySem.W.keepIn K (.ref f_p_is_align) = true)
    (a_p_align_up : PySem.W.nsIn K mainGlobals "align_up" = some (some (.ref f_p_align_up)))
    (l_p_align_up : K.lookup f_p_align_up = some ⟨oc_p_align_up, od_p_align_up, .func (PySem.W.fnOf "align_up" "align_up" (defArgs s_p_align_up) (defBody s_p_align_up) (defScope s_p_align_up) .none kV_p_align_up dc_p_align_up pm_p_align_up an_p_align_up cd_p_align_up ct_p_align_up), sl_p_align_up⟩)
    (c_p_align_up : PySem.W.codeIn K cd_p_align_up "align_up" = true)
    (k_p_align_up : PySem.W.keepIn K (.ref f_p_align_up) = true)
    (a_p_align_down : PySem.W.nsIn K mainGlobals "align_down" = some (some (.ref f_p_align_down)))
    (l_p_align_down : K.lookup f_p_align_down = some ⟨oc_p_align_down, od_p_align_down, .func (PySem.W.fnOf "align_down" "align_down" (defArgs s_p_align_down) (defBody s_p_align_down) (defScope s_p_align_down) .none kV_p_align_down dc_p_align_down pm_p_align_down an_p_align_down cd_p_align_down ct_p_align_down), sl_p_align_down⟩)
    (c_p_align_down : PySem.W.codeIn K cd_p_align_down "align_down" = true)
    (k_p_align_down : PySem.W.keepIn K (.ref f_p_align_down) = true)
    (a_p_order_of : PySem.W.nsIn K mainGlobals "order_of" = some (some (.ref f_p_order_of)))
    (l_p_order_of : K.lookup f_p_order_of = some ⟨oc_p_order_of, od_p_order_of, .func (PySem.W.fnOf "order_of" "order_of" (defArgs s_p_order_of) (defBody s_p_order_of) (defScope s_p_order_of) .none kV_p_order_of dc_p_order_of pm_p_order_of an_p_order_of cd_p_order_of ct_p_order_of), sl_p_order_of⟩)
    (c_p_order_of : PySem.W.codeIn K cd_p_order_of "order_of" = true)
    (k_p_order_of : PySem.W.keepIn K (.ref f_p_order_of) = true)
    (a_p_power_in : PySem.W.nsIn K mainGlobals "power_in" = some (some (.ref f_p_power_in)))
    (l_p_power_in : K.lookup f_p_power_in = some ⟨oc_p_power_in, od_p_power_in, .func (PySem.W.fnOf "power_in" "power_in" (defArgs s_p_power_in) (defBody s_p_power_in) (defScope s_p_power_in) .none kV_p_power_in dc_p_power_in pm_p_power_in an_p_power_in cd_p_power_in ct_p_power_in), sl_p_power_in⟩)
    (c_p_power_in : PySem.W.codeIn K cd_p_power_in "power_in" = true)
    (k_p_power_in : PySem.W.keepIn K (.ref f_p_power_in) = true)
    (a_l_draws : PySem.W.nsIn K mainGlobals "_law_draws" = some (some (.ref f_l_draws)))
    (l_l_draws : K.lookup f_l_draws = some ⟨oc_l_draws, od_l_draws, .func (PySem.W.fnOf "_law_draws" "_law_draws" (defArgs s_l_draws) (defBody s_l_draws) (defScope s_l_draws) .none kV_l_draws dc_l_draws pm_l_draws an_l_draws cd_l_draws ct_l_draws), sl_l_draws⟩)
    (c_l_draws : PySem.W.codeIn K cd_l_draws "_law_draws" = true)
    (k_l_draws : PySem.W.keepIn K (.ref f_l_draws) = true)
    (a_l_next_cell : PySem.W.nsIn K mainGlobals "_law_next_cell" = some (some (.ref f_l_next_cell)))
    (l_l_next_cell : K.lookup f_l_next_cell = some ⟨oc_l_next_cell, od_l_next_cell, .func (PySem.W.fnOf "_law_next_cell" "_law_next_cell" (defArgs s_l_next_cell) (defBody s_l_next_cell) (defScope s_l_next_cell) .none kV_l_next_cell dc_l_next_cell pm_l_next_cell an_l_next_cell cd_l_next_cell ct_l_next_cell), sl_l_next_cell⟩)
    (c_l_next_cell : PySem.W.codeIn K cd_l_next_cell "_law_next_cell" = true)
    (k_l_next_cell : PySem.W.keepIn K (.ref f_l_next_cell) = true)
    (a_l_mixed : PySem.W.nsIn K mainGlobals "_law_mixed" = some (some (.ref f_l_mixed)))
    (l_l_mixed : K.lookup f_l_mixed = some ⟨oc_l_mixed, od_l_mixed, .func (PySem.W.fnOf "_law_mixed" "_law_mixed" (defArgs s_l_mixed) (defBody s_l_mixed) (defScope s_l_mixed) .none kV_l_mixed dc_l_mixed pm_l_mixed an_l_mixed cd_l_mixed ct_l_mixed), sl_l_mixed⟩)
    (c_l_mixed : PySem.W.codeIn K cd_l_mixed "_law_mixed" = true)
    (k_l_mixed : PySem.W.keepIn K (.ref f_l_mixed) = true)
    (a_l_take : PySem.W.nsIn K mainGlobals "_law_take" = some (some (.ref f_l_take)))
    (l_l_take : K.lookup f_l_take = some ⟨oc_l_take, od_l_take, .func (PySem.W.fnOf "_law_take" "_law_take" (defArgs s_l_take) (defBody s_l_take) (defScope s_l_take) .none kV_l_take dc_l_take pm_l_take an_l_take cd_l_take ct_l_take), sl_l_take⟩)
    (c_l_take : PySem.W.codeIn K cd_l_take "_law_take" = true)
    (k_l_take : PySem.W.keepIn K (.ref f_l_take) = true)
    (a_l_among : PySem.W.nsIn K mainGlobals "_law_among" = some (some (.ref f_l_among)))
    (l_l_among : K.lookup f_l_among = some ⟨oc_l_among, od_l_among, .func (PySem.W.fnOf "_law_among" "_law_among" (defArgs s_l_among) (defBody s_l_among) (defScope s_l_among) .none kV_l_among dc_l_among pm_l_among an_l_among cd_l_among ct_l_among), sl_l_among⟩)
    (c_l_among : PySem.W.codeIn K cd_l_among "_law_among" = true)
    (k_l_among : PySem.W.keepIn K (.ref f_l_among) = true)
    (a_l_between : PySem.W.nsIn K mainGlobals "_law_between" = some (some (.ref f_l_between)))
    (l_l_between : K.lookup f_l_between = some ⟨oc_l_between, od_l_between, .func (PySem.W.fnOf "_law_between" "_law_between" (defArgs s_l_between) (defBody s_l_between) (defScope s_l_between) .none kV_l_between dc_l_between pm_l_between an_l_between cd_l_between ct_l_between), sl_l_between⟩)
    (c_l_between : PySem.W.codeIn K cd_l_between "_law_between" = true)
    (k_l_between : PySem.W.keepIn K (.ref f_l_between) = true)
    (a_l_number : PySem.W.nsIn K mainGlobals "_law_number" = some (some (.ref f_l_number)))
    (l_l_number : K.lookup f_l_number = some ⟨oc_l_number, od_l_number, .func (PySem.W.fnOf "_law_number" "_law_number" (defArgs s_l_number) (defBody s_l_number) (defScope s_l_number) .none kV_l_number dc_l_number pm_l_number an_l_number cd_l_number ct_l_number), sl_l_number⟩)
    (c_l_number : PySem.W.codeIn K cd_l_number "_law_number" = true)
    (k_l_number : PySem.W.keepIn K (.ref f_l_number) = true)
    (a_l_alignment : PySem.W.nsIn K mainGlobals "_law_alignment" = some (some (.ref f_l_alignment)))
    (l_l_alignment : K.lookup f_l_alignment = some ⟨oc_l_alignment, od_l_alignment, .func (PySem.W.fnOf "_law_alignment" "_law_alignment" (defArgs s_l_alignment) (defBody s_l_alignment) (defScope s_l_alignment) .none kV_l_alignment dc_l_alignment pm_l_alignment an_l_alignment cd_l_alignment ct_l_alignment), sl_l_alignment⟩)
    (c_l_alignment : PySem.W.codeIn K cd_l_alignment "_law_alignment" = true)
    (k_l_alignment : PySem.W.keepIn K (.ref f_l_alignment) = true)
    (a_l_power : PySem.W.nsIn K mainGlobals "_law_power" = some (some (.ref f_l_power)))
    (l_l_power : K.lookup f_l_power = some ⟨oc_l_power, od_l_power, .func (PySem.W.fnOf "_law_power" "_law_power" (defArgs s_l_power) (defBody s_l_power) (defScope s_l_power) .none kV_l_power dc_l_power pm_l_power an_l_power cd_l_power ct_l_power), sl_l_power⟩)
    (c_l_power : PySem.W.codeIn K cd_l_power "_law_power" = true)
    (k_l_power : PySem.W.keepIn K (.ref f_l_power) = true)
    (a_l_long : PySem.W.nsIn K mainGlobals "_law_long" = some (some (.ref f_l_long)))
    (l_l_long : K.lookup f_l_long = some ⟨oc_l_long, od_l_long, .func (PySem.W.fnOf "_law_long" "_law_long" (defArgs s_l_long) (defBody s_l_long) (defScope s_l_long) .none kV_l_long dc_l_long pm_l_long an_l_long cd_l_long ct_l_long), sl_l_long⟩)
    (c_l_long : PySem.W.codeIn K cd_l_long "_law_long" = true)
    (k_l_long : PySem.W.keepIn K (.ref f_l_long) = true)
    (a_l_integer : PySem.W.nsIn K mainGlobals "_law_integer" = some (some (.ref f_l_integer)))
    (l_l_integer : K.lookup f_l_integer = some ⟨oc_l_integer, od_l_integer, .func (PySem.W.fnOf "_law_integer" "_law_integer" (defArgs s_l_integer) (defBody s_l_integer) (defScope s_l_integer) .none kV_l_integer dc_l_integer pm_l_integer an_l_integer cd_l_integer ct_l_integer), sl_l_integer⟩)
    (c_l_integer : PySem.W.codeIn K cd_l_integer "_law_integer" = true)
    (k_l_integer : PySem.W.keepIn K (.ref f_l_integer) = true)
    (a_l_chars : PySem.W.nsIn K mainGlobals "_law_chars" = some (some (.ref f_l_chars)))
    (l_l_chars : K.lookup f_l_chars = some ⟨oc_l_chars, od_l_chars, .func (PySem.W.fnOf "_law_chars" "_law_chars" (defArgs s_l_chars) (defBody s_l_chars) (defScope s_l_chars) .none kV_l_chars dc_l_chars pm_l_chars an_l_chars cd_l_chars ct_l_chars), sl_l_chars⟩)
    (c_l_chars : PySem.W.codeIn K cd_l_chars "_law_chars" = true)
    (k_l_chars : PySem.W.keepIn K (.ref f_l_chars) = true)
    (a_l_text : PySem.W.nsIn K mainGlobals "_law_text" = some (some (.ref f_l_text)))
    (l_l_text : K.lookup f_l_text = some ⟨oc_l_text, od_l_text, .func (PySem.W.fnOf "_law_text" "_law_text" (defArgs s_l_text) (defBody s_l_text) (defScope s_l_text) .none kV_l_text dc_l_text pm_l_text an_l_text cd_l_text ct_l_text), sl_l_text⟩)
    (c_l_text : PySem.W.codeIn K cd_l_text "_law_text" = true)
    (k_l_text : PySem.W.keepIn K (.ref f_l_text) = true)
    (a_l_plain : PySem.W.nsIn K mainGlobals "_law_plain" = some (some (.ref f_l_plain)))
    (l_l_plain : K.lookup f_l_plain = some ⟨oc_l_plain, od_l_plain, .func (PySem.W.fnOf "_law_plain" "_law_plain" (defArgs s_l_plain) (defBody s_l_plain) (defScope s_l_plain) .none kV_l_plain dc_l_plain pm_l_plain an_l_plain cd_l_plain ct_l_plain), sl_l_plain⟩)
    (c_l_plain : PySem.W.codeIn K cd_l_plain "_law_plain" = true)
    (k_l_plain : PySem.W.keepIn K (.ref f_l_plain) = true)
    (a_l_not_integer : PySem.W.nsIn K mainGlobals "_law_not_integer" = some (some (.ref f_l_not_integer)))
    (l_l_not_integer : K.lookup f_l_not_integer = some ⟨oc_l_not_integer, od_l_not_integer, .func (PySem.W.fnOf "_law_not_integer" "_law_not_integer" (defArgs s_l_not_integer) (defBody s_l_not_integer) (defScope s_l_not_integer) .none kV_l_not_integer dc_l_not_integer pm_l_not_integer an_l_not_integer cd_l_not_integer ct_l_not_integer), sl_l_not_integer⟩)
    (c_l_not_integer : PySem.W.codeIn K cd_l_not_integer "_law_not_integer" = true)
    (k_l_not_integer : PySem.W.keepIn K (.ref f_l_not_integer) = true)
    (a_l_not_within : PySem.W.nsIn K mainGlobals "_law_not_within" = some (some (.ref f_l_not_within)))
    (l_l_not_within : K.lookup f_l_not_within = some ⟨oc_l_not_within, od_l_not_within, .func (PySem.W.fnOf "_law_not_within" "_law_not_within" (defArgs s_l_not_within) (defBody s_l_not_within) (defScope s_l_not_within) .none kV_l_not_within dc_l_not_within pm_l_not_within an_l_not_within cd_l_not_within ct_l_not_within), sl_l_not_within⟩)
    (c_l_not_within : PySem.W.codeIn K cd_l_not_within "_law_not_within" = true)
    (k_l_not_within : PySem.W.keepIn K (.ref f_l_not_within) = true)
    (a_l_not_alignment : PySem.W.nsIn K mainGlobals "_law_not_alignment" = some (some (.ref f_l_not_alignment)))
    (l_l_not_alignment : K.lookup f_l_not_alignment = some ⟨oc_l_not_alignment, od_l_not_alignment, .func (PySem.W.fnOf "_law_not_alignment" "_law_not_alignment" (defArgs s_l_not_alignment) (defBody s_l_not_alignment) (defScope s_l_not_alignment) .none kV_l_not_alignment dc_l_not_alignment pm_l_not_alignment an_l_not_alignment cd_l_not_alignment ct_l_not_alignment), sl_l_not_alignment⟩)
    (c_l_not_alignment : PySem.W.codeIn K cd_l_not_alignment "_law_not_alignment" = true)
    (k_l_not_alignment : PySem.W.keepIn K (.ref f_l_not_alignment) = true)
    (a_l_is_int : PySem.W.nsIn K mainGlobals "_law_is_int" = some (some (.ref f_l_is_int)))
    (l_l_is_int : K.lookup f_l_is_int = some ⟨oc_l_is_int, od_l_is_int, .func (PySem.W.fnOf "_law_is_int" "_law_is_int" (defArgs s_l_is_int) (defBody s_l_is_int) (defScope s_l_is_int) .none kV_l_is_int dc_l_is_int pm_l_is_int an_l_is_int cd_l_is_int ct_l_is_int), sl_l_is_int⟩)
    (c_l_is_int : PySem.W.codeIn K cd_l_is_int "_law_is_int" = true)
    (k_l_is_int : PySem.W.keepIn K (.ref f_l_is_int) = true)
    (a_l_is_within : PySem.W.nsIn K mainGlobals "_law_is_within" = some (some (.ref f_l_is_within)))
    (l_l_is_within : K.lookup f_l_is_within = some ⟨oc_l_is_within, od_l_is_within, .func (PySem.W.fnOf "_law_is_within" "_law_is_within" (defArgs s_l_is_within) (defBody s_l_is_within) (defScope s_l_is_within) .none kV_l_is_within dc_l_is_within pm_l_is_within an_l_is_within cd_l_is_within ct_l_is_within), sl_l_is_within⟩)
    (c_l_is_within : PySem.W.codeIn K cd_l_is_within "_law_is_within" = true)
    (k_l_is_within : PySem.W.keepIn K (.ref f_l_is_within) = true)
    (a_l_same : PySem.W.nsIn K mainGlobals "_law_same" = some (some (.ref f_l_same)))
    (l_l_same : K.lookup f_l_same = some ⟨oc_l_same, od_l_same, .func (PySem.W.fnOf "_law_same" "_law_same" (defArgs s_l_same) (defBody s_l_same) (defScope s_l_same) .none kV_l_same dc_l_same pm_l_same an_l_same cd_l_same ct_l_same), sl_l_same⟩)
    (c_l_same : PySem.W.codeIn K cd_l_same "_law_same" = true)
    (k_l_same : PySem.W.keepIn K (.ref f_l_same) = true)
    (a_l_copy : PySem.W.nsIn K mainGlobals "_law_copy" = some (some (.ref f_l_copy)))
    (l_l_copy : K.lookup f_l_copy = some ⟨oc_l_copy, od_l_copy, .func (PySem.W.fnOf "_law_copy" "_law_copy" (defArgs s_l_copy) (defBody s_l_copy) (defScope s_l_copy) .none kV_l_copy dc_l_copy pm_l_copy an_l_copy cd_l_copy ct_l_copy), sl_l_copy⟩)
    (c_l_copy : PySem.W.codeIn K cd_l_copy "_law_copy" = true)
    (k_l_copy : PySem.W.keepIn K (.ref f_l_copy) = true)
    (a_l_kinds : PySem.W.nsIn K mainGlobals "_law_kinds" = some (some (.ref f_l_kinds)))
    (l_l_kinds : K.lookup f_l_kinds = some ⟨oc_l_kinds, od_l_kinds, .func (PySem.W.fnOf "_law_kinds" "_law_kinds" (defArgs s_l_kinds) (defBody s_l_kinds) (defScope s_l_kinds) .none kV_l_kinds dc_l_kinds pm_l_kinds an_l_kinds cd_l_kinds ct_l_kinds), sl_l_kinds⟩)
    (c_l_kinds : PySem.W.codeIn K cd_l_kinds "_law_kinds" = true)
    (k_l_kinds : PySem.W.keepIn K (.ref f_l_kinds) = true)
    (a_l_refused : PySem.W.nsIn K mainGlobals "_law_refused" = some (some (.ref f_l_refused)))
    (l_l_refused : K.lookup f_l_refused = some ⟨oc_l_refused, od_l_refused, .func (PySem.W.fnOf "_law_refused" "_law_refused" (defArgs s_l_refused) (defBody s_l_refused) (defScope s_l_refused) .none kV_l_refused dc_l_refused pm_l_refused an_l_refused cd_l_refused ct_l_refused), sl_l_refused⟩)
    (c_l_refused : PySem.W.codeIn K cd_l_refused "_law_refused" = true)
    (k_l_refused : PySem.W.keepIn K (.ref f_l_refused) = true)
    (a_l_made_right : PySem.W.nsIn K mainGlobals "_law_made_right" = some (some (.ref f_l_made_right)))
    (l_l_made_right : K.lookup f_l_made_right = some ⟨oc_l_made_right, od_l_made_right, .func (PySem.W.fnOf "_law_made_right" "_law_made_right" (defArgs s_l_made_right) (defBody s_l_made_right) (defScope s_l_made_right) .none kV_l_made_right dc_l_made_right pm_l_made_right an_l_made_right cd_l_made_right ct_l_made_right), sl_l_made_right⟩)
    (c_l_made_right : PySem.W.codeIn K cd_l_made_right "_law_made_right" = true)
    (k_l_made_right : PySem.W.keepIn K (.ref f_l_made_right) = true)
    (a_l_numbers_right : PySem.W.nsIn K mainGlobals "_law_numbers_right" = some (some (.ref f_l_numbers_right)))
    (l_l_numbers_right : K.lookup f_l_numbers_right = some ⟨oc_l_numbers_right, od_l_numbers_right, .func (PySem.W.fnOf "_law_numbers_right" "_law_numbers_right" (defArgs s_l_numbers_right) (defBody s_l_numbers_right) (defScope s_l_numbers_right) .none kV_l_numbers_right dc_l_numbers_right pm_l_numbers_right an_l_numbers_right cd_l_numbers_right ct_l_numbers_right), sl_l_numbers_right⟩)
    (c_l_numbers_right : PySem.W.codeIn K cd_l_numbers_right "_law_numbers_right" = true)
    (k_l_numbers_right : PySem.W.keepIn K (.ref f_l_numbers_right) = true)
    (a_l_asked : PySem.W.nsIn K mainGlobals "_law_asked" = some (some (.ref f_l_asked)))
    (l_l_asked : K.lookup f_l_asked = some ⟨oc_l_asked, od_l_asked, .func (PySem.W.fnOf "_law_asked" "_law_asked" (defArgs s_l_asked) (defBody s_l_asked) (defScope s_l_asked) .none kV_l_asked dc_l_asked pm_l_asked an_l_asked cd_l_asked ct_l_asked), sl_l_asked⟩)
    (c_l_asked : PySem.W.codeIn K cd_l_asked "_law_asked" = true)
    (k_l_asked : PySem.W.keepIn K (.ref f_l_asked) = true)
    (a_l_aligned_right : PySem.W.nsIn K mainGlobals "_law_aligned_right" = some (some (.ref f_l_aligned_right)))
    (l_l_aligned_right : K.lookup f_l_aligned_right = some ⟨oc_l_aligned_right, od_l_aligned_right, .func (PySem.W.fnOf "_law_aligned_right" "_law_aligned_right" (defArgs s_l_aligned_right) (defBody s_l_aligned_right) (defScope s_l_aligned_right) .none kV_l_aligned_right dc_l_aligned_right pm_l_aligned_right an_l_aligned_right cd_l_aligned_right ct_l_aligned_right), sl_l_aligned_right⟩)
    (c_l_aligned_right : PySem.W.codeIn K cd_l_aligned_right "_law_aligned_right" = true)
    (k_l_aligned_right : PySem.W.keepIn K (.ref f_l_aligned_right) = true)
    (a_l_order_right : PySem.W.nsIn K mainGlobals "_law_order_right" = some (some (.ref f_l_order_right)))
    (l_l_order_right : K.lookup f_l_order_right = some ⟨oc_l_order_right, od_l_order_right, .func (PySem.W.fnOf "_law_order_right" "_law_order_right" (defArgs s_l_order_right) (defBody s_l_order_right) (defScope s_l_order_right) .none kV_l_order_right dc_l_order_right pm_l_order_right an_l_order_right cd_l_order_right ct_l_order_right), sl_l_order_right⟩)
    (c_l_order_right : PySem.W.codeIn K cd_l_order_right "_law_order_right" = true)
    (k_l_order_right : PySem.W.keepIn K (.ref f_l_order_right) = true)
    (a_l_factor_right : PySem.W.nsIn K mainGlobals "_law_factor_right" = some (some (.ref f_l_factor_right)))
    (l_l_factor_right : K.lookup f_l_factor_right = some ⟨oc_l_factor_right, od_l_factor_right, .func (PySem.W.fnOf "_law_factor_right" "_law_factor_right" (defArgs s_l_factor_right) (defBody s_l_factor_right) (defScope s_l_factor_right) .none kV_l_factor_right dc_l_factor_right pm_l_factor_right an_l_factor_right cd_l_factor_right ct_l_factor_right), sl_l_factor_right⟩)
    (c_l_factor_right : PySem.W.codeIn K cd_l_factor_right "_law_factor_right" = true)
    (k_l_factor_right : PySem.W.keepIn K (.ref f_l_factor_right) = true)
    (a_l_great_power : PySem.W.nsIn K mainGlobals "_law_great_power" = some (some (.ref f_l_great_power)))
    (l_l_great_power : K.lookup f_l_great_power = some ⟨oc_l_great_power, od_l_great_power, .func (PySem.W.fnOf "_law_great_power" "_law_great_power" (defArgs s_l_great_power) (defBody s_l_great_power) (defScope s_l_great_power) .none kV_l_great_power dc_l_great_power pm_l_great_power an_l_great_power cd_l_great_power ct_l_great_power), sl_l_great_power⟩)
    (c_l_great_power : PySem.W.codeIn K cd_l_great_power "_law_great_power" = true)
    (k_l_great_power : PySem.W.keepIn K (.ref f_l_great_power) = true)
    (a_l_is_power_due : PySem.W.nsIn K mainGlobals "_law_is_power_due" = some (some (.ref f_l_is_power_due)))
    (l_l_is_power_due : K.lookup f_l_is_power_due = some ⟨oc_l_is_power_due, od_l_is_power_due, .func (PySem.W.fnOf "_law_is_power_due" "_law_is_power_due" (defArgs s_l_is_power_due) (defBody s_l_is_power_due) (defScope s_l_is_power_due) .none kV_l_is_power_due dc_l_is_power_due pm_l_is_power_due an_l_is_power_due cd_l_is_power_due ct_l_is_power_due), sl_l_is_power_due⟩)
    (c_l_is_power_due : PySem.W.codeIn K cd_l_is_power_due "_law_is_power_due" = true)
    (k_l_is_power_due : PySem.W.keepIn K (.ref f_l_is_power_due) = true)
    (a_l_judged_right : PySem.W.nsIn K mainGlobals "_law_judged_right" = some (some (.ref f_l_judged_right)))
    (l_l_judged_right : K.lookup f_l_judged_right = some ⟨oc_l_judged_right, od_l_judged_right, .func (PySem.W.fnOf "_law_judged_right" "_law_judged_right" (defArgs s_l_judged_right) (defBody s_l_judged_right) (defScope s_l_judged_right) .none kV_l_judged_right dc_l_judged_right pm_l_judged_right an_l_judged_right cd_l_judged_right ct_l_judged_right), sl_l_judged_right⟩)
    (c_l_judged_right : PySem.W.codeIn K cd_l_judged_right "_law_judged_right" = true)
    (k_l_judged_right : PySem.W.keepIn K (.ref f_l_judged_right) = true)
    (a_l_refused_right : PySem.W.nsIn K mainGlobals "_law_refused_right" = some (some (.ref f_l_refused_right)))
    (l_l_refused_right : K.lookup f_l_refused_right = some ⟨oc_l_refused_right, od_l_refused_right, .func (PySem.W.fnOf "_law_refused_right" "_law_refused_right" (defArgs s_l_refused_right) (defBody s_l_refused_right) (defScope s_l_refused_right) .none kV_l_refused_right dc_l_refused_right pm_l_refused_right an_l_refused_right cd_l_refused_right ct_l_refused_right), sl_l_refused_right⟩)
    (c_l_refused_right : PySem.W.codeIn K cd_l_refused_right "_law_refused_right" = true)
    (k_l_refused_right : PySem.W.keepIn K (.ref f_l_refused_right) = true)
    (a_l_law : PySem.W.nsIn K mainGlobals "law" = some (some (.ref f_l_law)))
    (l_l_law : K.lookup f_l_law = some ⟨oc_l_law, od_l_law, .func (PySem.W.fnOf "law" "law" (defArgs s_l_law) (defBody s_l_law) (defScope s_l_law) .none kV_l_law dc_l_law pm_l_law an_l_law cd_l_law ct_l_law), sl_l_law⟩)
    (c_l_law : PySem.W.codeIn K cd_l_law "law" = true)
    (k_l_law : PySem.W.keepIn K (.ref f_l_law) = true)
    (z_ValueError : PySem.W.nsIn K mainGlobals "ValueError" = some none)
    (z_bool : PySem.W.nsIn K mainGlobals "bool" = some none)
    (z_dict : PySem.W.nsIn K mainGlobals "dict" = some none)
    (z_int : PySem.W.nsIn K mainGlobals "int" = some none)
    (z_isinstance : PySem.W.nsIn K mainGlobals "isinstance" = some none)
    (z_len : PySem.W.nsIn K mainGlobals "len" = some none)
    (z_list : PySem.W.nsIn K mainGlobals "list" = some none)
    (z_max : PySem.W.nsIn K mainGlobals "max" = some none)
    (z_min : PySem.W.nsIn K mainGlobals "min" = some none)
    (z_range : PySem.W.nsIn K mainGlobals "range" = some none)
    (z_str : PySem.W.nsIn K mainGlobals "str" = some none)
    (z_tuple : PySem.W.nsIn K mainGlobals "tuple" = some none)
    (g_EXTENT : PySem.W.nsIn K mainGlobals "EXTENT" = some (some v_EXTENT))
    (r_EXTENT : RelV (.int 23) v_EXTENT)
    (g_HANDLE : PySem.W.nsIn K mainGlobals "HANDLE" = some (some v_HANDLE))
    (r_HANDLE : RelV (.int 26) v_HANDLE)
    (g_HEAP : PySem.W.nsIn K mainGlobals "HEAP" = some (some v_HEAP))
    (r_HEAP : RelV (.int 24) v_HEAP)
    (g_MAGIC : PySem.W.nsIn K mainGlobals "MAGIC" = some (some v_MAGIC))
    (r_MAGIC : RelV (.int 4711) v_MAGIC)
    (g_MAP : PySem.W.nsIn K mainGlobals "MAP" = some (some v_MAP))
    (r_MAP : RelV (.int 21) v_MAP)
    (g_MAPPED : PySem.W.nsIn K mainGlobals "MAPPED" = some (some v_MAPPED))
    (r_MAPPED : RelV (.int 27) v_MAPPED)
    (g_MOST_ALIGN : PySem.W.nsIn K mainGlobals "MOST_ALIGN" = some (some v_MOST_ALIGN))
    (r_MOST_ALIGN : RelV (.int 1073741824) v_MOST_ALIGN)
    (g_MOST_END : PySem.W.nsIn K mainGlobals "MOST_END" = some (some v_MOST_END))
    (r_MOST_END : RelV (.int 1000000000) v_MOST_END)
    (g_MOST_WORD : PySem.W.nsIn K mainGlobals "MOST_WORD" = some (some v_MOST_WORD))
    (r_MOST_WORD : RelV (.int 65535) v_MOST_WORD)
    (g_NOBODY : PySem.W.nsIn K mainGlobals "NOBODY" = some (some v_NOBODY))
    (r_NOBODY : RelV (.int 0) v_NOBODY)
    (g_NODE : PySem.W.nsIn K mainGlobals "NODE" = some (some v_NODE))
    (r_NODE : RelV (.int 28) v_NODE)
    (g_POISON : PySem.W.nsIn K mainGlobals "POISON" = some (some v_POISON))
    (r_POISON : RelV (.int 60002) v_POISON)
    (g_RED : PySem.W.nsIn K mainGlobals "RED" = some (some v_RED))
    (r_RED : RelV (.int 60001) v_RED)
    (g_REGION : PySem.W.nsIn K mainGlobals "REGION" = some (some v_REGION))
    (r_REGION : RelV (.int 25) v_REGION)
    (g_SLAB : PySem.W.nsIn K mainGlobals "SLAB" = some (some v_SLAB))
    (r_SLAB : RelV (.int 22) v_SLAB)
    (sa_StoreError : PySem.W.findIn K (.ref C_StoreError) "__setattr__" = some (some (.builtin "object.__setattr__")))
    (ga_StoreError : PySem.W.findIn K (.ref C_StoreError) "__getattribute__" = some (some (.builtin "BaseException.__getattribute__")))
    (gg_StoreError : PySem.W.findIn K (.ref C_StoreError) "__getattr__" = some none)
    (cc_StoreError : PySem.W.findIn K (.ref C_StoreError) "__class__" = some (some (.builtin "object.__class__")))
    (eb_StoreError : PySem.W.subIn K (.ref C_StoreError) (.type "BaseException") = some true)
    (ty_StoreError : PySem.W.typeIn K (.ref C_StoreError) = some (.type "type"))
    (kp_StoreError : PySem.W.keepIn K (.ref C_StoreError) = true)
    (hd_StoreError : PySem.W.hasDictIn K C_StoreError = true)
    (mo_StoreError : PySem.W.mroIn K C_StoreError (.type "object") = some true)
    (sa_BadValue : PySem.W.findIn K (.ref C_BadValue) "__setattr__" = some (some (.builtin "object.__setattr__")))
    (ga_BadValue : PySem.W.findIn K (.ref C_BadValue) "__getattribute__" = some (some (.builtin "BaseException.__getattribute__")))
    (gg_BadValue : PySem.W.findIn K (.ref C_BadValue) "__getattr__" = some none)
    (cc_BadValue : PySem.W.findIn K (.ref C_BadValue) "__class__" = some (some (.builtin "object.__class__")))
    (eb_BadValue : PySem.W.subIn K (.ref C_BadValue) (.type "BaseException") = some true)
    (ty_BadValue : PySem.W.typeIn K (.ref C_BadValue) = some (.type "type"))
    (kp_BadValue : PySem.W.keepIn K (.ref C_BadValue) = true)
    (hd_BadValue : PySem.W.hasDictIn K C_BadValue = true)
    (mo_BadValue : PySem.W.mroIn K C_BadValue (.type "object") = some true)
    (sa_Broken : PySem.W.findIn K (.ref C_Broken) "__setattr__" = some (some (.builtin "object.__setattr__")))
    (ga_Broken : PySem.W.findIn K (.ref C_Broken) "__getattribute__" = some (some (.builtin "BaseException.__getattribute__")))
    (gg_Broken : PySem.W.findIn K (.ref C_Broken) "__getattr__" = some none)
    (cc_Broken : PySem.W.findIn K (.ref C_Broken) "__class__" = some (some (.builtin "object.__class__")))
    (eb_Broken : PySem.W.subIn K (.ref C_Broken) (.type "BaseException") = some true)
    (ty_Broken : PySem.W.typeIn K (.ref C_Broken) = some (.type "type"))
    (kp_Broken : PySem.W.keepIn K (.ref C_Broken) = true)
    (hd_Broken : PySem.W.hasDictIn K C_Broken = true)
    (mo_Broken : PySem.W.mroIn K C_Broken (.type "object") = some true)
    (sa_Unknown : PySem.W.findIn K (.ref C_Unknown) "__setattr__" = some (some (.builtin "object.__setattr__")))
    (ga_Unknown : PySem.W.findIn K (.ref C_Unknown) "__getattribute__" = some (some (.builtin "BaseException.__getattribute__")))
    (gg_Unknown : PySem.W.findIn K (.ref C_Unknown) "__getattr__" = some none)
    (cc_Unknown : PySem.W.findIn K (.ref C_Unknown) "__class__" = some (some (.builtin "object.__class__")))
    (eb_Unknown : PySem.W.subIn K (.ref C_Unknown) (.type "BaseException") = some true)
    (ty_Unknown : PySem.W.typeIn K (.ref C_Unknown) = some (.type "type"))
    (kp_Unknown : PySem.W.keepIn K (.ref C_Unknown) = true)
    (hd_Unknown : PySem.W.hasDictIn K C_Unknown = true)
    (mo_Unknown : PySem.W.mroIn K C_Unknown (.type "object") = some true)
    (sa_NotHeld : PySem.W.findIn K (.ref C_NotHeld) "__setattr__" = some (some (.builtin "object.__setattr__")))
    (ga_NotHeld : PySem.W.findIn K (.ref C_NotHeld) "__getattribute__" = some (some (.builtin "BaseException.__getattribute__")))
    (gg_NotHeld : PySem.W.findIn K (.ref C_NotHeld) "__getattr__" = some none)
    (cc_NotHeld : PySem.W.findIn K (.ref C_NotHeld) "__class__" = some (some (.builtin "object.__class__")))
    (eb_NotHeld : PySem.W.subIn K (.ref C_NotHeld) (.type "BaseException") = some true)
    (ty_NotHeld : PySem.W.typeIn K (.ref C_NotHeld) = some (.type "type"))
    (kp_NotHeld : PySem.W.keepIn K (.ref C_NotHeld) = true)
    (hd_NotHeld : PySem.W.hasDictIn K C_NotHeld = true)
    (mo_NotHeld : PySem.W.mroIn K C_NotHeld (.type "object") = some true)
    (sa_Fault : PySem.W.findIn K (.ref C_Fault) "__setattr__" = some (some (.builtin "object.__setattr__")))
    (ga_Fault : PySem.W.findIn K (.ref C_Fault) "__getattribute__" = some (some (.builtin "BaseException.__getattribute__")))
    (gg_Fault : PySem.W.findIn K (.ref C_Fault) "__getattr__" = some none)
    (cc_Fault : PySem.W.findIn K (.ref C_Fault) "__class__" = some (some (.builtin "object.__class__")))
    (eb_Fault : PySem.W.subIn K (.ref C_Fault) (.type "BaseException") = some true)
    (ty_Fault : PySem.W.typeIn K (.ref C_Fault) = some (.type "type"))
    (kp_Fault : PySem.W.keepIn K (.ref C_Fault) = true)
    (hd_Fault : PySem.W.hasDictIn K C_Fault = true)
    (mo_Fault : PySem.W.mroIn K C_Fault (.type "object") = some true)
    (sa_NoRoom : PySem.W.findIn K (.ref C_NoRoom) "__setattr__" = some (some (.builtin "object.__setattr__")))
    (ga_NoRoom : PySem.W.findIn K (.ref C_NoRoom) "__getattribute__" = some (some (.builtin "BaseException.__getattribute__")))
    (gg_NoRoom : PySem.W.findIn K (.ref C_NoRoom) "__getattr__" = some none)
    (cc_NoRoom : PySem.W.findIn K (.ref C_NoRoom) "__class__" = some (some (.builtin "object.__class__")))
    (eb_NoRoom : PySem.W.subIn K (.ref C_NoRoom) (.type "BaseException") = some true)
    (ty_NoRoom : PySem.W.typeIn K (.ref C_NoRoom) = some (.type "type"))
    (kp_NoRoom : PySem.W.keepIn K (.ref C_NoRoom) = true)
    (hd_NoRoom : PySem.W.hasDictIn K C_NoRoom = true)
    (mo_NoRoom : PySem.W.mroIn K C_NoRoom (.type "object") = some true)
    (sa_Cut : PySem.W.findIn K (.ref C_Cut) "__setattr__" = some (some (.builtin "object.__setattr__")))
    (ga_Cut : PySem.W.findIn K (.ref C_Cut) "__getattribute__" = some (some (.builtin "BaseException.__getattribute__")))
    (gg_Cut : PySem.W.findIn K (.ref C_Cut) "__getattr__" = some none)
    (cc_Cut : PySem.W.findIn K (.ref C_Cut) "__class__" = some (some (.builtin "object.__class__")))
    (eb_Cut : PySem.W.subIn K (.ref C_Cut) (.type "BaseException") = some true)
    (ty_Cut : PySem.W.typeIn K (.ref C_Cut) = some (.type "type"))
    (kp_Cut : PySem.W.keepIn K (.ref C_Cut) = true)
    (hd_Cut : PySem.W.hasDictIn K C_Cut = true)
    (mo_Cut : PySem.W.mroIn K C_Cut (.type "object") = some true)
    (sa_BadLine : PySem.W.findIn K (.ref C_BadLine) "__setattr__" = some (some (.builtin "object.__setattr__")))
    (ga_BadLine : PySem.W.findIn K (.ref C_BadLine) "__getattribute__" = some (some (.builtin "BaseException.__getattribute__")))
    (gg_BadLine : PySem.W.findIn K (.ref C_BadLine) "__getattr__" = some none)
    (cc_BadLine : PySem.W.findIn K (.ref C_BadLine) "__class__" = some (some (.builtin "object.__class__")))
    (eb_BadLine : PySem.W.subIn K (.ref C_BadLine) (.type "BaseException") = some true)
    (ty_BadLine : PySem.W.typeIn K (.ref C_BadLine) = some (.type "type"))
    (kp_BadLine : PySem.W.keepIn K (.ref C_BadLine) = true)
    (hd_BadLine : PySem.W.hasDictIn K C_BadLine = true)
    (mo_BadLine : PySem.W.mroIn K C_BadLine (.type "object") = some true)
    (x_BadValue : K.lookup C_BadValue = some (excClassObj nm_BadValue qn_BadValue C_BadValue N_BadValue bs_BadValue [.ref C_StoreError, .type "ValueError", .type "Exception", .type "BaseException", .type "object"] true sn_BadValue sub_BadValue ab_BadValue col_BadValue dd_BadValue m0_BadValue m1_BadValue m2_BadValue m3_BadValue m5_BadValue "ValueError.__new__"))
    (nf_BadValue_parameter : PySem.W.findIn K (.ref C_BadValue) "parameter" = some none)
    (nf_BadValue_told : PySem.W.findIn K (.ref C_BadValue) "told" = some none)
    (x_Broken : K.lookup C_Broken = some (excClassObj nm_Broken qn_Broken C_Broken N_Broken bs_Broken [.ref C_StoreError, .type "ValueError", .type "Exception", .type "BaseException", .type "object"] true sn_Broken sub_Broken ab_Broken col_Broken dd_Broken m0_Broken m1_Broken m2_Broken m3_Broken m5_Broken "ValueError.__new__"))
    (nf_Broken_told : PySem.W.findIn K (.ref C_Broken) "told" = some none)
    (nf_Broken_place : PySem.W.findIn K (.ref C_Broken) "place" = some none)
    (nf_Broken_found : PySem.W.findIn K (.ref C_Broken) "found" = some none)
    (nf_Broken_due : PySem.W.findIn K (.ref C_Broken) "due" = some none)
    (x_Unknown : K.lookup C_Unknown = some (excClassObj nm_Unknown qn_Unknown C_Unknown N_Unknown bs_Unknown [.ref C_StoreError, .type "ValueError", .type "Exception", .type "BaseException", .type "object"] true sn_Unknown sub_Unknown ab_Unknown col_Unknown dd_Unknown m0_Unknown m1_Unknown m2_Unknown m3_Unknown m5_Unknown "ValueError.__new__"))
    (nf_Unknown_told : PySem.W.findIn K (.ref C_Unknown) "told" = some none)
    (nf_Unknown_parameter : PySem.W.findIn K (.ref C_Unknown) "parameter" = some none)
    (x_NotHeld : K.lookup C_NotHeld = some (excClassObj nm_NotHeld qn_NotHeld C_NotHeld N_NotHeld bs_NotHeld [.ref C_StoreError, .type "ValueError", .type "Exception", .type "BaseException", .type "object"] true sn_NotHeld sub_NotHeld ab_NotHeld col_NotHeld dd_NotHeld m0_NotHeld m1_NotHeld m2_NotHeld m3_NotHeld m5_NotHeld "ValueError.__new__"))
    (nf_NotHeld_told : PySem.W.findIn K (.ref C_NotHeld) "told" = some none)
    (nf_NotHeld_place : PySem.W.findIn K (.ref C_NotHeld) "place" = some none)
    (nf_NotHeld_found : PySem.W.findIn K (.ref C_NotHeld) "found" = some none)
    (x_Fault : K.lookup C_Fault = some (excClassObj nm_Fault qn_Fault C_Fault N_Fault bs_Fault [.ref C_StoreError, .type "ValueError", .type "Exception", .type "BaseException", .type "object"] true sn_Fault sub_Fault ab_Fault col_Fault dd_Fault m0_Fault m1_Fault m2_Fault m3_Fault m5_Fault "ValueError.__new__"))
    (nf_Fault_told : PySem.W.findIn K (.ref C_Fault) "told" = some none)
    (nf_Fault_kind : PySem.W.findIn K (.ref C_Fault) "kind" = some none)
    (nf_Fault_place : PySem.W.findIn K (.ref C_Fault) "place" = some none)
    (x_NoRoom : K.lookup C_NoRoom = some (excClassObj nm_NoRoom qn_NoRoom C_NoRoom N_NoRoom bs_NoRoom [.ref C_StoreError, .type "ValueError", .type "Exception", .type "BaseException", .type "object"] true sn_NoRoom sub_NoRoom ab_NoRoom col_NoRoom dd_NoRoom m0_NoRoom m1_NoRoom m2_NoRoom m3_NoRoom m5_NoRoom "ValueError.__new__"))
    (nf_NoRoom_told : PySem.W.findIn K (.ref C_NoRoom) "told" = some none)
    (nf_NoRoom_paper : PySem.W.findIn K (.ref C_NoRoom) "paper" = some none)
    (x_Cut : K.lookup C_Cut = some (excClassObj nm_Cut qn_Cut C_Cut N_Cut bs_Cut [.ref C_StoreError, .type "ValueError", .type "Exception", .type "BaseException", .type "object"] true sn_Cut sub_Cut ab_Cut col_Cut dd_Cut m0_Cut m1_Cut m2_Cut m3_Cut m5_Cut "ValueError.__new__"))
    (nf_Cut_told : PySem.W.findIn K (.ref C_Cut) "told" = some none)
    (nf_Cut_needed : PySem.W.findIn K (.ref C_Cut) "needed" = some none)
    (nf_Cut_left : PySem.W.findIn K (.ref C_Cut) "left" = some none)
    (x_BadLine : K.lookup C_BadLine = some (excClassObj nm_BadLine qn_BadLine C_BadLine N_BadLine bs_BadLine [.ref C_StoreError, .type "ValueError", .type "Exception", .type "BaseException", .type "object"] true sn_BadLine sub_BadLine ab_BadLine col_BadLine dd_BadLine m0_BadLine m1_BadLine m2_BadLine m3_BadLine m5_BadLine "ValueError.__new__"))
    (nf_BadLine_told : PySem.W.findIn K (.ref C_BadLine) "told" = some none)
    (nf_BadLine_line : PySem.W.findIn K (.ref C_BadLine) "line" = some none)
    (nf_BadLine_column : PySem.W.findIn K (.ref C_BadLine) "column" = some none)
    (sp1 : PySem.W.specialIn K (.builtin "object.__class__") "__get__" = some (some (.builtin "getset_descriptor.__get__")))
    (sp2 : PySem.W.takesIn K (.builtin "object.__class__") = some true)
    (kit_BadValue_StoreError : PySem.W.kitOne K (.ref C_BadValue) (.ref C_StoreError) = some true)
    (kit_BadValue_ValueError : PySem.W.kitOne K (.ref C_BadValue) (.type "ValueError") = some true)
    (kit_Broken_StoreError : PySem.W.kitOne K (.ref C_Broken) (.ref C_StoreError) = some true)
    (kit_Broken_ValueError : PySem.W.kitOne K (.ref C_Broken) (.type "ValueError") = some true)
    (kit_Unknown_StoreError : PySem.W.kitOne K (.ref C_Unknown) (.ref C_StoreError) = some true)
    (kit_Unknown_ValueError : PySem.W.kitOne K (.ref C_Unknown) (.type "ValueError") = some true)
    (kit_NotHeld_StoreError : PySem.W.kitOne K (.ref C_NotHeld) (.ref C_StoreError) = some true)
    (kit_NotHeld_ValueError : PySem.W.kitOne K (.ref C_NotHeld) (.type "ValueError") = some true)
    (kit_Fault_StoreError : PySem.W.kitOne K (.ref C_Fault) (.ref C_StoreError) = some true)
    (kit_Fault_ValueError : PySem.W.kitOne K (.ref C_Fault) (.type "ValueError") = some true)
    (kit_NoRoom_StoreError : PySem.W.kitOne K (.ref C_NoRoom) (.ref C_StoreError) = some true)
    (kit_NoRoom_ValueError : PySem.W.kitOne K (.ref C_NoRoom) (.type "ValueError") = some true)
    (kit_Cut_StoreError : PySem.W.kitOne K (.ref C_Cut) (.ref C_StoreError) = some true)
    (kit_Cut_ValueError : PySem.W.kitOne K (.ref C_Cut) (.type "ValueError") = some true)
    (kit_BadLine_StoreError : PySem.W.kitOne K (.ref C_BadLine) (.ref C_StoreError) = some true)
    (kit_BadLine_ValueError : PySem.W.kitOne K (.ref C_BadLine) (.type "ValueError") = some true)
    (kit_BadValue_BadValue : PySem.W.kitOne K (.ref C_BadValue) (.ref C_BadValue) = some true)
    (kit_BadValue_Broken : PySem.W.kitOne K (.ref C_BadValue) (.ref C_Broken) = some false)
    (kit_BadValue_Unknown : PySem.W.kitOne K (.ref C_BadValue) (.ref C_Unknown) = some false)
    (kit_BadValue_NotHeld : PySem.W.kitOne K (.ref C_BadValue) (.ref C_NotHeld) = some false)
    (kit_BadValue_Fault : PySem.W.kitOne K (.ref C_BadValue) (.ref C_Fault) = some false)
    (kit_BadValue_NoRoom : PySem.W.kitOne K (.ref C_BadValue) (.ref C_NoRoom) = some false)
    (kit_BadValue_Cut : PySem.W.kitOne K (.ref C_BadValue) (.ref C_Cut) = some false)
    (kit_BadValue_BadLine : PySem.W.kitOne K (.ref C_BadValue) (.ref C_BadLine) = some false)
    (kit_Broken_BadValue : PySem.W.kitOne K (.ref C_Broken) (.ref C_BadValue) = some false)
    (kit_Broken_Broken : PySem.W.kitOne K (.ref C_Broken) (.ref C_Broken) = some true)
    (kit_Broken_Unknown : PySem.W.kitOne K (.ref C_Broken) (.ref C_Unknown) = some false)
    (kit_Broken_NotHeld : PySem.W.kitOne K (.ref C_Broken) (.ref C_NotHeld) = some false)
    (kit_Broken_Fault : PySem.W.kitOne K (.ref C_Broken) (.ref C_Fault) = some false)
    (kit_Broken_NoRoom : PySem.W.kitOne K (.ref C_Broken) (.ref C_NoRoom) = some false)
    (kit_Broken_Cut : PySem.W.kitOne K (.ref C_Broken) (.ref C_Cut) = some false)
    (kit_Broken_BadLine : PySem.W.kitOne K (.ref C_Broken) (.ref C_BadLine) = some false)
    (kit_Unknown_BadValue : PySem.W.kitOne K (.ref C_Unknown) (.ref C_BadValue) = some false)
    (kit_Unknown_Broken : PySem.W.kitOne K (.ref C_Unknown) (.ref C_Broken) = some false)
    (kit_Unknown_Unknown : PySem.W.kitOne K (.ref C_Unknown) (.ref C_Unknown) = some true)
    (kit_Unknown_NotHeld : PySem.W.kitOne K (.ref C_Unknown) (.ref C_NotHeld) = some false)
    (kit_Unknown_Fault : PySem.W.kitOne K (.ref C_Unknown) (.ref C_Fault) = some false)
    (kit_Unknown_NoRoom : PySem.W.kitOne K (.ref C_Unknown) (.ref C_NoRoom) = some false)
    (kit_Unknown_Cut : PySem.W.kitOne K (.ref C_Unknown) (.ref C_Cut) = some false)
    (kit_Unknown_BadLine : PySem.W.kitOne K (.ref C_Unknown) (.ref C_BadLine) = some false)
    (kit_NotHeld_BadValue : PySem.W.kitOne K (.ref C_NotHeld) (.ref C_BadValue) = some false)
    (kit_NotHeld_Broken : PySem.W.kitOne K (.ref C_NotHeld) (.ref C_Broken) = some false)
    (kit_NotHeld_Unknown : PySem.W.kitOne K (.ref C_NotHeld) (.ref C_Unknown) = some false)
    (kit_NotHeld_NotHeld : PySem.W.kitOne K (.ref C_NotHeld) (.ref C_NotHeld) = some true)
    (kit_NotHeld_Fault : PySem.W.kitOne K (.ref C_NotHeld) (.ref C_Fault) = some false)
    (kit_NotHeld_NoRoom : PySem.W.kitOne K (.ref C_NotHeld) (.ref C_NoRoom) = some false)
    (kit_NotHeld_Cut : PySem.W.kitOne K (.ref C_NotHeld) (.ref C_Cut) = some false)
    (kit_NotHeld_BadLine : PySem.W.kitOne K (.ref C_NotHeld) (.ref C_BadLine) = some false)
    (kit_Fault_BadValue : PySem.W.kitOne K (.ref C_Fault) (.ref C_BadValue) = some false)
    (kit_Fault_Broken : PySem.W.kitOne K (.ref C_Fault) (.ref C_Broken) = some false)
    (kit_Fault_Unknown : PySem.W.kitOne K (.ref C_Fault) (.ref C_Unknown) = some false)
    (kit_Fault_NotHeld : PySem.W.kitOne K (.ref C_Fault) (.ref C_NotHeld) = some false)
    (kit_Fault_Fault : PySem.W.kitOne K (.ref C_Fault) (.ref C_Fault) = some true)
    (kit_Fault_NoRoom : PySem.W.kitOne K (.ref C_Fault) (.ref C_NoRoom) = some false)
    (kit_Fault_Cut : PySem.W.kitOne K (.ref C_Fault) (.ref C_Cut) = some false)
    (kit_Fault_BadLine : PySem.W.kitOne K (.ref C_Fault) (.ref C_BadLine) = some false)
    (kit_NoRoom_BadValue : PySem.W.kitOne K (.ref C_NoRoom) (.ref C_BadValue) = some false)
    (kit_NoRoom_Broken : PySem.W.kitOne K (.ref C_NoRoom) (.ref C_Broken) = some false)
    (kit_NoRoom_Unknown : PySem.W.kitOne K (.ref C_NoRoom) (.ref C_Unknown) = some false)
    (kit_NoRoom_NotHeld : PySem.W.kitOne K (.ref C_NoRoom) (.ref C_NotHeld) = some false)
    (kit_NoRoom_Fault : PySem.W.kitOne K (.ref C_NoRoom) (.ref C_Fault) = some false)
    (kit_NoRoom_NoRoom : PySem.W.kitOne K (.ref C_NoRoom) (.ref C_NoRoom) = some true)
    (kit_NoRoom_Cut : PySem.W.kitOne K (.ref C_NoRoom) (.ref C_Cut) = some false)
    (kit_NoRoom_BadLine : PySem.W.kitOne K (.ref C_NoRoom) (.ref C_BadLine) = some false)
    (kit_Cut_BadValue : PySem.W.kitOne K (.ref C_Cut) (.ref C_BadValue) = some false)
    (kit_Cut_Broken : PySem.W.kitOne K (.ref C_Cut) (.ref C_Broken) = some false)
    (kit_Cut_Unknown : PySem.W.kitOne K (.ref C_Cut) (.ref C_Unknown) = some false)
    (kit_Cut_NotHeld : PySem.W.kitOne K (.ref C_Cut) (.ref C_NotHeld) = some false)
    (kit_Cut_Fault : PySem.W.kitOne K (.ref C_Cut) (.ref C_Fault) = some false)
    (kit_Cut_NoRoom : PySem.W.kitOne K (.ref C_Cut) (.ref C_NoRoom) = some false)
    (kit_Cut_Cut : PySem.W.kitOne K (.ref C_Cut) (.ref C_Cut) = some true)
    (kit_Cut_BadLine : PySem.W.kitOne K (.ref C_Cut) (.ref C_BadLine) = some false)
    (kit_BadLine_BadValue : PySem.W.kitOne K (.ref C_BadLine) (.ref C_BadValue) = some false)
    (kit_BadLine_Broken : PySem.W.kitOne K (.ref C_BadLine) (.ref C_Broken) = some false)
    (kit_BadLine_Unknown : PySem.W.kitOne K (.ref C_BadLine) (.ref C_Unknown) = some false)
    (kit_BadLine_NotHeld : PySem.W.kitOne K (.ref C_BadLine) (.ref C_NotHeld) = some false)
    (kit_BadLine_Fault : PySem.W.kitOne K (.ref C_BadLine) (.ref C_Fault) = some false)
    (kit_BadLine_NoRoom : PySem.W.kitOne K (.ref C_BadLine) (.ref C_NoRoom) = some false)
    (kit_BadLine_Cut : PySem.W.kitOne K (.ref C_BadLine) (.ref C_Cut) = some false)
    (kit_BadLine_BadLine : PySem.W.kitOne K (.ref C_BadLine) (.ref C_BadLine) = some true)
    (sub_BadValue_BadValue : PySem.W.subIn K (.ref C_BadValue) (.ref C_BadValue) = some true)
    : ∃ fd : FuncData, (∀ (s : Shared) (u : Value), BindsTo s fd ⟨[u], []⟩ [("_law_script", u)]) ∧ ∀ base : Heap, K.In base → base.Ns mainGlobals mg → FnOk P w K mg base CX0 14 fa fd ["_law_script"] (sp_end K) := by
  have e := hfa.symm.trans (PySem.W.mg_of X G a_l_law)
  cases e
  have F_c_BadValue_init := fun_mk (st := s_c_BadValue_init) l_c_BadValue_init c_c_BadValue_init k_c_BadValue_init
  have B_c_BadValue_init := F_c_BadValue_init.binds (ps := ["self", "parameter"]) fun _ _ _ _ _ _ us hl => match us, hl with | [_, _], _ => rfl
  have F_c_Broken_init := fun_mk (st := s_c_Broken_init) l_c_Broken_init c_c_Broken_init k_c_Broken_init
  have B_c_Broken_init := F_c_Broken_init.binds (ps := ["self", "place", "found", "due"]) fun _ _ _ _ _ _ us hl => match us, hl with | [_, _, _, _], _ => rfl
  have F_c_Unknown_init := fun_mk (st := s_c_Unknown_init) l_c_Unknown_init c_c_Unknown_init k_c_Unknown_init
  have B_c_Unknown_init := F_c_Unknown_init.binds (ps := ["self", "parameter"]) fun _ _ _ _ _ _ us hl => match us, hl with | [_, _], _ => rfl
  have F_c_NotHeld_init := fun_mk (st := s_c_NotHeld_init) l_c_NotHeld_init c_c_NotHeld_init k_c_NotHeld_init
  have B_c_NotHeld_init := F_c_NotHeld_init.binds (ps := ["self", "place", "found"]) fun _ _ _ _ _ _ us hl => match us, hl with | [_, _, _], _ => rfl
  have F_c_Fault_init := fun_mk (st := s_c_Fault_init) l_c_Fault_init c_c_Fault_init k_c_Fault_init
  have B_c_Fault_init := F_c_Fault_init.binds (ps := ["self", "kind", "place"]) fun _ _ _ _ _ _ us hl => match us, hl with | [_, _, _], _ => rfl
  have F_c_NoRoom_init := fun_mk (st := s_c_NoRoom_init) l_c_NoRoom_init c_c_NoRoom_init k_c_NoRoom_init
  have B_c_NoRoom_init := F_c_NoRoom_init.binds (ps := ["self", "paper"]) fun _ _ _ _ _ _ us hl => match us, hl with | [_, _], _ => rfl
  have F_c_Cut_init := fun_mk (st := s_c_Cut_init) l_c_Cut_init c_c_Cut_init k_c_Cut_init
  have B_c_Cut_init := F_c_Cut_init.binds (ps := ["self", "needed", "left"]) fun _ _ _ _ _ _ us hl => match us, hl with | [_, _, _], _ => rfl
  have F_c_BadLine_init := fun_mk (st := s_c_BadLine_init) l_c_BadLine_init c_c_BadLine_init k_c_BadLine_init
  have B_c_BadLine_init := F_c_BadLine_init.binds (ps := ["self", "line", "column"]) fun _ _ _ _ _ _ us hl => match us, hl with | [_, _, _], _ => rfl
  have F_p_is_whole := fun_mk (st := s_p_is_whole) l_p_is_whole c_p_is_whole k_p_is_whole
  have B_p_is_whole := F_p_is_whole.binds (ps := ["value"]) fun _ _ _ _ _ _ us hl => match us, hl with | [_], _ => rfl
  have F_p_whole_between := fun_mk (st := s_p_whole_between) l_p_whole_between c_p_whole_between k_p_whole_between
  have B_p_whole_between := F_p_whole_between.binds (ps := ["value", "low", "high"]) fun _ _ _ _ _ _ us hl => match us, hl with | [_, _, _], _ => rfl
  have F_p_is_power := fun_mk (st := s_p_is_power) l_p_is_power c_p_is_power k_p_is_power
  have B_p_is_power := F_p_is_power.binds (ps := ["value"]) fun _ _ _ _ _ _ us hl => match us, hl with | [_], _ => rfl
  have F_p_is_align := fun_mk (st := s_p_is_align) l_p_is_align c_p_is_align k_p_is_align
  have B_p_is_align := F_p_is_align.binds (ps := ["value", "most"]) fun _ _ _ _ _ _ us hl => match us, hl with | [_, _], _ => rfl
  have F_p_align_up := fun_mk (st := s_p_align_up) l_p_align_up c_p_align_up k_p_align_up
  have B_p_align_up := F_p_align_up.binds (ps := ["number", "align"]) fun _ _ _ _ _ _ us hl => match us, hl with | [_, _], _ => rfl
  have F_p_align_down := fun_mk (st := s_p_align_down) l_p_align_down c_p_align_down k_p_align_down
  have B_p_align_down := F_p_align_down.binds (ps := ["number", "align"]) fun _ _ _ _ _ _ us hl => match us, hl with | [_, _], _ => rfl
  have F_p_order_of := fun_mk (st := s_p_order_of) l_p_order_of c_p_order_of k_p_order_of
  have B_p_order_of := F_p_order_of.binds (ps := ["count"]) fun _ _ _ _ _ _ us hl => match us, hl with | [_], _ => rfl
  have F_p_power_in := fun_mk (st := s_p_power_in) l_p_power_in c_p_power_in k_p_power_in
  have B_p_power_in := F_p_power_in.binds (ps := ["number"]) fun _ _ _ _ _ _ us hl => match us, hl with | [_], _ => rfl
  have F_l_draws := fun_mk (st := s_l_draws) l_l_draws c_l_draws k_l_draws
  have B_l_draws := F_l_draws.binds (ps := ["_law_script"]) fun _ _ _ _ _ _ us hl => match us, hl with | [_], _ => rfl
  have F_l_next_cell := fun_mk (st := s_l_next_cell) l_l_next_cell c_l_next_cell k_l_next_cell
  have B_l_next_cell := F_l_next_cell.binds (ps := ["_law_draws_here"]) fun _ _ _ _ _ _ us hl => match us, hl with | [_], _ => rfl
  have F_l_mixed := fun_mk (st := s_l_mixed) l_l_mixed c_l_mixed k_l_mixed
  have B_l_mixed := F_l_mixed.binds (ps := ["_law_seed", "_law_turn", "_law_many"]) fun _ _ _ _ _ _ us hl => match us, hl with | [_, _, _], _ => rfl
  have F_l_take := fun_mk (st := s_l_take) l_l_take c_l_take k_l_take
  have B_l_take := F_l_take.binds (ps := ["_law_draws_here", "_law_many"]) fun _ _ _ _ _ _ us hl => match us, hl with | [_, _], _ => rfl
  have F_l_among := fun_mk (st := s_l_among) l_l_among c_l_among k_l_among
  have B_l_among := F_l_among.binds (ps := ["_law_draws_here", "_law_row"]) fun _ _ _ _ _ _ us hl => match us, hl with | [_, _], _ => rfl
  have F_l_between := fun_mk (st := s_l_between) l_l_between c_l_between k_l_between
  have B_l_between := F_l_between.binds (ps := ["_law_draws_here", "_law_low", "_law_high"]) fun _ _ _ _ _ _ us hl => match us, hl with | [_, _, _], _ => rfl
  have F_l_number := fun_mk (st := s_l_number) l_l_number c_l_number k_l_number
  have B_l_number := F_l_number.binds (ps := ["_law_draws_here", "_law_low", "_law_high"]) fun _ _ _ _ _ _ us hl => match us, hl with | [_, _, _], _ => rfl
  have F_l_alignment := fun_mk (st := s_l_alignment) l_l_alignment c_l_alignment k_l_alignment
  have B_l_alignment := F_l_alignment.binds (ps := ["_law_draws_here", "_law_most"]) fun _ _ _ _ _ _ us hl => match us, hl with | [_, _], _ => rfl
  have F_l_power := fun_mk (st := s_l_power) l_l_power c_l_power k_l_power
  have B_l_power := F_l_power.binds (ps := ["_law_number_here"]) fun _ _ _ _ _ _ us hl => match us, hl with | [_], _ => rfl
  have F_l_long := fun_mk (st := s_l_long) l_l_long c_l_long k_l_long
  have B_l_long := F_l_long.binds (ps := []) fun _ _ _ _ _ _ us hl => match us, hl with | [], _ => rfl
  have F_l_integer := fun_mk (st := s_l_integer) l_l_integer c_l_integer k_l_integer
  have B_l_integer := F_l_integer.binds (ps := ["_law_draws_here"]) fun _ _ _ _ _ _ us hl => match us, hl with | [_], _ => rfl
  have F_l_chars := fun_mk (st := s_l_chars) l_l_chars c_l_chars k_l_chars
  have B_l_chars := F_l_chars.binds (ps := []) fun _ _ _ _ _ _ us hl => match us, hl with | [], _ => rfl
  have F_l_text := fun_mk (st := s_l_text) l_l_text c_l_text k_l_text
  have B_l_text := F_l_text.binds (ps := ["_law_draws_here", "_law_most"]) fun _ _ _ _ _ _ us hl => match us, hl with | [_, _], _ => rfl
  have F_l_plain := fun_mk (st := s_l_plain) l_l_plain c_l_plain k_l_plain
  have B_l_plain := F_l_plain.binds (ps := ["_law_draws_here", "_law_deep"]) fun _ _ _ _ _ _ us hl => match us, hl with | [_, _], _ => rfl
  have F_l_not_integer := fun_mk (st := s_l_not_integer) l_l_not_integer c_l_not_integer k_l_not_integer
  have B_l_not_integer := F_l_not_integer.binds (ps := ["_law_draws_here"]) fun _ _ _ _ _ _ us hl => match us, hl with | [_], _ => rfl
  have F_l_not_within := fun_mk (st := s_l_not_within) l_l_not_within c_l_not_within k_l_not_within
  have B_l_not_within := F_l_not_within.binds (ps := ["_law_draws_here", "_law_low", "_law_high"]) fun _ _ _ _ _ _ us hl => match us, hl with | [_, _, _], _ => rfl
  have F_l_not_alignment := fun_mk (st := s_l_not_alignment) l_l_not_alignment c_l_not_alignment k_l_not_alignment
  have B_l_not_alignment := F_l_not_alignment.binds (ps := ["_law_draws_here", "_law_most"]) fun _ _ _ _ _ _ us hl => match us, hl with | [_, _], _ => rfl
  have F_l_is_int := fun_mk (st := s_l_is_int) l_l_is_int c_l_is_int k_l_is_int
  have B_l_is_int := F_l_is_int.binds (ps := ["_law_value"]) fun _ _ _ _ _ _ us hl => match us, hl with | [_], _ => rfl
  have F_l_is_within := fun_mk (st := s_l_is_within) l_l_is_within c_l_is_within k_l_is_within
  have B_l_is_within := F_l_is_within.binds (ps := ["_law_value", "_law_low", "_law_high"]) fun _ _ _ _ _ _ us hl => match us, hl with | [_, _, _], _ => rfl
  have F_l_same := fun_mk (st := s_l_same) l_l_same c_l_same k_l_same
  have B_l_same := F_l_same.binds (ps := ["_law_actual", "_law_expected"]) fun _ _ _ _ _ _ us hl => match us, hl with | [_, _], _ => rfl
  have F_l_copy := fun_mk (st := s_l_copy) l_l_copy c_l_copy k_l_copy
  have B_l_copy := F_l_copy.binds (ps := ["_law_value"]) fun _ _ _ _ _ _ us hl => match us, hl with | [_], _ => rfl
  have F_l_kinds := fun_mk (st := s_l_kinds) l_l_kinds c_l_kinds k_l_kinds
  have B_l_kinds := F_l_kinds.binds (ps := ["_law_error"]) fun _ _ _ _ _ _ us hl => match us, hl with | [_], _ => rfl
  have F_l_refused := fun_mk (st := s_l_refused) l_l_refused c_l_refused k_l_refused
  have B_l_refused := F_l_refused.binds (ps := ["_law_title", "_law_fields"]) fun _ _ _ _ _ _ us hl => match us, hl with | [_, _], _ => rfl
  have F_l_made_right := fun_mk (st := s_l_made_right) l_l_made_right c_l_made_right k_l_made_right
  have B_l_made_right := F_l_made_right.binds (ps := ["_law_one", "_law_two", "_law_three"]) fun _ _ _ _ _ _ us hl => match us, hl with | [_, _, _], _ => rfl
  have F_l_numbers_right := fun_mk (st := s_l_numbers_right) l_l_numbers_right c_l_numbers_right k_l_numbers_right
  have B_l_numbers_right := F_l_numbers_right.binds (ps := []) fun _ _ _ _ _ _ us hl => match us, hl with | [], _ => rfl
  have F_l_asked := fun_mk (st := s_l_asked) l_l_asked c_l_asked k_l_asked
  have B_l_asked := F_l_asked.binds (ps := ["_law_title", "_law_first", "_law_second"]) fun _ _ _ _ _ _ us hl => match us, hl with | [_, _, _], _ => rfl
  have F_l_aligned_right := fun_mk (st := s_l_aligned_right) l_l_aligned_right c_l_aligned_right k_l_aligned_right
  have B_l_aligned_right := F_l_aligned_right.binds (ps := ["_law_number_here", "_law_alignment_here"]) fun _ _ _ _ _ _ us hl => match us, hl with | [_, _], _ => rfl
  have F_l_order_right := fun_mk (st := s_l_order_right) l_l_order_right c_l_order_right k_l_order_right
  have B_l_order_right := F_l_order_right.binds (ps := ["_law_count"]) fun _ _ _ _ _ _ us hl => match us, hl with | [_], _ => rfl
  have F_l_factor_right := fun_mk (st := s_l_factor_right) l_l_factor_right c_l_factor_right k_l_factor_right
  have B_l_factor_right := F_l_factor_right.binds (ps := ["_law_number_here"]) fun _ _ _ _ _ _ us hl => match us, hl with | [_], _ => rfl
  have F_l_great_power := fun_mk (st := s_l_great_power) l_l_great_power c_l_great_power k_l_great_power
  have B_l_great_power := F_l_great_power.binds (ps := ["_law_draws_here"]) fun _ _ _ _ _ _ us hl => match us, hl with | [_], _ => rfl
  have F_l_is_power_due := fun_mk (st := s_l_is_power_due) l_l_is_power_due c_l_is_power_due k_l_is_power_due
  have B_l_is_power_due := F_l_is_power_due.binds (ps := ["_law_value"]) fun _ _ _ _ _ _ us hl => match us, hl with | [_], _ => rfl
  have F_l_judged_right := fun_mk (st := s_l_judged_right) l_l_judged_right c_l_judged_right k_l_judged_right
  have B_l_judged_right := F_l_judged_right.binds (ps := ["_law_values"]) fun _ _ _ _ _ _ us hl => match us, hl with | [_], _ => rfl
  have F_l_refused_right := fun_mk (st := s_l_refused_right) l_l_refused_right c_l_refused_right k_l_refused_right
  have B_l_refused_right := F_l_refused_right.binds (ps := ["_law_draws_here", "_law_number_here", "_law_alignment_here"]) fun _ _ _ _ _ _ us hl => match us, hl with | [_, _, _], _ => rfl
  have F_l_law := fun_mk (st := s_l_law) l_l_law c_l_law k_l_law
  have B_l_law := F_l_law.binds (ps := ["_law_script"]) fun _ _ _ _ _ _ us hl => match us, hl with | [_], _ => rfl
  have ox_BadValue : OexC K C_BadValue := { cls := ⟨nm_BadValue, qn_BadValue, N_BadValue, bs_BadValue, _, sn_BadValue, sub_BadValue, ab_BadValue, col_BadValue, dd_BadValue, m0_BadValue, m1_BadValue, m2_BadValue, m3_BadValue, m5_BadValue, x_BadValue, rfl⟩, sa := sa_BadValue, exC := eb_BadValue, tyC := ty_BadValue, kC := kp_BadValue }
  have ox_Broken : OexC K C_Broken := { cls := ⟨nm_Broken, qn_Broken, N_Broken, bs_Broken, _, sn_Broken, sub_Broken, ab_Broken, col_Broken, dd_Broken, m0_Broken, m1_Broken, m2_Broken, m3_Broken, m5_Broken, x_Broken, rfl⟩, sa := sa_Broken, exC := eb_Broken, tyC := ty_Broken, kC := kp_Broken }
  have ox_Unknown : OexC K C_Unknown := { cls := ⟨nm_Unknown, qn_Unknown, N_Unknown, bs_Unknown, _, sn_Unknown, sub_Unknown, ab_Unknown, col_Unknown, dd_Unknown, m0_Unknown, m1_Unknown, m2_Unknown, m3_Unknown, m5_Unknown, x_Unknown, rfl⟩, sa := sa_Unknown, exC := eb_Unknown, tyC := ty_Unknown, kC := kp_Unknown }
  have ox_NotHeld : OexC K C_NotHeld := { cls := ⟨nm_NotHeld, qn_NotHeld, N_NotHeld, bs_NotHeld, _, sn_NotHeld, sub_NotHeld, ab_NotHeld, col_NotHeld, dd_NotHeld, m0_NotHeld, m1_NotHeld, m2_NotHeld, m3_NotHeld, m5_NotHeld, x_NotHeld, rfl⟩, sa := sa_NotHeld, exC := eb_NotHeld, tyC := ty_NotHeld, kC := kp_NotHeld }
  have ox_Fault : OexC K C_Fault := { cls := ⟨nm_Fault, qn_Fault, N_Fault, bs_Fault, _, sn_Fault, sub_Fault, ab_Fault, col_Fault, dd_Fault, m0_Fault, m1_Fault, m2_Fault, m3_Fault, m5_Fault, x_Fault, rfl⟩, sa := sa_Fault, exC := eb_Fault, tyC := ty_Fault, kC := kp_Fault }
  have ox_NoRoom : OexC K C_NoRoom := { cls := ⟨nm_NoRoom, qn_NoRoom, N_NoRoom, bs_NoRoom, _, sn_NoRoom, sub_NoRoom, ab_NoRoom, col_NoRoom, dd_NoRoom, m0_NoRoom, m1_NoRoom, m2_NoRoom, m3_NoRoom, m5_NoRoom, x_NoRoom, rfl⟩, sa := sa_NoRoom, exC := eb_NoRoom, tyC := ty_NoRoom, kC := kp_NoRoom }
  have ox_Cut : OexC K C_Cut := { cls := ⟨nm_Cut, qn_Cut, N_Cut, bs_Cut, _, sn_Cut, sub_Cut, ab_Cut, col_Cut, dd_Cut, m0_Cut, m1_Cut, m2_Cut, m3_Cut, m5_Cut, x_Cut, rfl⟩, sa := sa_Cut, exC := eb_Cut, tyC := ty_Cut, kC := kp_Cut }
  have ox_BadLine : OexC K C_BadLine := { cls := ⟨nm_BadLine, qn_BadLine, N_BadLine, bs_BadLine, _, sn_BadLine, sub_BadLine, ab_BadLine, col_BadLine, dd_BadLine, m0_BadLine, m1_BadLine, m2_BadLine, m3_BadLine, m5_BadLine, x_BadLine, rfl⟩, sa := sa_BadLine, exC := eb_BadLine, tyC := ty_BadLine, kC := kp_BadLine }
  have xf_BadValue : XfC K C_BadValue := ⟨ga_BadValue, gg_BadValue, eb_BadValue, hd_BadValue⟩
  have ex_BadValue : ExcC K C_BadValue := ⟨ga_BadValue, gg_BadValue, eb_BadValue, hd_BadValue, cc_BadValue, sp1, sp2, mo_BadValue⟩
  have xf_Broken : XfC K C_Broken := ⟨ga_Broken, gg_Broken, eb_Broken, hd_Broken⟩
  have ex_Broken : ExcC K C_Broken := ⟨ga_Broken, gg_Broken, eb_Broken, hd_Broken, cc_Broken, sp1, sp2, mo_Broken⟩
  have xf_Unknown : XfC K C_Unknown := ⟨ga_Unknown, gg_Unknown, eb_Unknown, hd_Unknown⟩
  have ex_Unknown : ExcC K C_Unknown := ⟨ga_Unknown, gg_Unknown, eb_Unknown, hd_Unknown, cc_Unknown, sp1, sp2, mo_Unknown⟩
  have xf_NotHeld : XfC K C_NotHeld := ⟨ga_NotHeld, gg_NotHeld, eb_NotHeld, hd_NotHeld⟩
  have ex_NotHeld : ExcC K C_NotHeld := ⟨ga_NotHeld, gg_NotHeld, eb_NotHeld, hd_NotHeld, cc_NotHeld, sp1, sp2, mo_NotHeld⟩
  have xf_Fault : XfC K C_Fault := ⟨ga_Fault, gg_Fault, eb_Fault, hd_Fault⟩
  have ex_Fault : ExcC K C_Fault := ⟨ga_Fault, gg_Fault, eb_Fault, hd_Fault, cc_Fault, sp1, sp2, mo_Fault⟩
  have xf_NoRoom : XfC K C_NoRoom := ⟨ga_NoRoom, gg_NoRoom, eb_NoRoom, hd_NoRoom⟩
  have ex_NoRoom : ExcC K C_NoRoom := ⟨ga_NoRoom, gg_NoRoom, eb_NoRoom, hd_NoRoom, cc_NoRoom, sp1, sp2, mo_NoRoom⟩
  have xf_Cut : XfC K C_Cut := ⟨ga_Cut, gg_Cut, eb_Cut, hd_Cut⟩
  have ex_Cut : ExcC K C_Cut := ⟨ga_Cut, gg_Cut, eb_Cut, hd_Cut, cc_Cut, sp1, sp2, mo_Cut⟩
  have xf_BadLine : XfC K C_BadLine := ⟨ga_BadLine, gg_BadLine, eb_BadLine, hd_BadLine⟩
  have ex_BadLine : ExcC K C_BadLine := ⟨ga_BadLine, gg_BadLine, eb_BadLine, hd_BadLine, cc_BadLine, sp1, sp2, mo_BadLine⟩
  have xm_BadValue_BadValue : PySem.W.exmOne K (.ref C_BadValue) (.ref C_BadValue) = some true := PySem.W.exm_ref eb_BadValue hd_BadValue ty_BadValue sub_BadValue_BadValue
  have bv : BvC K C_BadValue := ⟨ox_BadValue, nf_BadValue_parameter, nf_BadValue_told⟩
  have bk : BvK K { k_StoreError := C_StoreError, k_BadValue := C_BadValue, k_Broken := C_Broken, k_Unknown := C_Unknown, k_NotHeld := C_NotHeld, k_Fault := C_Fault, k_NoRoom := C_NoRoom, k_Cut := C_Cut, k_BadLine := C_BadLine } := ⟨bv, ⟨ex_BadValue, xf_BadValue, kit_BadValue_StoreError, kit_BadValue_ValueError, kit_BadValue_BadValue, kit_BadValue_Broken, kit_BadValue_Unknown, kit_BadValue_NotHeld, kit_BadValue_Fault, kit_BadValue_NoRoom, kit_BadValue_Cut, kit_BadValue_BadLine⟩, xm_BadValue_BadValue⟩
  have er_Broken : ErC K C_Broken ["told", "place", "found", "due"] := ⟨ox_Broken, by intro f hf; simp only [List.mem_cons, List.not_mem_nil, or_false] at hf; rcases hf with rfl | rfl | rfl | rfl <;> first | exact nf_Broken_told | exact nf_Broken_place | exact nf_Broken_found | exact nf_Broken_due⟩
  have kk_Broken : ExK K { k_StoreError := C_StoreError, k_BadValue := C_BadValue, k_Broken := C_Broken, k_Unknown := C_Unknown, k_NotHeld := C_NotHeld, k_Fault := C_Fault, k_NoRoom := C_NoRoom, k_Cut := C_Cut, k_BadLine := C_BadLine } C_Broken false true false false false false false false := ⟨ex_Broken, xf_Broken, kit_Broken_StoreError, kit_Broken_ValueError, kit_Broken_BadValue, kit_Broken_Broken, kit_Broken_Unknown, kit_Broken_NotHeld, kit_Broken_Fault, kit_Broken_NoRoom, kit_Broken_Cut, kit_Broken_BadLine⟩
  have er_Unknown : ErC K C_Unknown ["told", "parameter"] := ⟨ox_Unknown, by intro f hf; simp only [List.mem_cons, List.not_mem_nil, or_false] at hf; rcases hf with rfl | rfl <;> first | exact nf_Unknown_told | exact nf_Unknown_parameter⟩
  have kk_Unknown : ExK K { k_StoreError := C_StoreError, k_BadValue := C_BadValue, k_Broken := C_Broken, k_Unknown := C_Unknown, k_NotHeld := C_NotHeld, k_Fault := C_Fault, k_NoRoom := C_NoRoom, k_Cut := C_Cut, k_BadLine := C_BadLine } C_Unknown false false true false false false false false := ⟨ex_Unknown, xf_Unknown, kit_Unknown_StoreError, kit_Unknown_ValueError, kit_Unknown_BadValue, kit_Unknown_Broken, kit_Unknown_Unknown, kit_Unknown_NotHeld, kit_Unknown_Fault, kit_Unknown_NoRoom, kit_Unknown_Cut, kit_Unknown_BadLine⟩
  have er_NotHeld : ErC K C_NotHeld ["told", "place", "found"] := ⟨ox_NotHeld, by intro f hf; simp only [List.mem_cons, List.not_mem_nil, or_false] at hf; rcases hf with rfl | rfl | rfl <;> first | exact nf_NotHeld_told | exact nf_NotHeld_place | exact nf_NotHeld_found⟩
  have kk_NotHeld : ExK K { k_StoreError := C_StoreError, k_BadValue := C_BadValue, k_Broken := C_Broken, k_Unknown := C_Unknown, k_NotHeld := C_NotHeld, k_Fault := C_Fault, k_NoRoom := C_NoRoom, k_Cut := C_Cut, k_BadLine := C_BadLine } C_NotHeld false false false true false false false false := ⟨ex_NotHeld, xf_NotHeld, kit_NotHeld_StoreError, kit_NotHeld_ValueError, kit_NotHeld_BadValue, kit_NotHeld_Broken, kit_NotHeld_Unknown, kit_NotHeld_NotHeld, kit_NotHeld_Fault, kit_NotHeld_NoRoom, kit_NotHeld_Cut, kit_NotHeld_BadLine⟩
  have er_Fault : ErC K C_Fault ["told", "kind", "place"] := ⟨ox_Fault, by intro f hf; simp only [List.mem_cons, List.not_mem_nil, or_false] at hf; rcases hf with rfl | rfl | rfl <;> first | exact nf_Fault_told | exact nf_Fault_kind | exact nf_Fault_place⟩
  have kk_Fault : ExK K { k_StoreError := C_StoreError, k_BadValue := C_BadValue, k_Broken := C_Broken, k_Unknown := C_Unknown, k_NotHeld := C_NotHeld, k_Fault := C_Fault, k_NoRoom := C_NoRoom, k_Cut := C_Cut, k_BadLine := C_BadLine } C_Fault false false false false true false false false := ⟨ex_Fault, xf_Fault, kit_Fault_StoreError, kit_Fault_ValueError, kit_Fault_BadValue, kit_Fault_Broken, kit_Fault_Unknown, kit_Fault_NotHeld, kit_Fault_Fault, kit_Fault_NoRoom, kit_Fault_Cut, kit_Fault_BadLine⟩
  have er_NoRoom : ErC K C_NoRoom ["told", "paper"] := ⟨ox_NoRoom, by intro f hf; simp only [List.mem_cons, List.not_mem_nil, or_false] at hf; rcases hf with rfl | rfl <;> first | exact nf_NoRoom_told | exact nf_NoRoom_paper⟩
  have kk_NoRoom : ExK K { k_StoreError := C_StoreError, k_BadValue := C_BadValue, k_Broken := C_Broken, k_Unknown := C_Unknown, k_NotHeld := C_NotHeld, k_Fault := C_Fault, k_NoRoom := C_NoRoom, k_Cut := C_Cut, k_BadLine := C_BadLine } C_NoRoom false false false false false true false false := ⟨ex_NoRoom, xf_NoRoom, kit_NoRoom_StoreError, kit_NoRoom_ValueError, kit_NoRoom_BadValue, kit_NoRoom_Broken, kit_NoRoom_Unknown, kit_NoRoom_NotHeld, kit_NoRoom_Fault, kit_NoRoom_NoRoom, kit_NoRoom_Cut, kit_NoRoom_BadLine⟩
  have er_Cut : ErC K C_Cut ["told", "needed", "left"] := ⟨ox_Cut, by intro f hf; simp only [List.mem_cons, List.not_mem_nil, or_false] at hf; rcases hf with rfl | rfl | rfl <;> first | exact nf_Cut_told | exact nf_Cut_needed | exact nf_Cut_left⟩
  have kk_Cut : ExK K { k_StoreError := C_StoreError, k_BadValue := C_BadValue, k_Broken := C_Broken, k_Unknown := C_Unknown, k_NotHeld := C_NotHeld, k_Fault := C_Fault, k_NoRoom := C_NoRoom, k_Cut := C_Cut, k_BadLine := C_BadLine } C_Cut false false false false false false true false := ⟨ex_Cut, xf_Cut, kit_Cut_StoreError, kit_Cut_ValueError, kit_Cut_BadValue, kit_Cut_Broken, kit_Cut_Unknown, kit_Cut_NotHeld, kit_Cut_Fault, kit_Cut_NoRoom, kit_Cut_Cut, kit_Cut_BadLine⟩
  have er_BadLine : ErC K C_BadLine ["told", "line", "column"] := ⟨ox_BadLine, by intro f hf; simp only [List.mem_cons, List.not_mem_nil, or_false] at hf; rcases hf with rfl | rfl | rfl <;> first | exact nf_BadLine_told | exact nf_BadLine_line | exact nf_BadLine_column⟩
  have kk_BadLine : ExK K { k_StoreError := C_StoreError, k_BadValue := C_BadValue, k_Broken := C_Broken, k_Unknown := C_Unknown, k_NotHeld := C_NotHeld, k_Fault := C_Fault, k_NoRoom := C_NoRoom, k_Cut := C_Cut, k_BadLine := C_BadLine } C_BadLine false false false false false false false true := ⟨ex_BadLine, xf_BadLine, kit_BadLine_StoreError, kit_BadLine_ValueError, kit_BadLine_BadValue, kit_BadLine_Broken, kit_BadLine_Unknown, kit_BadLine_NotHeld, kit_BadLine_Fault, kit_BadLine_NoRoom, kit_BadLine_Cut, kit_BadLine_BadLine⟩
  have ak : AllK K { k_StoreError := C_StoreError, k_BadValue := C_BadValue, k_Broken := C_Broken, k_Unknown := C_Unknown, k_NotHeld := C_NotHeld, k_Fault := C_Fault, k_NoRoom := C_NoRoom, k_Cut := C_Cut, k_BadLine := C_BadLine } := ⟨bk, er_Broken, kk_Broken, er_Unknown, kk_Unknown, er_NotHeld, kk_NotHeld, er_Fault, kk_Fault, er_NoRoom, kk_NoRoom, er_Cut, kk_Cut, er_BadLine, kk_BadLine⟩
  let a : Ad := { c := { k_StoreError := C_StoreError, k_BadValue := C_BadValue, k_Broken := C_Broken, k_Unknown := C_Unknown, k_NotHeld := C_NotHeld, k_Fault := C_Fault, k_NoRoom := C_NoRoom, k_Cut := C_Cut, k_BadLine := C_BadLine }, c_BadValue_init := f_c_BadValue_init, c_BadValue_init_d := PySem.W.fnOf "__init__" "BadValue.__init__" (defArgs s_c_BadValue_init) (defBody s_c_BadValue_init) (defScope s_c_BadValue_init) .none kV_c_BadValue_init dc_c_BadValue_init pm_c_BadValue_init an_c_BadValue_init cd_c_BadValue_init ct_c_BadValue_init, c_Broken_init := f_c_Broken_init, c_Broken_init_d := PySem.W.fnOf "__init__" "Broken.__init__" (defArgs s_c_Broken_init) (defBody s_c_Broken_init) (defScope s_c_Broken_init) .none kV_c_Broken_init dc_c_Broken_init pm_c_Broken_init an_c_Broken_init cd_c_Broken_init ct_c_Broken_init, c_Unknown_init := f_c_Unknown_init, c_Unknown_init_d := PySem.W.fnOf "__init__" "Unknown.__init__" (defArgs s_c_Unknown_init) (defBody s_c_Unknown_init) (defScope s_c_Unknown_init) .none kV_c_Unknown_init dc_c_Unknown_init pm_c_Unknown_init an_c_Unknown_init cd_c_Unknown_init ct_c_Unknown_init, c_NotHeld_init := f_c_NotHeld_init, c_NotHeld_init_d := PySem.W.fnOf "__init__" "NotHeld.__init__" (defArgs s_c_NotHeld_init) (defBody s_c_NotHeld_init) (defScope s_c_NotHeld_init) .none kV_c_NotHeld_init dc_c_NotHeld_init pm_c_NotHeld_init an_c_NotHeld_init cd_c_NotHeld_init ct_c_NotHeld_init, c_Fault_init := f_c_Fault_init, c_Fault_init_d := PySem.W.fnOf "__init__" "Fault.__init__" (defArgs s_c_Fault_init) (defBody s_c_Fault_init) (defScope s_c_Fault_init) .none kV_c_Fault_init dc_c_Fault_init pm_c_Fault_init an_c_Fault_init cd_c_Fault_init ct_c_Fault_init, c_NoRoom_init := f_c_NoRoom_init, c_NoRoom_init_d := PySem.W.fnOf "__init__" "NoRoom.__init__" (defArgs s_c_NoRoom_init) (defBody s_c_NoRoom_init) (defScope s_c_NoRoom_init) .none kV_c_NoRoom_init dc_c_NoRoom_init pm_c_NoRoom_init an_c_NoRoom_init cd_c_NoRoom_init ct_c_NoRoom_init, c_Cut_init := f_c_Cut_init, c_Cut_init_d := PySem.W.fnOf "__init__" "Cut.__init__" (defArgs s_c_Cut_init) (defBody s_c_Cut_init) (defScope s_c_Cut_init) .none kV_c_Cut_init dc_c_Cut_init pm_c_Cut_init an_c_Cut_init cd_c_Cut_init ct_c_Cut_init, c_BadLine_init := f_c_BadLine_init, c_BadLine_init_d := PySem.W.fnOf "__init__" "BadLine.__init__" (defArgs s_c_BadLine_init) (defBody s_c_BadLine_init) (defScope s_c_BadLine_init) .none kV_c_BadLine_init dc_c_BadLine_init pm_c_BadLine_init an_c_BadLine_init cd_c_BadLine_init ct_c_BadLine_init, p_is_whole := f_p_is_whole, p_is_whole_d := PySem.W.fnOf "is_whole" "is_whole" (defArgs s_p_is_whole) (defBody s_p_is_whole) (defScope s_p_is_whole) .none kV_p_is_whole dc_p_is_whole pm_p_is_whole an_p_is_whole cd_p_is_whole ct_p_is_whole, p_whole_between := f_p_whole_between, p_whole_between_d := PySem.W.fnOf "whole_between" "whole_between" (defArgs s_p_whole_between) (defBody s_p_whole_between) (defScope s_p_whole_between) .none kV_p_whole_between dc_p_whole_between pm_p_whole_between an_p_whole_between cd_p_whole_between ct_p_whole_between, p_is_power := f_p_is_power, p_is_power_d := PySem.W.fnOf "is_power" "is_power" (defArgs s_p_is_power) (defBody s_p_is_power) (defScope s_p_is_power) .none kV_p_is_power dc_p_is_power pm_p_is_power an_p_is_power cd_p_is_power ct_p_is_power, p_is_align := f_p_is_align, p_is_align_d := PySem.W.fnOf "is_align" "is_align" (defArgs s_p_is_align) (defBody s_p_is_align) (defScope s_p_is_align) .none kV_p_is_align dc_p_is_align pm_p_is_align an_p_is_align cd_p_is_align ct_p_is_align, p_align_up := f_p_align_up, p_align_up_d := PySem.W.fnOf "align_up" "align_up" (defArgs s_p_align_up) (defBody s_p_align_up) (defScope s_p_align_up) .none kV_p_align_up dc_p_align_up pm_p_align_up an_p_align_up cd_p_align_up ct_p_align_up, p_align_down := f_p_align_down, p_align_down_d := PySem.W.fnOf "align_down" "align_down" (defArgs s_p_align_down) (defBody s_p_align_down) (defScope s_p_align_down) .none kV_p_align_down dc_p_align_down pm_p_align_down an_p_align_down cd_p_align_down ct_p_align_down, p_order_of := f_p_order_of, p_order_of_d := PySem.W.fnOf "order_of" "order_of" (defArgs s_p_order_of) (defBody s_p_order_of) (defScope s_p_order_of) .none kV_p_order_of dc_p_order_of pm_p_order_of an_p_order_of cd_p_order_of ct_p_order_of, p_power_in := f_p_power_in, p_power_in_d := PySem.W.fnOf "power_in" "power_in" (defArgs s_p_power_in) (defBody s_p_power_in) (defScope s_p_power_in) .none kV_p_power_in dc_p_power_in pm_p_power_in an_p_power_in cd_p_power_in ct_p_power_in, l_draws := f_l_draws, l_draws_d := PySem.W.fnOf "_law_draws" "_law_draws" (defArgs s_l_draws) (defBody s_l_draws) (defScope s_l_draws) .none kV_l_draws dc_l_draws pm_l_draws an_l_draws cd_l_draws ct_l_draws, l_next_cell := f_l_next_cell, l_next_cell_d := PySem.W.fnOf "_law_next_cell" "_law_next_cell" (defArgs s_l_next_cell) (defBody s_l_next_cell) (defScope s_l_next_cell) .none kV_l_next_cell dc_l_next_cell pm_l_next_cell an_l_next_cell cd_l_next_cell ct_l_next_cell, l_mixed := f_l_mixed, l_mixed_d := PySem.W.fnOf "_law_mixed" "_law_mixed" (defArgs s_l_mixed) (defBody s_l_mixed) (defScope s_l_mixed) .none kV_l_mixed dc_l_mixed pm_l_mixed an_l_mixed cd_l_mixed ct_l_mixed, l_take := f_l_take, l_take_d := PySem.W.fnOf "_law_take" "_law_take" (defArgs s_l_take) (defBody s_l_take) (defScope s_l_take) .none kV_l_take dc_l_take pm_l_take an_l_take cd_l_take ct_l_take, l_among := f_l_among, l_among_d := PySem.W.fnOf "_law_among" "_law_among" (defArgs s_l_among) (defBody s_l_among) (defScope s_l_among) .none kV_l_among dc_l_among pm_l_among an_l_among cd_l_among ct_l_among, l_between := f_l_between, l_between_d := PySem.W.fnOf "_law_between" "_law_between" (defArgs s_l_between) (defBody s_l_between) (defScope s_l_between) .none kV_l_between dc_l_between pm_l_between an_l_between cd_l_between ct_l_between, l_number := f_l_number, l_number_d := PySem.W.fnOf "_law_number" "_law_number" (defArgs s_l_number) (defBody s_l_number) (defScope s_l_number) .none kV_l_number dc_l_number pm_l_number an_l_number cd_l_number ct_l_number, l_alignment := f_l_alignment, l_alignment_d := PySem.W.fnOf "_law_alignment" "_law_alignment" (defArgs s_l_alignment) (defBody s_l_alignment) (defScope s_l_alignment) .none kV_l_alignment dc_l_alignment pm_l_alignment an_l_alignment cd_l_alignment ct_l_alignment, l_power := f_l_power, l_power_d := PySem.W.fnOf "_law_power" "_law_power" (defArgs s_l_power) (defBody s_l_power) (defScope s_l_power) .none kV_l_power dc_l_power pm_l_power an_l_power cd_l_power ct_l_power, l_long := f_l_long, l_long_d := PySem.W.fnOf "_law_long" "_law_long" (defArgs s_l_long) (defBody s_l_long) (defScope s_l_long) .none kV_l_long dc_l_long pm_l_long an_l_long cd_l_long ct_l_long, l_integer := f_l_integer, l_integer_d := PySem.W.fnOf "_law_integer" "_law_integer" (defArgs s_l_integer) (defBody s_l_integer) (defScope s_l_integer) .none kV_l_integer dc_l_integer pm_l_integer an_l_integer cd_l_integer ct_l_integer, l_chars := f_l_chars, l_chars_d := PySem.W.fnOf "_law_chars" "_law_chars" (defArgs s_l_chars) (defBody s_l_chars) (defScope s_l_chars) .none kV_l_chars dc_l_chars pm_l_chars an_l_chars cd_l_chars ct_l_chars, l_text := f_l_text, l_text_d := PySem.W.fnOf "_law_text" "_law_text" (defArgs s_l_text) (defBody s_l_text) (defScope s_l_text) .none kV_l_text dc_l_text pm_l_text an_l_text cd_l_text ct_l_text, l_plain := f_l_plain, l_plain_d := PySem.W.fnOf "_law_plain" "_law_plain" (defArgs s_l_plain) (defBody s_l_plain) (defScope s_l_plain) .none kV_l_plain dc_l_plain pm_l_plain an_l_plain cd_l_plain ct_l_plain, l_not_integer := f_l_not_integer, l_not_integer_d := PySem.W.fnOf "_law_not_integer" "_law_not_integer" (defArgs s_l_not_integer) (defBody s_l_not_integer) (defScope s_l_not_integer) .none kV_l_not_integer dc_l_not_integer pm_l_not_integer an_l_not_integer cd_l_not_integer ct_l_not_integer, l_not_within := f_l_not_within, l_not_within_d := PySem.W.fnOf "_law_not_within" "_law_not_within" (defArgs s_l_not_within) (defBody s_l_not_within) (defScope s_l_not_within) .none kV_l_not_within dc_l_not_within pm_l_not_within an_l_not_within cd_l_not_within ct_l_not_within, l_not_alignment := f_l_not_alignment, l_not_alignment_d := PySem.W.fnOf "_law_not_alignment" "_law_not_alignment" (defArgs s_l_not_alignment) (defBody s_l_not_alignment) (defScope s_l_not_alignment) .none kV_l_not_alignment dc_l_not_alignment pm_l_not_alignment an_l_not_alignment cd_l_not_alignment ct_l_not_alignment, l_is_int := f_l_is_int, l_is_int_d := PySem.W.fnOf "_law_is_int" "_law_is_int" (defArgs s_l_is_int) (defBody s_l_is_int) (defScope s_l_is_int) .none kV_l_is_int dc_l_is_int pm_l_is_int an_l_is_int cd_l_is_int ct_l_is_int, l_is_within := f_l_is_within, l_is_within_d := PySem.W.fnOf "_law_is_within" "_law_is_within" (defArgs s_l_is_within) (defBody s_l_is_within) (defScope s_l_is_within) .none kV_l_is_within dc_l_is_within pm_l_is_within an_l_is_within cd_l_is_within ct_l_is_within, l_same := f_l_same, l_same_d := PySem.W.fnOf "_law_same" "_law_same" (defArgs s_l_same) (defBody s_l_same) (defScope s_l_same) .none kV_l_same dc_l_same pm_l_same an_l_same cd_l_same ct_l_same, l_copy := f_l_copy, l_copy_d := PySem.W.fnOf "_law_copy" "_law_copy" (defArgs s_l_copy) (defBody s_l_copy) (defScope s_l_copy) .none kV_l_copy dc_l_copy pm_l_copy an_l_copy cd_l_copy ct_l_copy, l_kinds := f_l_kinds, l_kinds_d := PySem.W.fnOf "_law_kinds" "_law_kinds" (defArgs s_l_kinds) (defBody s_l_kinds) (defScope s_l_kinds) .none kV_l_kinds dc_l_kinds pm_l_kinds an_l_kinds cd_l_kinds ct_l_kinds, l_refused := f_l_refused, l_refused_d := PySem.W.fnOf "_law_refused" "_law_refused" (defArgs s_l_refused) (defBody s_l_refused) (defScope s_l_refused) .none kV_l_refused dc_l_refused pm_l_refused an_l_refused cd_l_refused ct_l_refused, l_made_right := f_l_made_right, l_made_right_d := PySem.W.fnOf "_law_made_right" "_law_made_right" (defArgs s_l_made_right) (defBody s_l_made_right) (defScope s_l_made_right) .none kV_l_made_right dc_l_made_right pm_l_made_right an_l_made_right cd_l_made_right ct_l_made_right, l_numbers_right := f_l_numbers_right, l_numbers_right_d := PySem.W.fnOf "_law_numbers_right" "_law_numbers_right" (defArgs s_l_numbers_right) (defBody s_l_numbers_right) (defScope s_l_numbers_right) .none kV_l_numbers_right dc_l_numbers_right pm_l_numbers_right an_l_numbers_right cd_l_numbers_right ct_l_numbers_right, l_asked := f_l_asked, l_asked_d := PySem.W.fnOf "_law_asked" "_law_asked" (defArgs s_l_asked) (defBody s_l_asked) (defScope s_l_asked) .none kV_l_asked dc_l_asked pm_l_asked an_l_asked cd_l_asked ct_l_asked, l_aligned_right := f_l_aligned_right, l_aligned_right_d := PySem.W.fnOf "_law_aligned_right" "_law_aligned_right" (defArgs s_l_aligned_right) (defBody s_l_aligned_right) (defScope s_l_aligned_right) .none kV_l_aligned_right dc_l_aligned_right pm_l_aligned_right an_l_aligned_right cd_l_aligned_right ct_l_aligned_right, l_order_right := f_l_order_right, l_order_right_d := PySem.W.fnOf "_law_order_right" "_law_order_right" (defArgs s_l_order_right) (defBody s_l_order_right) (defScope s_l_order_right) .none kV_l_order_right dc_l_order_right pm_l_order_right an_l_order_right cd_l_order_right ct_l_order_right, l_factor_right := f_l_factor_right, l_factor_right_d := PySem.W.fnOf "_law_factor_right" "_law_factor_right" (defArgs s_l_factor_right) (defBody s_l_factor_right) (defScope s_l_factor_right) .none kV_l_factor_right dc_l_factor_right pm_l_factor_right an_l_factor_right cd_l_factor_right ct_l_factor_right, l_great_power := f_l_great_power, l_great_power_d := PySem.W.fnOf "_law_great_power" "_law_great_power" (defArgs s_l_great_power) (defBody s_l_great_power) (defScope s_l_great_power) .none kV_l_great_power dc_l_great_power pm_l_great_power an_l_great_power cd_l_great_power ct_l_great_power, l_is_power_due := f_l_is_power_due, l_is_power_due_d := PySem.W.fnOf "_law_is_power_due" "_law_is_power_due" (defArgs s_l_is_power_due) (defBody s_l_is_power_due) (defScope s_l_is_power_due) .none kV_l_is_power_due dc_l_is_power_due pm_l_is_power_due an_l_is_power_due cd_l_is_power_due ct_l_is_power_due, l_judged_right := f_l_judged_right, l_judged_right_d := PySem.W.fnOf "_law_judged_right" "_law_judged_right" (defArgs s_l_judged_right) (defBody s_l_judged_right) (defScope s_l_judged_right) .none kV_l_judged_right dc_l_judged_right pm_l_judged_right an_l_judged_right cd_l_judged_right ct_l_judged_right, l_refused_right := f_l_refused_right, l_refused_right_d := PySem.W.fnOf "_law_refused_right" "_law_refused_right" (defArgs s_l_refused_right) (defBody s_l_refused_right) (defScope s_l_refused_right) .none kV_l_refused_right dc_l_refused_right pm_l_refused_right an_l_refused_right cd_l_refused_right ct_l_refused_right, l_law := fa, l_law_d := PySem.W.fnOf "law" "law" (defArgs s_l_law) (defBody s_l_law) (defScope s_l_law) .none kV_l_law dc_l_law pm_l_law an_l_law cd_l_law ct_l_law, v_EXTENT := v_EXTENT, v_HANDLE := v_HANDLE, v_HEAP := v_HEAP, v_MAGIC := v_MAGIC, v_MAP := v_MAP, v_MAPPED := v_MAPPED, v_MOST_ALIGN := v_MOST_ALIGN, v_MOST_END := v_MOST_END, v_MOST_WORD := v_MOST_WORD, v_NOBODY := v_NOBODY, v_NODE := v_NODE, v_POISON := v_POISON, v_RED := v_RED, v_REGION := v_REGION, v_SLAB := v_SLAB }
  have T : Txt K mg a := { b_ValueError := PySem.W.mg_none_of X G z_ValueError, b_bool := PySem.W.mg_none_of X G z_bool, b_dict := PySem.W.mg_none_of X G z_dict, b_int := PySem.W.mg_none_of X G z_int, b_isinstance := PySem.W.mg_none_of X G z_isinstance, b_len := PySem.W.mg_none_of X G z_len, b_list := PySem.W.mg_none_of X G z_list, b_max := PySem.W.mg_none_of X G z_max, b_min := PySem.W.mg_none_of X G z_min, b_range := PySem.W.mg_none_of X G z_range, b_str := PySem.W.mg_none_of X G z_str, b_tuple := PySem.W.mg_none_of X G z_tuple, g_EXTENT := PySem.W.mg_of X G g_EXTENT, r_EXTENT := r_EXTENT, g_HANDLE := PySem.W.mg_of X G g_HANDLE, r_HANDLE := r_HANDLE, g_HEAP := PySem.W.mg_of X G g_HEAP, r_HEAP := r_HEAP, g_MAGIC := PySem.W.mg_of X G g_MAGIC, r_MAGIC := r_MAGIC, g_MAP := PySem.W.mg_of X G g_MAP, r_MAP := r_MAP, g_MAPPED := PySem.W.mg_of X G g_MAPPED, r_MAPPED := r_MAPPED, g_MOST_ALIGN := PySem.W.mg_of X G g_MOST_ALIGN, r_MOST_ALIGN := r_MOST_ALIGN, g_MOST_END := PySem.W.mg_of X G g_MOST_END, r_MOST_END := r_MOST_END, g_MOST_WORD := PySem.W.mg_of X G g_MOST_WORD, r_MOST_WORD := r_MOST_WORD, g_NOBODY := PySem.W.mg_of X G g_NOBODY, r_NOBODY := r_NOBODY, g_NODE := PySem.W.mg_of X G g_NODE, r_NODE := r_NODE, g_POISON := PySem.W.mg_of X G g_POISON, r_POISON := r_POISON, g_RED := PySem.W.mg_of X G g_RED, r_RED := r_RED, g_REGION := PySem.W.mg_of X G g_REGION, r_REGION := r_REGION, g_SLAB := PySem.W.mg_of X G g_SLAB, r_SLAB := r_SLAB, k_StoreError := PySem.W.mg_of X G q_StoreError, k_BadValue := PySem.W.mg_of X G q_BadValue, k_Broken := PySem.W.mg_of X G q_Broken, k_Unknown := PySem.W.mg_of X G q_Unknown, k_NotHeld := PySem.W.mg_of X G q_NotHeld, k_Fault := PySem.W.mg_of X G q_Fault, k_NoRoom := PySem.W.mg_of X G q_NoRoom, k_Cut := PySem.W.mg_of X G q_Cut, k_BadLine := PySem.W.mg_of X G q_BadLine, c_BadValue_init := ⟨F_c_BadValue_init, B_c_BadValue_init⟩, c_Broken_init := ⟨F_c_Broken_init, B_c_Broken_init⟩, c_Unknown_init := ⟨F_c_Unknown_init, B_c_Unknown_init⟩, c_NotHeld_init := ⟨F_c_NotHeld_init, B_c_NotHeld_init⟩, c_Fault_init := ⟨F_c_Fault_init, B_c_Fault_init⟩, c_NoRoom_init := ⟨F_c_NoRoom_init, B_c_NoRoom_init⟩, c_Cut_init := ⟨F_c_Cut_init, B_c_Cut_init⟩, c_BadLine_init := ⟨F_c_BadLine_init, B_c_BadLine_init⟩, p_is_whole := ⟨F_p_is_whole, PySem.W.mg_of X G a_p_is_whole, B_p_is_whole⟩, p_whole_between := ⟨F_p_whole_between, PySem.W.mg_of X G a_p_whole_between, B_p_whole_between⟩, p_is_power := ⟨F_p_is_power, PySem.W.mg_of X G a_p_is_power, B_p_is_power⟩, p_is_align := ⟨F_p_is_align, PySem.W.mg_of X G a_p_is_align, B_p_is_align⟩, p_align_up := ⟨F_p_align_up, PySem.W.mg_of X G a_p_align_up, B_p_align_up⟩, p_align_down := ⟨F_p_align_down, PySem.W.mg_of X G a_p_align_down, B_p_align_down⟩, p_order_of := ⟨F_p_order_of, PySem.W.mg_of X G a_p_order_of, B_p_order_of⟩, p_power_in := ⟨F_p_power_in, PySem.W.mg_of X G a_p_power_in, B_p_power_in⟩, l_draws := ⟨F_l_draws, PySem.W.mg_of X G a_l_draws, B_l_draws⟩, l_next_cell := ⟨F_l_next_cell, PySem.W.mg_of X G a_l_next_cell, B_l_next_cell⟩, l_mixed := ⟨F_l_mixed, PySem.W.mg_of X G a_l_mixed, B_l_mixed⟩, l_take := ⟨F_l_take, PySem.W.mg_of X G a_l_take, B_l_take⟩, l_among := ⟨F_l_among, PySem.W.mg_of X G a_l_among, B_l_among⟩, l_between := ⟨F_l_between, PySem.W.mg_of X G a_l_between, B_l_between⟩, l_number := ⟨F_l_number, PySem.W.mg_of X G a_l_number, B_l_number⟩, l_alignment := ⟨F_l_alignment, PySem.W.mg_of X G a_l_alignment, B_l_alignment⟩, l_power := ⟨F_l_power, PySem.W.mg_of X G a_l_power, B_l_power⟩, l_long := ⟨F_l_long, PySem.W.mg_of X G a_l_long, B_l_long⟩, l_integer := ⟨F_l_integer, PySem.W.mg_of X G a_l_integer, B_l_integer⟩, l_chars := ⟨F_l_chars, PySem.W.mg_of X G a_l_chars, B_l_chars⟩, l_text := ⟨F_l_text, PySem.W.mg_of X G a_l_text, B_l_text⟩, l_plain := ⟨F_l_plain, PySem.W.mg_of X G a_l_plain, B_l_plain⟩, l_not_integer := ⟨F_l_not_integer, PySem.W.mg_of X G a_l_not_integer, B_l_not_integer⟩, l_not_within := ⟨F_l_not_within, PySem.W.mg_of X G a_l_not_within, B_l_not_within⟩, l_not_alignment := ⟨F_l_not_alignment, PySem.W.mg_of X G a_l_not_alignment, B_l_not_alignment⟩, l_is_int := ⟨F_l_is_int, PySem.W.mg_of X G a_l_is_int, B_l_is_int⟩, l_is_within := ⟨F_l_is_within, PySem.W.mg_of X G a_l_is_within, B_l_is_within⟩, l_same := ⟨F_l_same, PySem.W.mg_of X G a_l_same, B_l_same⟩, l_copy := ⟨F_l_copy, PySem.W.mg_of X G a_l_copy, B_l_copy⟩, l_kinds := ⟨F_l_kinds, PySem.W.mg_of X G a_l_kinds, B_l_kinds⟩, l_refused := ⟨F_l_refused, PySem.W.mg_of X G a_l_refused, B_l_refused⟩, l_made_right := ⟨F_l_made_right, PySem.W.mg_of X G a_l_made_right, B_l_made_right⟩, l_numbers_right := ⟨F_l_numbers_right, PySem.W.mg_of X G a_l_numbers_right, B_l_numbers_right⟩, l_asked := ⟨F_l_asked, PySem.W.mg_of X G a_l_asked, B_l_asked⟩, l_aligned_right := ⟨F_l_aligned_right, PySem.W.mg_of X G a_l_aligned_right, B_l_aligned_right⟩, l_order_right := ⟨F_l_order_right, PySem.W.mg_of X G a_l_order_right, B_l_order_right⟩, l_factor_right := ⟨F_l_factor_right, PySem.W.mg_of X G a_l_factor_right, B_l_factor_right⟩, l_great_power := ⟨F_l_great_power, PySem.W.mg_of X G a_l_great_power, B_l_great_power⟩, l_is_power_due := ⟨F_l_is_power_due, PySem.W.mg_of X G a_l_is_power_due, B_l_is_power_due⟩, l_judged_right := ⟨F_l_judged_right, PySem.W.mg_of X G a_l_judged_right, B_l_judged_right⟩, l_refused_right := ⟨F_l_refused_right, PySem.W.mg_of X G a_l_refused_right, B_l_refused_right⟩, l_law := ⟨F_l_law, PySem.W.mg_of X G a_l_law, B_l_law⟩, bv := bv, iC := a_c_BadValue_init, tI := t_c_BadValue_init, e_Broken := er_Broken, iC_Broken := a_c_Broken_init, tI_Broken := t_c_Broken_init, e_Unknown := er_Unknown, iC_Unknown := a_c_Unknown_init, tI_Unknown := t_c_Unknown_init, e_NotHeld := er_NotHeld, iC_NotHeld := a_c_NotHeld_init, tI_NotHeld := t_c_NotHeld_init, e_Fault := er_Fault, iC_Fault := a_c_Fault_init, tI_Fault := t_c_Fault_init, e_NoRoom := er_NoRoom, iC_NoRoom := a_c_NoRoom_init, tI_NoRoom := t_c_NoRoom_init, e_Cut := er_Cut, iC_Cut := a_c_Cut_init, tI_Cut := t_c_Cut_init, e_BadLine := er_BadLine, iC_BadLine := a_c_BadLine_init, tI_BadLine := t_c_BadLine_init }
  exact ⟨PySem.W.fnOf "law" "law" (defArgs s_l_law) (defBody s_l_law) (defScope s_l_law) .none kV_l_law dc_l_law pm_l_law an_l_law cd_l_law ct_l_law, fun s u => .of_eq rfl, fun base _ _ => (ok_l_law T).imp fun vs H Q E h => by obtain ⟨x, ns, e, h1, h2, h3⟩ := h; exact ⟨x, ns, e, h1, h2, ak, h3⟩⟩
end K00
section
open PySem PySem.W PyProof.Rows
set_option maxHeartbeats 8000000
open_top K00_hd for PySem.Challenge.rw_allgivenback_k00_align
end
open PySem PySem.W PyProof.Rows
set_option maxRecDepth 100000 in
set_option maxHeartbeats 8000000 in
theorem PySem.Challenge.cw_allgivenback_k00_align_holds : PySem.Challenge.rw_allgivenback_k00_align.Holds := by
  refine K00_hd ?_
  k_fill
  refine L2.walk_ofK (l := PySem.Challenge.rw_allgivenback_k00_align) (n := 63) (k := 14) (x := "_law_script") (CX := L2.CX0) (sp := Gv.sp_end) rfl (by decide) rfl ⟨rfl, by decide, by decide⟩ (fun w h Y => PySem.W.kIn_of Y) ?F (fun K H a ns hl _ hS => ⟨a, ns, rfl, hS, hl, fun _ => rfl⟩) (fun _ _ _ _ z => z)
  case F =>
    intro w mg fa h KX G hmg
    refine' K00.all_mk KX G hmg ?q_StoreError ?q_BadValue ?q_Broken ?q_Unknown ?q_NotHeld ?q_Fault ?q_NoRoom ?q_Cut ?q_BadLine ?a_c_BadValue_init ?t_c_BadValue_init ?l_c_BadValue_init ?c_c_BadValue_init ?k_c_BadValue_init ?a_c_Broken_init ?t_c_Broken_init ?l_c_Broken_init ?c_c_Broken_init ?k_c_Broken_init ?a_c_Unknown_init ?t_c_Unknown_init ?l_c_Unknown_init ?c_c_Unknown_init ?k_c_Unknown_init ?a_c_NotHeld_init ?t_c_NotHeld_init ?l_c_NotHeld_init ?c_c_NotHeld_init ?k_c_NotHeld_init ?a_c_Fault_init ?t_c_Fault_init ?l_c_Fault_init ?c_c_Fault_init ?k_c_Fault_init ?a_c_NoRoom_init ?t_c_NoRoom_init ?l_c_NoRoom_init ?c_c_NoRoom_init ?k_c_NoRoom_init ?a_c_Cut_init ?t_c_Cut_init ?l_c_Cut_init ?c_c_Cut_init ?k_c_Cut_init ?a_c_BadLine_init ?t_c_BadLine_init ?l_c_BadLine_init ?c_c_BadLine_init ?k_c_BadLine_init ?a_p_is_whole ?l_p_is_whole ?c_p_is_whole ?k_p_is_whole ?a_p_whole_between ?l_p_whole_between ?c_p_whole_between ?k_p_whole_between ?a_p_is_power ?l_p_is_power ?c_p_is_power ?k_p_is_power ?a_p_is_align ?l_p_is_align ?c_p_is_align ?k_p_is_align ?a_p_align_up ?l_p_align_up ?c_p_align_up ?k_p_align_up ?a_p_align_down ?l_p_align_down ?c_p_align_down ?k_p_align_down ?a_p_order_of ?l_p_order_of ?c_p_order_of ?k_p_order_of ?a_p_power_in ?l_p_power_in ?c_p_power_in ?k_p_power_in ?a_l_draws ?l_l_draws ?c_l_draws ?k_l_draws ?a_l_next_cell ?l_l_next_cell ?c_l_next_cell ?k_l_next_cell ?a_l_mixed ?l_l_mixed ?c_l_mixed ?k_l_mixed ?a_l_take ?l_l_take ?c_l_take ?k_l_take ?a_l_among ?l_l_among ?c_l_among ?k_l_among ?a_l_between ?l_l_between ?c_l_between ?k_l_between ?a_l_number ?l_l_number ?c_l_number ?k_l_number ?a_l_alignment ?l_l_alignment ?c_l_alignment ?k_l_alignment ?a_l_power ?l_l_power ?c_l_power ?k_l_power ?a_l_long ?l_l_long ?c_l_long ?k_l_long ?a_l_integer ?l_l_integer ?c_l_integer ?k_l_integer ?a_l_chars ?l_l_chars ?c_l_chars ?k_l_chars ?a_l_text ?l_l_text ?c_l_text ?k_l_text ?a_l_plain ?l_l_plain ?c_l_plain ?k_l_plain ?a_l_not_integer ?l_l_not_integer ?c_l_not_integer ?k_l_not_integer ?a_l_not_within ?l_l_not_within ?c_l_not_within ?k_l_not_within ?a_l_not_alignment ?l_l_not_alignment ?c_l_not_alignment ?k_l_not_alignment ?a_l_is_int ?l_l_is_int ?c_l_is_int ?k_l_is_int ?a_l_is_within ?l_l_is_within ?c_l_is_within ?k_l_is_within ?a_l_same ?l_l_same ?c_l_same ?k_l_same ?a_l_copy ?l_l_copy ?c_l_copy ?k_l_copy ?a_l_kinds ?l_l_kinds ?c_l_kinds ?k_l_kinds ?a_l_refused ?l_l_refused ?c_l_refused ?k_l_refused ?a_l_made_right ?l_l_made_right ?c_l_made_right ?k_l_made_right ?a_l_numbers_right ?l_l_numbers_right ?c_l_numbers_right ?k_l_numbers_right ?a_l_asked ?l_l_asked ?c_l_asked ?k_l_asked ?a_l_aligned_right ?l_l_aligned_right ?c_l_aligned_right ?k_l_aligned_right ?a_l_order_right ?l_l_order_right ?c_l_order_right ?k_l_order_right ?a_l_factor_right ?l_l_factor_right ?c_l_factor_right ?k_l_factor_right ?a_l_great_power ?l_l_great_power ?c_l_great_power ?k_l_great_power ?a_l_is_power_due ?l_l_is_power_due ?c_l_is_power_due ?k_l_is_power_due ?a_l_judged_right ?l_l_judged_right ?c_l_judged_right ?k_l_judged_right ?a_l_refused_right ?l_l_refused_right ?c_l_refused_right ?k_l_refused_right ?a_l_law ?l_l_law ?c_l_law ?k_l_law ?z_ValueError ?z_bool ?z_dict ?z_int ?z_isinstance ?z_len ?z_list ?z_max ?z_min ?z_range ?z_str ?z_tuple ?g_EXTENT ?r_EXTENT ?g_HANDLE ?r_HANDLE ?g_HEAP ?r_HEAP ?g_MAGIC ?r_MAGIC ?g_MAP ?r_MAP ?g_MAPPED ?r_MAPPED ?g_MOST_ALIGN ?r_MOST_ALIGN ?g_MOST_END ?r_MOST_END ?g_MOST_WORD ?r_MOST_WORD ?g_NOBODY ?r_NOBODY ?g_NODE ?r_NODE ?g_POISON ?r_POISON ?g_RED ?r_RED ?g_REGION ?r_REGION ?g_SLAB ?r_SLAB ?sa_StoreError ?ga_StoreError ?gg_StoreError ?cc_StoreError ?eb_StoreError ?ty_StoreError ?kp_StoreError ?hd_StoreError ?mo_StoreError ?sa_BadValue ?ga_BadValue ?gg_BadValue ?cc_BadValue ?eb_BadValue ?ty_BadValue ?kp_BadValue ?hd_BadValue ?mo_BadValue ?sa_Broken ?ga_Broken ?gg_Broken ?cc_Broken ?eb_Broken ?ty_Broken ?kp_Broken ?hd_Broken ?mo_Broken ?sa_Unknown ?ga_Unknown ?gg_Unknown ?cc_Unknown ?eb_Unknown ?ty_Unknown ?kp_Unknown ?hd_Unknown ?mo_Unknown ?sa_NotHeld ?ga_NotHeld ?gg_NotHeld ?cc_NotHeld ?eb_NotHeld ?ty_NotHeld ?kp_NotHeld ?hd_NotHeld ?mo_NotHeld ?sa_Fault ?ga_Fault ?gg_Fault ?cc_Fault ?eb_Fault ?ty_Fault ?kp_Fault ?hd_Fault ?mo_Fault ?sa_NoRoom ?ga_NoRoom ?gg_NoRoom ?cc_NoRoom ?eb_NoRoom ?ty_NoRoom ?kp_NoRoom ?hd_NoRoom ?mo_NoRoom ?sa_Cut ?ga_Cut ?gg_Cut ?cc_Cut ?eb_Cut ?ty_Cut ?kp_Cut ?hd_Cut ?mo_Cut ?sa_BadLine ?ga_BadLine ?gg_BadLine ?cc_BadLine ?eb_BadLine ?ty_BadLine ?kp_BadLine ?hd_BadLine ?mo_BadLine ?x_BadValue ?nf_BadValue_parameter ?nf_BadValue_told ?x_Broken ?nf_Broken_told ?nf_Broken_place ?nf_Broken_found ?nf_Broken_due ?x_Unknown ?nf_Unknown_told ?nf_Unknown_parameter ?x_NotHeld ?nf_NotHeld_told ?nf_NotHeld_place ?nf_NotHeld_found ?x_Fault ?nf_Fault_told ?nf_Fault_kind ?nf_Fault_place ?x_NoRoom ?nf_NoRoom_told ?nf_NoRoom_paper ?x_Cut ?nf_Cut_told ?nf_Cut_needed ?nf_Cut_left ?x_BadLine ?nf_BadLine_told ?nf_BadLine_line ?nf_BadLine_column ?sp1 ?sp2 ?kit_BadValue_StoreError ?kit_BadValue_ValueError ?kit_Broken_StoreError ?kit_Broken_ValueError ?kit_Unknown_StoreError ?kit_Unknown_ValueError ?kit_NotHeld_StoreError ?kit_NotHeld_ValueError ?kit_Fault_StoreError ?kit_Fault_ValueError ?kit_NoRoom_StoreError ?kit_NoRoom_ValueError ?kit_Cut_StoreError ?kit_Cut_ValueError ?kit_BadLine_StoreError ?kit_BadLine_ValueError ?kit_BadValue_BadValue ?kit_BadValue_Broken ?kit_BadValue_Unknown ?kit_BadValue_NotHeld ?kit_BadValue_Fault ?kit_BadValue_NoRoom ?kit_BadValue_Cut ?kit_BadValue_BadLine ?kit_Broken_BadValue ?kit_Broken_Broken ?kit_Broken_Unknown ?kit_Broken_NotHeld ?kit_Broken_Fault ?kit_Broken_NoRoom ?kit_Broken_Cut ?kit_Broken_BadLine ?kit_Unknown_BadValue ?kit_Unknown_Broken ?kit_Unknown_Unknown ?kit_Unknown_NotHeld ?kit_Unknown_Fault ?kit_Unknown_NoRoom ?kit_Unknown_Cut ?kit_Unknown_BadLine ?kit_NotHeld_BadValue ?kit_NotHeld_Broken ?kit_NotHeld_Unknown ?kit_NotHeld_NotHeld ?kit_NotHeld_Fault ?kit_NotHeld_NoRoom ?kit_NotHeld_Cut ?kit_NotHeld_BadLine ?kit_Fault_BadValue ?kit_Fault_Broken ?kit_Fault_Unknown ?kit_Fault_NotHeld ?kit_Fault_Fault ?kit_Fault_NoRoom ?kit_Fault_Cut ?kit_Fault_BadLine ?kit_NoRoom_BadValue ?kit_NoRoom_Broken ?kit_NoRoom_Unknown ?kit_NoRoom_NotHeld ?kit_NoRoom_Fault ?kit_NoRoom_NoRoom ?kit_NoRoom_Cut ?kit_NoRoom_BadLine ?kit_Cut_BadValue ?kit_Cut_Broken ?kit_Cut_Unknown ?kit_Cut_NotHeld ?kit_Cut_Fault ?kit_Cut_NoRoom ?kit_Cut_Cut ?kit_Cut_BadLine ?kit_BadLine_BadValue ?kit_BadLine_Broken ?kit_BadLine_Unknown ?kit_BadLine_NotHeld ?kit_BadLine_Fault ?kit_BadLine_NoRoom ?kit_BadLine_Cut ?kit_BadLine_BadLine ?sub_BadValue_BadValue
    (case q_StoreError => k_is)
    (case q_BadValue => k_is)
    (case q_Broken => k_is)
    (case q_Unknown => k_is)
    (case q_NotHeld => k_is)
    (case q_Fault => k_is)
    (case q_NoRoom => k_is)
    (case q_Cut => k_is)
    (case q_BadLine => k_is)
    (case a_c_BadValue_init => k_is)
    (case t_c_BadValue_init => k_is)
    (case l_c_BadValue_init => k_is)
    (case c_c_BadValue_init => k_is)
    (case k_c_BadValue_init => k_is)
    (case a_c_Broken_init => k_is)
    (case t_c_Broken_init => k_is)
    (case l_c_Broken_init => k_is)
    (case c_c_Broken_init => k_is)
    (case k_c_Broken_init => k_is)
    (case a_c_Unknown_init => k_is)
    (case t_c_Unknown_init => k_is)
    (case l_c_Unknown_init => k_is)
    (case c_c_Unknown_init => k_is)
    (case k_c_Unknown_init => k_is)
    (case a_c_NotHeld_init => k_is)
    (case t_c_NotHeld_init => k_is)
    (case l_c_NotHeld_init => k_is)
    (case c_c_NotHeld_init => k_is)
    (case k_c_NotHeld_init => k_is)
    (case a_c_Fault_init => k_is)
    (case t_c_Fault_init => k_is)
    (case l_c_Fault_init => k_is)
    (case c_c_Fault_init => k_is)
    (case k_c_Fault_init => k_is)
    (case a_c_NoRoom_init => k_is)
    (case t_c_NoRoom_init => k_is)
    (case l_c_NoRoom_init => k_is)
    (case c_c_NoRoom_init => k_is)
    (case k_c_NoRoom_init => k_is)
    (case a_c_Cut_init => k_is)
    (case t_c_Cut_init => k_is)
    (case l_c_Cut_init => k_is)
    (case c_c_Cut_init => k_is)
    (case k_c_Cut_init => k_is)
    (case a_c_BadLine_init => k_is)
    (case t_c_BadLine_init => k_is)
    (case l_c_BadLine_init => k_is)
    (case c_c_BadLine_init => k_is)
    (case k_c_BadLine_init => k_is)
    (case a_p_is_whole => k_is)
    (case l_p_is_whole => k_is)
    (case c_p_is_whole => k_is)
    (case k_p_is_whole => k_is)
    (case a_p_whole_between => k_is)
    (case l_p_whole_between => k_is)
    (case c_p_whole_between => k_is)
    (case k_p_whole_between => k_is)
    (case a_p_is_power => k_is)
    (case l_p_is_power => k_is)
    (case c_p_is_power => k_is)
    (case k_p_is_power => k_is)
    (case a_p_is_align => k_is)
    (case l_p_is_align => k_is)
    (case c_p_is_align => k_is)
    (case k_p_is_align => k_is)
    (case a_p_align_up => k_is)
    (case l_p_align_up => k_is)
    (case c_p_align_up => k_is)
    (case k_p_align_up => k_is)
    (case a_p_align_down => k_is)
    (case l_p_align_down => k_is)
    (case c_p_align_down => k_is)
    (case k_p_align_down => k_is)
    (case a_p_order_of => k_is)
    (case l_p_order_of => k_is)
    (case c_p_order_of => k_is)
    (case k_p_order_of => k_is)
    (case a_p_power_in => k_is)
    (case l_p_power_in => k_is)
    (case c_p_power_in => k_is)
    (case k_p_power_in => k_is)
    (case a_l_draws => k_is)
    (case l_l_draws => k_is)
    (case c_l_draws => k_is)
    (case k_l_draws => k_is)
    (case a_l_next_cell => k_is)
    (case l_l_next_cell => k_is)
    (case c_l_next_cell => k_is)
    (case k_l_next_cell => k_is)
    (case a_l_mixed => k_is)
    (case l_l_mixed => k_is)
    (case c_l_mixed => k_is)
    (case k_l_mixed => k_is)
    (case a_l_take => k_is)
    (case l_l_take => k_is)
    (case c_l_take => k_is)
    (case k_l_take => k_is)
    (case a_l_among => k_is)
    (case l_l_among => k_is)
    (case c_l_among => k_is)
    (case k_l_among => k_is)
    (case a_l_between => k_is)
    (case l_l_between => k_is)
    (case c_l_between => k_is)
    (case k_l_between => k_is)
    (case a_l_number => k_is)
    (case l_l_number => k_is)
    (case c_l_number => k_is)
    (case k_l_number => k_is)
    (case a_l_alignment => k_is)
    (case l_l_alignment => k_is)
    (case c_l_alignment => k_is)
    (case k_l_alignment => k_is)
    (case a_l_power => k_is)
    (case l_l_power => k_is)
    (case c_l_power => k_is)
    (case k_l_power => k_is)
    (case a_l_long => k_is)
    (case l_l_long => k_is)
    (case c_l_long => k_is)
    (case k_l_long => k_is)
    (case a_l_integer => k_is)
    (case l_l_integer => k_is)
    (case c_l_integer => k_is)
    (case k_l_integer => k_is)
    (case a_l_chars => k_is)
    (case l_l_chars => k_is)
    (case c_l_chars => k_is)
    (case k_l_chars => k_is)
    (case a_l_text => k_is)
    (case l_l_text => k_is)
    (case c_l_text => k_is)
    (case k_l_text => k_is)
    (case a_l_plain => k_is)
    (case l_l_plain => k_is)
    (case c_l_plain => k_is)
    (case k_l_plain => k_is)
    (case a_l_not_integer => k_is)
    (case l_l_not_integer => k_is)
    (case c_l_not_integer => k_is)
    (case k_l_not_integer => k_is)
    (case a_l_not_within => k_is)
    (case l_l_not_within => k_is)
    (case c_l_not_within => k_is)
    (case k_l_not_within => k_is)
    (case a_l_not_alignment => k_is)
    (case l_l_not_alignment => k_is)
    (case c_l_not_alignment => k_is)
    (case k_l_not_alignment => k_is)
    (case a_l_is_int => k_is)
    (case l_l_is_int => k_is)
    (case c_l_is_int => k_is)
    (case k_l_is_int => k_is)
    (case a_l_is_within => k_is)
    (case l_l_is_within => k_is)
    (case c_l_is_within => k_is)
    (case k_l_is_within => k_is)
    (case a_l_same => k_is)
    (case l_l_same => k_is)
    (case c_l_same => k_is)
    (case k_l_same => k_is)
    (case a_l_copy => k_is)
    (case l_l_copy => k_is)
    (case c_l_copy => k_is)
    (case k_l_copy => k_is)
    (case a_l_kinds => k_is)
    (case l_l_kinds => k_is)
    (case c_l_kinds => k_is)
    (case k_l_kinds => k_is)
    (case a_l_refused => k_is)
    (case l_l_refused => k_is)
    (case c_l_refused => k_is)
    (case k_l_refused => k_is)
    (case a_l_made_right => k_is)
    (case l_l_made_right => k_is)
    (case c_l_made_right => k_is)
    (case k_l_made_right => k_is)
    (case a_l_numbers_right => k_is)
    (case l_l_numbers_right => k_is)
    (case c_l_numbers_right => k_is)
    (case k_l_numbers_right => k_is)
    (case a_l_asked => k_is)
    (case l_l_asked => k_is)
    (case c_l_asked => k_is)
    (case k_l_asked => k_is)
    (case a_l_aligned_right => k_is)
    (case l_l_aligned_right => k_is)
    (case c_l_aligned_right => k_is)
    (case k_l_aligned_right => k_is)
    (case a_l_order_right => k_is)
    (case l_l_order_right => k_is)
    (case c_l_order_right => k_is)
    (case k_l_order_right => k_is)
    (case a_l_factor_right => k_is)
    (case l_l_factor_right => k_is)
    (case c_l_factor_right => k_is)
    (case k_l_factor_right => k_is)
    (case a_l_great_power => k_is)
    (case l_l_great_power => k_is)
    (case c_l_great_power => k_is)
    (case k_l_great_power => k_is)
    (case a_l_is_power_due => k_is)
    (case l_l_is_power_due => k_is)
    (case c_l_is_power_due => k_is)
    (case k_l_is_power_due => k_is)
    (case a_l_judged_right => k_is)
    (case l_l_judged_right => k_is)
    (case c_l_judged_right => k_is)
    (case k_l_judged_right => k_is)
    (case a_l_refused_right => k_is)
    (case l_l_refused_right => k_is)
    (case c_l_refused_right => k_is)
    (case k_l_refused_right => k_is)
    (case a_l_law => k_is)
    (case l_l_law => k_is)
    (case c_l_law => k_is)
    (case k_l_law => k_is)
    (case z_ValueError => k_is)
    (case z_bool => k_is)
    (case z_dict => k_is)
    (case z_int => k_is)
    (case z_isinstance => k_is)
    (case z_len => k_is)
    (case z_list => k_is)
    (case z_max => k_is)
    (case z_min => k_is)
    (case z_range => k_is)
    (case z_str => k_is)
    (case z_tuple => k_is)
    (case g_EXTENT => k_is)
    (case r_EXTENT => exact ⟨_, rfl⟩)
    (case g_HANDLE => k_is)
    (case r_HANDLE => exact ⟨_, rfl⟩)
    (case g_HEAP => k_is)
    (case r_HEAP => exact ⟨_, rfl⟩)
    (case g_MAGIC => k_is)
    (case r_MAGIC => exact ⟨_, rfl⟩)
    (case g_MAP => k_is)
    (case r_MAP => exact ⟨_, rfl⟩)
    (case g_MAPPED => k_is)
    (case r_MAPPED => exact ⟨_, rfl⟩)
    (case g_MOST_ALIGN => k_is)
    (case r_MOST_ALIGN => exact ⟨_, rfl⟩)
    (case g_MOST_END => k_is)
    (case r_MOST_END => exact ⟨_, rfl⟩)
    (case g_MOST_WORD => k_is)
    (case r_MOST_WORD => exact ⟨_, rfl⟩)
    (case g_NOBODY => k_is)
    (case r_NOBODY => exact ⟨_, rfl⟩)
    (case g_NODE => k_is)
    (case r_NODE => exact ⟨_, rfl⟩)
    (case g_POISON => k_is)
    (case r_POISON => exact ⟨_, rfl⟩)
    (case g_RED => k_is)
    (case r_RED => exact ⟨_, rfl⟩)
    (case g_REGION => k_is)
    (case r_REGION => exact ⟨_, rfl⟩)
    (case g_SLAB => k_is)
    (case r_SLAB => exact ⟨_, rfl⟩)
    (case sa_StoreError => k_is)
    (case ga_StoreError => k_is)
    (case gg_StoreError => k_is)
    (case cc_StoreError => k_is)
    (case eb_StoreError => k_is)
    (case ty_StoreError => k_is)
    (case kp_StoreError => k_is)
    (case hd_StoreError => k_is)
    (case mo_StoreError => k_is)
    (case sa_BadValue => k_is)
    (case ga_BadValue => k_is)
    (case gg_BadValue => k_is)
    (case cc_BadValue => k_is)
    (case eb_BadValue => k_is)
    (case ty_BadValue => k_is)
    (case kp_BadValue => k_is)
    (case hd_BadValue => k_is)
    (case mo_BadValue => k_is)
    (case sa_Broken => k_is)
    (case ga_Broken => k_is)
    (case gg_Broken => k_is)
    (case cc_Broken => k_is)
    (case eb_Broken => k_is)
    (case ty_Broken => k_is)
    (case kp_Broken => k_is)
    (case hd_Broken => k_is)
    (case mo_Broken => k_is)
    (case sa_Unknown => k_is)
    (case ga_Unknown => k_is)
    (case gg_Unknown => k_is)
    (case cc_Unknown => k_is)
    (case eb_Unknown => k_is)
    (case ty_Unknown => k_is)
    (case kp_Unknown => k_is)
    (case hd_Unknown => k_is)
    (case mo_Unknown => k_is)
    (case sa_NotHeld => k_is)
    (case ga_NotHeld => k_is)
    (case gg_NotHeld => k_is)
    (case cc_NotHeld => k_is)
    (case eb_NotHeld => k_is)
    (case ty_NotHeld => k_is)
    (case kp_NotHeld => k_is)
    (case hd_NotHeld => k_is)
    (case mo_NotHeld => k_is)
    (case sa_Fault => k_is)
    (case ga_Fault => k_is)
    (case gg_Fault => k_is)
    (case cc_Fault => k_is)
    (case eb_Fault => k_is)
    (case ty_Fault => k_is)
    (case kp_Fault => k_is)
    (case hd_Fault => k_is)
    (case mo_Fault => k_is)
    (case sa_NoRoom => k_is)
    (case ga_NoRoom => k_is)
    (case gg_NoRoom => k_is)
    (case cc_NoRoom => k_is)
    (case eb_NoRoom => k_is)
    (case ty_NoRoom => k_is)
    (case kp_NoRoom => k_is)
    (case hd_NoRoom => k_is)
    (case mo_NoRoom => k_is)
    (case sa_Cut => k_is)
    (case ga_Cut => k_is)
    (case gg_Cut => k_is)
    (case cc_Cut => k_is)
    (case eb_Cut => k_is)
    (case ty_Cut => k_is)
    (case kp_Cut => k_is)
    (case hd_Cut => k_is)
    (case mo_Cut => k_is)
    (case sa_BadLine => k_is)
    (case ga_BadLine => k_is)
    (case gg_BadLine => k_is)
    (case cc_BadLine => k_is)
    (case eb_BadLine => k_is)
    (case ty_BadLine => k_is)
    (case kp_BadLine => k_is)
    (case hd_BadLine => k_is)
    (case mo_BadLine => k_is)
    (case x_BadValue => k_is)
    (case nf_BadValue_parameter => k_is)
    (case nf_BadValue_told => k_is)
    (case x_Broken => k_is)
    (case nf_Broken_told => k_is)
    (case nf_Broken_place => k_is)
    (case nf_Broken_found => k_is)
    (case nf_Broken_due => k_is)
    (case x_Unknown => k_is)
    (case nf_Unknown_told => k_is)
    (case nf_Unknown_parameter => k_is)
    (case x_NotHeld => k_is)
    (case nf_NotHeld_told => k_is)
    (case nf_NotHeld_place => k_is)
    (case nf_NotHeld_found => k_is)
    (case x_Fault => k_is)
    (case nf_Fault_told => k_is)
    (case nf_Fault_kind => k_is)
    (case nf_Fault_place => k_is)
    (case x_NoRoom => k_is)
    (case nf_NoRoom_told => k_is)
    (case nf_NoRoom_paper => k_is)
    (case x_Cut => k_is)
    (case nf_Cut_told => k_is)
    (case nf_Cut_needed => k_is)
    (case nf_Cut_left => k_is)
    (case x_BadLine => k_is)
    (case nf_BadLine_told => k_is)
    (case nf_BadLine_line => k_is)
    (case nf_BadLine_column => k_is)
    (case sp1 => k_is)
    (case sp2 => k_is)
    (case kit_BadValue_StoreError => first | rfl | k_is)
    (case kit_BadValue_ValueError => first | rfl | k_is)
    (case kit_Broken_StoreError => first | rfl | k_is)
    (case kit_Broken_ValueError => first | rfl | k_is)
    (case kit_Unknown_StoreError => first | rfl | k_is)
    (case kit_Unknown_ValueError => first | rfl | k_is)
    (case kit_NotHeld_StoreError => first | rfl | k_is)
    (case kit_NotHeld_ValueError => first | rfl | k_is)
    (case kit_Fault_StoreError => first | rfl | k_is)
    (case kit_Fault_ValueError => first | rfl | k_is)
    (case kit_NoRoom_StoreError => first | rfl | k_is)
    (case kit_NoRoom_ValueError => first | rfl | k_is)
    (case kit_Cut_StoreError => first | rfl | k_is)
    (case kit_Cut_ValueError => first | rfl | k_is)
    (case kit_BadLine_StoreError => first | rfl | k_is)
    (case kit_BadLine_ValueError => first | rfl | k_is)
    (case kit_BadValue_BadValue => first | rfl | k_is)
    (case kit_BadValue_Broken => first | rfl | k_is)
    (case kit_BadValue_Unknown => first | rfl | k_is)
    (case kit_BadValue_NotHeld => first | rfl | k_is)
    (case kit_BadValue_Fault => first | rfl | k_is)
    (case kit_BadValue_NoRoom => first | rfl | k_is)
    (case kit_BadValue_Cut => first | rfl | k_is)
    (case kit_BadValue_BadLine => first | rfl | k_is)
    (case kit_Broken_BadValue => first | rfl | k_is)
    (case kit_Broken_Broken => first | rfl | k_is)
    (case kit_Broken_Unknown => first | rfl | k_is)
    (case kit_Broken_NotHeld => first | rfl | k_is)
    (case kit_Broken_Fault => first | rfl | k_is)
    (case kit_Broken_NoRoom => first | rfl | k_is)
    (case kit_Broken_Cut => first | rfl | k_is)
    (case kit_Broken_BadLine => first | rfl | k_is)
    (case kit_Unknown_BadValue => first | rfl | k_is)
    (case kit_Unknown_Broken => first | rfl | k_is)
    (case kit_Unknown_Unknown => first | rfl | k_is)
    (case kit_Unknown_NotHeld => first | rfl | k_is)
    (case kit_Unknown_Fault => first | rfl | k_is)
    (case kit_Unknown_NoRoom => first | rfl | k_is)
    (case kit_Unknown_Cut => first | rfl | k_is)
    (case kit_Unknown_BadLine => first | rfl | k_is)
    (case kit_NotHeld_BadValue => first | rfl | k_is)
    (case kit_NotHeld_Broken => first | rfl | k_is)
    (case kit_NotHeld_Unknown => first | rfl | k_is)
    (case kit_NotHeld_NotHeld => first | rfl | k_is)
    (case kit_NotHeld_Fault => first | rfl | k_is)
    (case kit_NotHeld_NoRoom => first | rfl | k_is)
    (case kit_NotHeld_Cut => first | rfl | k_is)
    (case kit_NotHeld_BadLine => first | rfl | k_is)
    (case kit_Fault_BadValue => first | rfl | k_is)
    (case kit_Fault_Broken => first | rfl | k_is)
    (case kit_Fault_Unknown => first | rfl | k_is)
    (case kit_Fault_NotHeld => first | rfl | k_is)
    (case kit_Fault_Fault => first | rfl | k_is)
    (case kit_Fault_NoRoom => first | rfl | k_is)
    (case kit_Fault_Cut => first | rfl | k_is)
    (case kit_Fault_BadLine => first | rfl | k_is)
    (case kit_NoRoom_BadValue => first | rfl | k_is)
    (case kit_NoRoom_Broken => first | rfl | k_is)
    (case kit_NoRoom_Unknown => first | rfl | k_is)
    (case kit_NoRoom_NotHeld => first | rfl | k_is)
    (case kit_NoRoom_Fault => first | rfl | k_is)
    (case kit_NoRoom_NoRoom => first | rfl | k_is)
    (case kit_NoRoom_Cut => first | rfl | k_is)
    (case kit_NoRoom_BadLine => first | rfl | k_is)
    (case kit_Cut_BadValue => first | rfl | k_is)
    (case kit_Cut_Broken => first | rfl | k_is)
    (case kit_Cut_Unknown => first | rfl | k_is)
    (case kit_Cut_NotHeld => first | rfl | k_is)
    (case kit_Cut_Fault => first | rfl | k_is)
    (case kit_Cut_NoRoom => first | rfl | k_is)
    (case kit_Cut_Cut => first | rfl | k_is)
    (case kit_Cut_BadLine => first | rfl | k_is)
    (case kit_BadLine_BadValue => first | rfl | k_is)
    (case kit_BadLine_Broken => first | rfl | k_is)
    (case kit_BadLine_Unknown => first | rfl | k_is)
    (case kit_BadLine_NotHeld => first | rfl | k_is)
    (case kit_BadLine_Fault => first | rfl | k_is)
    (case kit_BadLine_NoRoom => first | rfl | k_is)
    (case kit_BadLine_Cut => first | rfl | k_is)
    (case kit_BadLine_BadLine => first | rfl | k_is)
    (case sub_BadValue_BadValue => first | rfl | k_is)
