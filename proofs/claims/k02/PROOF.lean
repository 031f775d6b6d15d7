import PyProof.Rows.All
import Wide.All
import OpenK.AllK
import Wide.FinOn
import HandS.ForMost
import HandS.ForExc
import HandS.Lambda
import HandS.EndTab
import HandS.IsInst
import HandS.ExcValue
import HandS.ExcIs
import PyProof.FactsAll.object_2
import PyProof.InstNe
import KE.KExcIs
import HandS.ExcInit
import HandS.ExcField
import KE.KExcSuper
import PyProof.ReprRoads
import HandS.Defaults
import HandS.MakeKwOnly
import HandS.SetFor
import HandS.OwnEq
import HandS.Flow
import HandS.Property
import HandS.MakeKw
import PySem.Challenge.RW_backmaps_k02_areas_cut_joined_and_moved
set_option Elab.async false
set_option linter.all false
set_option maxRecDepth 100000
set_option maxHeartbeats 4000000
/-! further rules: a caught exception kept as a value; isinstance of it; == and != by an own __eq__ with either answer -/
namespace L3
open PySem PySem.Spec PyProof.Rows L2

/-- an exception object of the class cls, its own dict at d, held as a value -/
def ExV (cls : Value) (d : Option Addr) (a : Addr) : HO := .ext fun h => ∃ (oe : Obj) (vs : Array Value), h.get? a = some oe ∧ Zc cls d oe ∧ oe.data = .fields vs
theorem exV_ok {P : Program} {w : World} {H : Hp} {h : Heap} {a : Addr} {cls : Value} {d : Option Addr} {oe : Obj} {vs : Array Value} (e : h.get? a = some oe) (z : Zc cls d oe) (hd : oe.data = .fields vs) : ObjOk P w H h a (ExV cls d a) :=
  ⟨⟨oe, vs, e, z, hd⟩, ⟨oe, e⟩, fun _ _ ⟨o, v, q, r⟩ k => ⟨o, v, k o q, r⟩⟩
section
variable {X : Cx} {pins : List (Addr × Obj)} {σ : L2.St} {H : Hp} {s sI : Shared}
/-- an object that is new since sI is tracked from now on -/
theorem track (J : Inv X pins σ H s) (JI : Inv X pins σ H sI) {a : Addr} {oe : Obj} {vs : Array Value} {cls : Value} {d : Option Addr} (na : H a = none) (new : sI.heap.get? a = none) (he : s.heap.get? a = some oe) (hz : Zc cls d oe) (hd : oe.data = .fields vs) :
    Inv X pins σ (upd H a (ExV cls d a)) s := by
  have nI : ∀ b o, sI.heap.get? b = some o → b ≠ a := fun b o e z => by
    rw [z, new] at e
    cases e
  have nH : ∀ b u, H b = some u → b ≠ a := fun b u e => ne_of_none e na
  refine ⟨J.ok, J.os, J.bare, ⟨J.base.keep, J.base.slot, fun b o e n hx => ?_, J.base.there, fun b xs e => ?_, fun b o u e => ?_, fun b ps e => ?_⟩, J.loc, J.cell, ?_, fun x c e => ?_, fun p hp => ?_, ?_, J.len⟩
  · obtain ⟨o', e'⟩ := JI.base.there b o e hx
    rw [upd_ne (nI b o' e')]
    exact J.base.free b o e n hx
  · have q := J.base.tups b xs e
    rw [upd_ne (nH b _ q)]
    exact q
  · have q := J.base.frzs b o u e
    rw [upd_ne (nH b _ q)]
    exact q
  · obtain ⟨m, q⟩ := J.base.tbls b ps e
    exact ⟨m, by rw [upd_ne (nH b _ q)]; exact q⟩
  · obtain ⟨m, ⟨o, es, ep, ho, r⟩, _⟩ := JI.loc
    rw [upd_ne (nI _ _ ho)]
    exact J.free
  · obtain ⟨v, o, ho, _⟩ := JI.cell x c e
    rw [upd_ne (nI _ _ ho)]
    exact J.freeC x c e
  · obtain ⟨e1, _⟩ := JI.pin p hp
    obtain ⟨g1, g2, g3, g4, g5⟩ := J.pin p hp
    exact ⟨g1, by rw [upd_ne (nI _ _ e1)]; exact g2, g3, g4, g5⟩
  · exact J.hok.laidN (fun _ _ e => e) na (exV_ok he hz hd)
/-- an exception in the air at a, from here on an object of the abstract heap: what an except clause's suite starts from -/
theorem kept_at (hs : X.stack = X.env :: X.outer) {B : Heap} {sI : Shared} {a : Addr} {cls : Value} {d : Option Addr} (I : Inv X pins σ H sI) (old : ∀ b o, sI.heap.get? b = some o → b ∉ frs X.stack → B.get? b = some o)
    (fly : HandSPX.FlyingZ B (X.env :: X.outer) a (Zc cls d) s.heap) (up : sI.heap.UpToSlots s.heap) (ho : s.os = sI.os) (hb : AllBare s.gens) (na : H a = none) :
    Inv (X.suite a (X.pn ++ pins)) [] σ (upd H a (ExV cls d a)) s := by
  obtain ⟨oe, vs, he, hz, hd⟩ := fly.there
  have off : a ∉ frs X.stack := by
    rw [hs]
    intro hm
    obtain ⟨_, o, e, bad⟩ := fly.2.2.1.mem hm
    cases he.symm.trans e
    exact bad vs hd
  have fresh : sI.heap.get? a = none := Option.eq_none_iff_forall_ne_some.mpr fun o e => by
    have z := old a o e off
    rw [fly.2.1] at z
    cases z
  have K := track (I.landed old fly.1 up ho hb) I na fresh he hz hd
  exact { ok := K.ok.suite _ _, os := K.os, bare := K.bare, base := K.base, loc := K.loc, cell := K.cell, free := K.free, freeC := K.freeC, pin := fun p hp => K.pin p (by simpa using hp), hok := K.hok, len := K.len }
/-- behind the suite -/
theorem out_of_suite {a : Addr} {rest : List (Addr × Obj)} (ok : X.Ok) (K : Inv (X.suite a (X.pn ++ pins)) rest σ H s) : Inv X pins σ H s where
  ok := ok
  os := K.os
  bare := K.bare
  base := K.base
  loc := K.loc
  cell := K.cell
  free := K.free
  freeC := K.freeC
  pin := fun p hp => K.pin p (List.mem_append.mpr (.inl hp))
  hok := K.hok
  len := K.len
end
/-- the ends of an except clause's suite: the name at i goes -/
def goes (i : Nat) (D : Ends) : Ends := ⟨fun τ G => D.nx (τ.set i none) G, D.rt, fun τ G => D.bk (τ.set i none) G, fun τ G => D.ct (τ.set i none) G⟩
/-- what 'except x as n' wishes, if it catches all that the body raises, and the exception is held as a value from the suite on; n is at the slot i of m -/
def wTrk (K : PySem.W.Frag) (c : Value) (i m : Nat) (ts : Addr → TS) (D : Ends) : WX := fun cls d τ G => τ.length = m → PySem.W.exmOne K cls c = some true ∧ ∀ a, G a = none → ts a (goes i D) (τ.set i (some (.ref a))) (upd G a (ExV cls d a))
section
variable {X : Cx} {x n : Str} {c : Value} {i : Nat} {body suite : List Stmt} {b₀ : Stmt} {np pos pos' : Pos} {tb : WX → TS} {ts : Addr → TS}
/-- the clause, at an exception that flies -/
theorem clause_trk {pins : List (Addr × Obj)} {D : Ends} {e : Value} {s₁ : Shared} (ok : X.Ok) (hs : X.stack = X.env :: X.outer) (hf : X.env.frame = some X.env.locals) (hN : X.N.Nodup) (hi : X.N[i]? = some n) (hln : X.env.kindOf n = some .local) (hc : Names X x c)
    (hsu : ∀ (a : Addr) (pn : List (Addr × Obj)), PSs (X.suite a pn) (b₀ :: suite) (ts a)) {xe : Value → Shared → Prop} (air : XE (X.tr (X.pn ++ pins) xe) (wTrk X.K c i X.N.length ts D) e s₁) :
    wpAny (model X.prog X.w) X.A (noteFrame e X.env) (fun _ s₂ => wpAny (model X.prog X.w) X.A (setFlight e none) (fun _ s₃ => wpAny (model X.prog X.w) X.A (handleBy e X.env [.ExceptHandler (some (.Name x np)) (some n) (b₀ :: suite) pos']) (SP X pins D) X.xe s₃) X.xe s₂) X.xe s₁ := by
  have off : ∀ {σ₆ : L2.St} {H₆ : Hp} {s₆ : Shared} {Q : Shared → Prop} {a : Addr}, Inv (X.suite a (X.pn ++ pins)) [] σ₆ H₆ s₆ → (∀ s₇, Inv X pins (σ₆.set i none) H₆ s₇ → Q s₇) →
      wpAny (model X.prog X.w) X.A (do bindName X.env n .none; unbindBehindTheSuite X.env n pos') (fun _ s₇ => Q s₇) X.xe s₆ := fun K q => gone_ok (out_of_suite ok K) hN hi hln q
  rcases air with ⟨a, B, sI, rest, τ, G, cls, d, rfl, J', old, up, sky, na, ho, hb, wish⟩
  have J := J'.ofTry ok
  obtain ⟨mt, run⟩ := wish J'.len
  have kept := fun (h : Heap) (fl : HandSPX.FlyingZ B (X.env :: X.outer) a (Zc cls d) h) (u : sI.heap.UpToSlots h) => kept_at (s := { s₁ with heap := h }) hs J old fl u ho hb na
  apply Sky.land Zc.steady (ok.frames.trans (congrArg some hs)) hf (by rw [← hs]; exact sky)
  intro h₃ fly₃ up₃
  have K₃ := kept h₃ fly₃ (up.trans up₃)
  obtain ⟨oe, vs, he, hz, _⟩ := fly₃.there
  apply wpAny_handleBy_cons (codeAny_handlers_test ?_) (by intro q; cases q)
  have ask := PySem.W.exm_one (M := model X.prog X.w) K₃.kIn (e := a) (fun A Q E s k q => wpAny_typeOf_ref (k _ _ he) (hz.1.symm ▸ q)) mt
  have name : ∀ {Q : Value → Shared → Prop} {E : Value → Shared → Prop}, Q c { s₁ with heap := h₃ } → wpAny (model X.prog X.w) (X.A.mark (some (.ref a))) (eval (.Name x np) X.env) Q E { s₁ with heap := h₃ } := by
    intro Q E q
    rcases hc with ⟨hg, nd, own | ⟨no, bb, nn⟩⟩
    · exact ld_glob (X := X.suite a (X.pn ++ pins)) K₃ hg own q nd
    · exact ld_blt (X := X.suite a (X.pn ++ pins)) K₃ hg no bb q nn nd
  apply name
  apply ask.here
  apply codeAny_handlers_suite_as
  apply HandSPX.lands_againZ fly₃
  intro h₄ fly₄ up₄
  apply store_ok (X := X.suite a (X.pn ++ pins)) (v := .ref a) (kept h₄ fly₄ ((up.trans up₃).trans up₄)) hN hi (.inl hln) rfl _ (.inr hln)
  intro s₅ K₅
  apply wpAny_mono ((hsu a (X.pn ++ pins)).run [] s₅ _ _ _ K₅ (run a na)) _ fun _ _ z => z.elim
  intro f s₆ e₆
  cases f with
  | ret u =>
    obtain ⟨v, _, _, K, r, q⟩ := e₆
    exact off K fun _ J₇ => ⟨v, _, _, J₇, r, q⟩
  | next => exact (match e₆ with | ⟨_, _, K, q⟩ => off K fun _ J₇ => ⟨_, _, J₇, q⟩)
  | brk => exact (match e₆ with | ⟨_, _, K, q⟩ => off K fun _ J₇ => ⟨_, _, J₇, q⟩)
  | cont => exact (match e₆ with | ⟨_, _, K, q⟩ => off K fun _ J₇ => ⟨_, _, J₇, q⟩)
/-- try: body / except x as n: suite, where x catches all that the body raises -/
theorem ps_try_trk (hs : X.stack = X.env :: X.outer) (hf : X.env.frame = some X.env.locals) (hN : X.N.Nodup) (hi : X.N[i]? = some n) (hln : X.env.kindOf n = some .local) (hc : Names X x c)
    (hb : ∀ (W : WX) (pn : List (Addr × Obj)) (xe : Value → Shared → Prop), Takes (X.tr pn xe) W → PassesOwn (model X.prog X.w) X.A X.env xe → PSs (X.tr pn xe) body (tb W))
    (hsu : ∀ (a : Addr) (pn : List (Addr × Obj)), PSs (X.suite a pn) (b₀ :: suite) (ts a)) :
    PS X (.Try body [.ExceptHandler (some (.Name x np)) (some n) (b₀ :: suite) pos'] [] [] pos) (fun D τ G => tb (wTrk X.K c i X.N.length ts D) D τ G) where
  run pins s τ G D I h := by
    apply wpAny_Try_except
    refine wpAny_mono ((hb (wTrk X.K c i X.N.length ts D) (X.pn ++ pins) _ (fun _ _ air => clause_trk I.ok hs hf hN hi hln hc hsu air) PassesOwn.looking).run [] s τ G D (I.toTry _) h) ?_ fun _ _ r => r
    intro f s₁ e₁
    cases f with
    | ret u => exact (match e₁ with | ⟨v, _, _, K, r, q⟩ => ⟨v, _, _, K.ofTry I.ok, r, q⟩)
    | next => exact (match e₁ with | ⟨_, _, K, q⟩ => wpAny_execs_nil ⟨_, _, K.ofTry I.ok, q⟩)
    | brk => exact (match e₁ with | ⟨_, _, K, q⟩ => ⟨_, _, K.ofTry I.ok, q⟩)
    | cont => exact (match e₁ with | ⟨_, _, K, q⟩ => ⟨_, _, K.ofTry I.ok, q⟩)
end
end L3
namespace L3
open PySem PySem.Spec PyProof.Rows L2
/-! ### isinstance of any of these -/
/-- what x is: a value of a kind that TyX tells, or a kept exception of an own class -/
inductive TyV (K : PySem.W.Frag) (H : Hp) : V → Value → Prop where
  | base {x : V} {t : Value} (h : TyX K H x t) : TyV K H x t
  | exc {a D : Addr} (h : H a = some (ExV (.ref D) none a)) (c : L2.ExcC K D) : TyV K H (.ref a) (.ref D)
  | excd {a D dd : Addr} {fs : List (Str × V)} (h : H a = some (ExV (.ref D) (some dd) a)) (hd : H dd = some (.xd fs)) (c : L2.ExcC K D) (hno : ¬ ("__class__" : Str) ∈ fs.map (·.1)) : TyV K H (.ref a) (.ref D)
def rIsV (K : PySem.W.Frag) : List V → Hp → VK → Prop := fun xs H Q => ∃ (x c : V) (t u : Value) (b : Bool), xs = [x, c] ∧ ClsV c u ∧ TyV K H x t ∧ PySem.W.kitOne K t u = some b ∧ Q (.bl b) H
theorem excC_kit {K : PySem.W.Frag} {D x : Addr} {ox : Obj} {od : Option Obj} (c : L2.ExcC K D) : PySem.W.KitX K (.ref x) (.ref D) (fun h => PySem.W.InstAt h x ox D od) :=
  PySem.W.kitx_exc (by obtain ⟨cd, hc, _⟩ := PySem.W.any_some c.hd; rw [hc]; rfl) c.hg c.hk c.hs c.ha c.hn c.ht c.hm
section
variable {X : Cx} {pins : List (Addr × Obj)} {σ : L2.St} {H : Hp} {s : Shared}
theorem exv_inst (I : Inv X pins σ H s) {a D : Addr} (h : H a = some (ExV (.ref D) none a)) : ∃ ox, PySem.W.InstAt s.heap a ox D none := by
  obtain ⟨⟨oe, vs, e, z, hd⟩, _, _⟩ := I.hok a _ h
  refine ⟨oe, ?_⟩
  obtain ⟨oc, od, oda, osl⟩ := oe
  obtain ⟨h1, h2⟩ := z
  dsimp only at h1 h2 hd
  subst h1 h2 hd
  exact ⟨e, rfl, rfl, trivial⟩
theorem exv_instd (I : Inv X pins σ H s) {a D dd : Addr} {fs : List (Str × V)} (h : H a = some (ExV (.ref D) (some dd) a)) (hd : H dd = some (.xd fs)) : ∃ ox od, PySem.W.InstAt s.heap a ox D (some od) ∧ s.heap.get? dd = some od := by
  obtain ⟨⟨oe, vs, e, z, hdt⟩, _, _⟩ := I.hok a _ h
  obtain ⟨mA, ⟨od, es, ep, e2, r⟩, _⟩ := (show ObjOk X.prog X.w H s.heap dd (.xd fs) from I.hok dd _ hd)
  refine ⟨oe, od, ?_, e2⟩
  obtain ⟨oc, o2, oda, osl⟩ := oe
  obtain ⟨h1, h2⟩ := z
  dsimp only at h1 h2 hdt
  subst h1 h2 hdt
  exact ⟨e, rfl, rfl, e2⟩
/-- what the library's isinstance rules ask -/
theorem kitV_of {x : V} {u t : Value} (I : Inv X pins σ H s) (rx : RelV x u) (ty : TyV X.K H x t) : ∃ P : Heap → Prop, PySem.W.KitX X.K u t P ∧ P s.heap ∧ u ≠ .builtin "__main__.__loader__#opaque" := by
  cases ty with
  | base h => exact kit_of I rx h
  | @exc a D h c =>
    obtain rfl : u = .ref a := rx
    obtain ⟨ox, J⟩ := exv_inst I h
    exact ⟨_, excC_kit c, J, fun z => nomatch z⟩
  | @excd a D dd fs h hd c hno =>
    obtain rfl : u = .ref a := rx
    obtain ⟨ox, od, J, _⟩ := exv_instd I h hd
    exact ⟨_, excC_kit c, J, fun z => nomatch z⟩
end
theorem call_isV {X : Cx} : CallR X (.builtin "isinstance") (rIsV X.K) := by
  rintro pins s σ H xs us Q I r ⟨x, c, t, u, b, rfl, k, ty, e, q⟩
  obtain ⟨_, _, rfl, r1, r2⟩ := vals2 r
  have e2 := k.eq r2
  subst e2
  obtain ⟨P, Z, p, hx⟩ := kitV_of I r1 ty
  exact PySem.W.kia_one Z I.kIn p e hx fun n => ⟨.bl b, H, I.tok n, rfl, q⟩
/-! ### == and != by an own __eq__ -/
/-- x == y, x an instance of the class at C whose __eq__ is the text's own -/
def rOwnEq (K : PySem.W.Frag) (C : Addr) (sp : Sp) (E : XK) (neg : Bool) : R2 := fun x y H Q => ∃ (a dx : Addr) (fs : List (Str × V)) (tb : Value), x = .ref a ∧ H a = some (.ins C dx fs) ∧ TyV K H y tb ∧ PySem.W.notFirst K C tb = true ∧
  sp [x, y] H (fun v H' => ∃ b, v = .bl b ∧ Q (.bl (if neg then !b else b)) H') E
section
variable {prog : Program} {w : World} {A : Around} {E : Value → Shared → Prop} {s : Shared} {K : PySem.W.Frag} {x C L f : Addr} {h₀ : Heap} {m : Str → Option Value} {ox : Obj} {od : Option Obj} {name : Str} {b tb : Value}
open PySem.W in
/-- a special method that the class has as a builtin is called with the instance ahead -/
theorem ifBound_B {M : Model} {id : String} {args : List Value} {Q : Option Value → Shared → Prop} (X : K.In s.heap) (I : InstAt s.heap x ox C od) (hs : findIn K (.ref C) name = some (some (.builtin id))) (hb : ∀ self, bindSpecial (.builtin id) self = pure (.builtin id, [self]))
    (h : wpAny M A (call (.builtin id) (.ref x :: args)) (fun v => Q (some v)) E s) : wpAny M A (callSpecialIfBound? (.ref x) name args) Q E s := by
  have ended : wpAny M A (call (.builtin id) ([.ref x] ++ args) >>= fun v => pure (some v)) Q E s :=
    wpAny_bind (wpAny_mono h (fun _ _ => wpAny_pure) fun _ _ e => e)
  unfold callSpecialIfBound? bindSpecialIfBound?
  apply wpAny_holding
  iterate 3 apply wpAny_bind
  apply I.type.here
  apply (looks_findIn X hs).here
  apply wpAny_bind
  apply wpAny_askSetting
  apply wpAny_ite
  split <;> rw [hb]
  all_goals repeat (first | exact ended | apply wpAny_tryCatch | apply wpAny_bind | apply wpAny_pure)
open PySem.W in
/-- object.__ne__ of an instance whose __eq__ is the text's own -/
theorem objNe_own {Q : Fin → Shared → Prop} (X : K.In s.heap) (I : InstAt s.heap x ox C od) (hu : A.units < cLine) (hs : findIn K (.ref C) "__eq__" = some (some (.ref f))) (hf : isFn K (.ref f) = true)
    (h : wpAny (model prog w) A (call (.ref f) [.ref x, b]) (fun v s' => ∃ r, v = .bool r ∧ Q (.done (.ret (.bool (!r)))) s') E s) :
    wpAny (model prog w) A (Builtin.«object.__ne__» ⟨[.ref x, b], []⟩) Q E s := by
  have eqd := fun (R : Option Value → Shared → Prop) (z : ∀ r s', Q (.done (.ret (.bool (!r)))) s' → R (some (.bool r)) s') =>
    ifBound_K (args := [b]) (Q := R) X I hs hf (wpAny_mono h (fun _ s' ⟨r, e, q⟩ => e ▸ z r s' q) fun _ _ e => e)
  unfold Builtin.«object.__ne__»
  repeat (first
    | (with_reducible apply wpAny_cRoomFor hu)
    | (apply wpAny_bind (m := callSpecialIfBound? (.ref x) (Str.ofString "__eq__") [b]); apply eqd; intro r s' q)
    | exact q
    | exact wpAny_pure q
    | exact wpAny_truthy_bool q
    | (apply wpAny_bind (m := truthy (.bool _)); apply wpAny_truthy_bool)
    | wp_step)
open PySem.W in
/-- the comparison's own answer, where the left side is asked first and answers -/
theorem asked_first {Q : Value → Shared → Prop} (hu : A.units < cLine) (X : K.In s.heap) (I : InstAt s.heap x ox C od) (hb : Looks (model prog w) s.heap (typeOf b) tb) (hn : notFirst K C tb = true)
    (one : wpAny (model prog w) A (tryCompare (.ref x) (cmpInfo .NotEq).2.1 b) (fun r s' => ∃ v, r = some v ∧ Q v s') E s) : wpAny (model prog w) A (richCompare .NotEq (.ref x) b) Q E s := by
  have no : (tb != .ref C) = true → subIn K tb (.ref C) = some false := fun z => by
    have hn' : (tb == .ref C || subIn K tb (.ref C) == some false) = true := hn
    rw [show (tb == .ref C) = false from by simpa [bne] using z, Bool.false_or] at hn'
    exact beq_iff_eq.mp hn'
  have rest := fun (k : Option Value → Sem Value) (hk : ∀ v, k (some v) = pure v) => wpAny_bind (f := k) (wpAny_mono one (fun r s' ⟨v, e, q⟩ => show wpAny (model prog w) A (k r) Q E s' by rw [e, hk]; exact wpAny_pure q) fun _ _ e => e)
  simp only [richCompare, oneThing_ref]
  apply wpAny_holding
  apply wpAny_bind
  apply wpAny_cRoomFor hu
  apply wpAny_bind
  apply I.type.here
  apply wpAny_bind
  apply hb.here
  by_cases q : (Value.ref C != tb) = true
  · rw [if_pos q]
    apply wpAny_bind
    apply (looks_subIn X (no (bne_comm.trans q))).here
    exact rest _ fun _ => rfl
  · rw [if_neg q]
    exact wpAny_bind (wpAny_pure (rest _ fun _ => rfl))
open PySem.W in
theorem cmp_neOwn {Q : Value → Shared → Prop} (hu : A.units + 1 < cLine) (X : K.In s.heap) (I : InstAt s.heap x ox C od) (hb : Looks (model prog w) s.heap (typeOf b) tb) (hn : notFirst K C tb = true) (hs : findIn K (.ref C) "__eq__" = some (some (.ref f))) (hf : isFn K (.ref f) = true)
    (hsN : findIn K (.ref C) "__ne__" = some (some (.builtin "object.__ne__"))) (hm : mroIn K C (.type "object") = some true)
    (h : wpAny (model prog w) A.in1 (call (.ref f) [.ref x, b]) (fun v s' => ∃ r, v = .bool r ∧ Q (.bool (!r)) s') E s) : wpAny (model prog w) A (richCompare .NotEq (.ref x) b) Q E s := by
  apply asked_first (Nat.lt_of_succ_lt hu) X I hb hn
  unfold tryCompare
  apply wpAny_bind
  apply ifBound_B X I hsN F.slot_object_ne.bind
  apply wpAny_call (codeAny_call_builtin F.slot_object_ne.plain F.cmpEntry_ne (check_slot F.cmpKind_ne F.cmpSplit_ne (I.type.andThen (looks_mroIn X hm)) (F.cmpArgs_ne _ _) _))
  exact objNe_own X I (A := A.in1) hu hs hf (wpAny_mono h (fun _ _ ⟨r, e, q⟩ => ⟨r, e, wpAny_pure ⟨_, rfl, q⟩⟩) fun _ _ e => e)
end
section
variable {X : Cx} {CX : CXT} {n : Nat} {C f : Addr} {fd : FuncData} {ps : List Str} {sp : Sp} {E : XK}
/-- the call of an own __eq__ that answers with a bool -/
theorem call_eq {A' : Around} {pins : List (Addr × Obj)} {s : Shared} {σ : L2.St} {H : Hp} {a : Addr} {y : V} {u : Value} {Q : Bool → Hp → Prop} (F : FnOk X.prog X.w X.K X.mg X.base CX n f fd ps sp) (hb : L2.Binds X.K fd ps []) (hx : Passes CX X E) (I : Inv X pins σ H s) (ry : RelV y u)
    (hr : Room n A') (he : Env0 X.prog X.w X.K X.mg X.base A' X.stack s H) (hsp : sp [.ref a, y] H (fun v H' => ∃ b, v = .bl b ∧ Q b H') E) :
    wpAny (model X.prog X.w) A' (call (.ref f) [.ref a, u]) (fun v s' => ∃ b, v = .bool b ∧ ∃ H', Inv X pins σ H' s' ∧ Q b H') X.xe s := by
  have bound := hb s [.ref a, u] I.kIn (by simpa using F.len _ _ _ _ hsp)
  apply wpAny_call (codeAny_mono (F.run A' X.stack s H ⟨[.ref a, u], []⟩ [.ref a, u] [.ref a, y] _ E hr he (by simpa using bound) (.cons rfl (.cons ry .nil)) hsp) _)
  rintro (e | fl) s' hq
  · exact hx pins σ H s e s' I hq
  · cases fl with
    | ret v =>
      obtain ⟨_, H', I', rz, b, rfl, q⟩ := I.after hq
      exact ⟨b, rz, H', I', q⟩
    | _ => exact hq.elim
theorem op_eqOwn (F : FnOk X.prog X.w X.K X.mg X.base CX n f fd ps sp) (hs : PySem.W.findIn X.K (.ref C) "__eq__" = some (some (.ref f))) (hf : PySem.W.isFn X.K (.ref f) = true) (hb : L2.Binds X.K fd ps []) (hx : Passes CX X E) (hr : Room n X.A) :
    OpR X (compareOp .Eq) (rOwnEq X.K C sp E false) := by
  rintro pins s σ H x y v u Q I rx ry ⟨a, dx, fs, tb, rfl, ha, ty, hn, hsp⟩
  cases rx
  obtain ⟨_, ⟨od, J, _⟩⟩ := (ins_get I.hok ha).imp fun _ z => z.1.look
  obtain ⟨P, Z, p, _⟩ := kitV_of I ry ty
  obtain ⟨m, hF⟩ := I.fr
  exact PySem.W.cmp_K (op := .Eq) (tb := tb) hr.units0 hF I.ok.mod.kin J (Z.ty _ _ I.kIn p) hn hs hf
    (wpAny_mono (call_eq F hb hx I ry hr I.env0 hsp) (fun _ _ ⟨b, e, H', I', q⟩ => e ▸ ⟨.bl b, H', I', rfl, q⟩) fun _ _ e => e)
theorem op_neOwn (F : FnOk X.prog X.w X.K X.mg X.base CX n f fd ps sp) (hs : PySem.W.findIn X.K (.ref C) "__eq__" = some (some (.ref f))) (hf : PySem.W.isFn X.K (.ref f) = true) (hsN : PySem.W.findIn X.K (.ref C) "__ne__" = some (some (.builtin "object.__ne__")))
    (hm : PySem.W.mroIn X.K C (.type "object") = some true) (hb : L2.Binds X.K fd ps []) (hx : Passes CX X E) (hr : Room (n + 1) X.A) :
    OpR X (compareOp .NotEq) (rOwnEq X.K C sp E true) := by
  rintro pins s σ H x y v u Q I rx ry ⟨a, dx, fs, tb, rfl, ha, ty, hn, hsp⟩
  cases rx
  obtain ⟨_, ⟨od, J, _⟩⟩ := (ins_get I.hok ha).imp fun _ z => z.1.look
  obtain ⟨P, Z, p, _⟩ := kitV_of I ry ty
  exact cmp_neOwn (by have := hr.un; omega) I.kIn J (Z.ty _ _ I.kIn p) hn hs hf hsN hm
    (wpAny_mono (call_eq F hb hx I ry hr.in1 I.env0.in1 hsp) (fun _ _ ⟨b, e, H', I', q⟩ => ⟨b, e, .bl (!b), H', I', rfl, q⟩) fun _ _ e => e)
end
end L3
set_option maxRecDepth 100000
set_option maxHeartbeats 4000000
/-! promises that hold where nothing is being shown yet (no guards): calls of such defs, and the law's end -/
namespace L3
open PySem PySem.Spec PyProof.Rows L2 LamX
/-- a def's promise, where no object is being shown -/
structure FnG (P : Program) (w : World) (K : PySem.W.Frag) (mg : Str → Option Value) (base : Heap) (CX : CXT) (k : Nat) (f : Addr) (fd : FuncData) (ps : List Str) (sp : Sp) : Prop where
  len : ∀ vs H Q E, sp vs H Q E → vs.length = ps.length
  run : ∀ (A : Around) (outer : List Env) (s : Shared) (H : Hp) (args : Args) (us : List Value) (vs : List V) (Q : VK) (E : XK), A.guards = some [] → Room k A → Env0 P w K mg base A outer s H → BindsTo s fd args (ps.zip us) → Vals vs us → sp vs H Q E →
    codeAny (model P w) A (.call (.ref f) args) (CR CX outer P w H s Q E) s
theorem FnG.of {P : Program} {w : World} {K : PySem.W.Frag} {mg : Str → Option Value} {base : Heap} {CX : CXT} {k : Nat} {f : Addr} {fd : FuncData} {ps : List Str} {sp : Sp} (F : FnOk P w K mg base CX k f fd ps sp) : FnG P w K mg base CX k f fd ps sp :=
  ⟨F.len, fun A outer s H args us vs Q E _ => F.run A outer s H args us vs Q E⟩
section
variable {X : Cx} {CX : CXT} {k : Nat} {f : Addr} {fd : FuncData} {ps : List Str} {sp : Sp} {E : XK} {ds : List Value} {dvs : List V}
theorem run_g {pins : List (Addr × Obj)} {σ : L2.St} {H : Hp} {s : Shared} {Q : VK} {us : List Value} {vs : List V} (F : FnG X.prog X.w X.K X.mg X.base CX k f fd ps sp) (gd : X.A.guards = some []) (hr : Room k X.A) (hb : L2.Binds X.K fd ps ds) (hd : Vals dvs ds) (hx : Passes CX X E)
    (I : Inv X pins σ H s) (r : Vals vs us) (h : sp (vs ++ dvs) H Q E) : wpAny (model X.prog X.w) X.A (call (.ref f) us) (EP X pins σ Q) X.xe s := by
  have all : Vals (vs ++ dvs) (us ++ ds) := r.append hd
  have long : (us ++ ds).length = ps.length := all.length ▸ F.len _ _ _ _ h
  apply wpAny_call
  refine codeAny_mono (F.run X.A X.stack s H ⟨us, []⟩ _ _ Q E gd hr I.env0 (hb s us I.kIn long) all h) ?_
  rintro (e | fl) s' hq
  · exact hx pins σ H s e s' I hq
  · cases fl with
    | ret u => exact I.after hq
    | _ => exact hq.elim
/-- f(e, ..) -/
theorem pe_callG {x : Str} {p pos : Pos} {e : Expr} {es : List Expr} {t : TA} (F : FnG X.prog X.w X.K X.mg X.base CX k f fd ps sp) (gd : X.A.guards = some []) (hr : Room k X.A) (hg : Gl X x) (hm : X.mg x = some (.ref f)) (hk : PySem.W.keepIn X.K (.ref f) = true) (hb : L2.Binds X.K fd ps ds) (hd : Vals dvs ds) (hx : Passes CX X E)
    (ha : PA X (e :: es) t) (hdb : (x == ("__debug__" : Str)) = false := by decide) (he : starEach (e :: es) X.env = (false, eval e X.env) :: starEach es X.env := by rfl) (hpl : (backTo pos (starEach es X.env)).any (·.1) = false := by rfl) :
    PE X (.Call (.Name x p) (e :: es) [] pos) (tCall sp dvs E t) where
  run pins s σ H Q I h := by
    apply wpAny_Call_Name_kw
    apply ld_glob I hg hm _ hdb
    refine PySem.W.callWith_K (h₀ := X.base) I.ok.mod.kin hk (thn (ha.run pos pins s σ H _ I h) ?_) he hpl
    rintro us s₁ ⟨vs, H₁, I₁, r, q⟩
    exact ⟨I₁.kIn, run_g F gd hr hb hd hx I₁ r q⟩
end
/-- a def whose body's readings want that nothing is being shown -/
theorem fn_g {CX : CXT} {P : Program} {w : World} {K : PySem.W.Frag} {mg : Str → Option Value} {base : Heap} {k : Nat} {f : Addr} {name qual : Str} {params : Arguments} {body : List Stmt} {scope : Scope} {dV kV doc pm cdv ct oc : Value} {an od : Option Addr} {osl : Array (Option Value)} {N ps : List Str} {sp : Sp}
    (lk : K.lookup f = some ⟨oc, od, .func (PySem.W.fnOf name qual params body scope dV kV doc pm an cdv ct), osl⟩) (hcd : PySem.W.codeIn K cdv qual = true) (S : FnScope N ps scope) (hl : ∀ vs H Q E, sp vs H Q E → vs.length = ps.length)
    (h : ∀ (A : Around) (outer : List Env) (s : Shared) (H : Hp) (vs : List V) (Q : VK) (E : XK), (A.deeper (envOfC qual scope s.heap.objs.size f cdv)).guards = some [] → Room k (A.deeper (envOfC qual scope s.heap.objs.size f cdv)) → sp vs H Q E →
      ∃ t, PSs (cxOf CX P w K mg base N qual scope f cdv A outer s H E) body t ∧ t { nx := fun _ H' => Q .non H', rt := Q } (L2.start N vs) H) :
    FnG P w K mg base CX (k + 1) f (PySem.W.fnOf name qual params body scope dV kV doc pm an cdv ct) ps sp :=
  ⟨hl, fun A outer s H args us vs Q E gd hr e0 hb r hs => run_ofS lk hcd S hr e0 hb r (hl _ _ _ _ hs) fun hr' => h A outer s H vs Q E gd hr' hs⟩
section
variable {K : PySem.W.Frag} {h : Heap} {ts : List Addr} {a : Addr} {vs : Array Value} {xs : List V}
/-- what is tracked as the law begins: the tables, and the script's list as it stands (if the written part has it not) -/
def H₀ (K : PySem.W.Frag) (ts : List Addr) (a : Addr) (vs : Array Value) (xs : List V) : Hp := fun b =>
  if b ∈ ts then some (.tbl #[]) else if b = a ∧ (K.lookup a).isNone = true then some (.frz { cls := .type "list", data := .seq vs } (.lst xs)) else none
theorem H₀_tab {b : Addr} (e : b ∈ ts) : H₀ K ts a vs xs b = some (.tbl #[]) := if_pos e
theorem H₀_at (n : a ∉ ts) (k : K.lookup a = none) : H₀ K ts a vs xs a = some (.frz { cls := .type "list", data := .seq vs } (.lst xs)) := by
  unfold H₀
  rw [if_neg n, if_pos ⟨rfl, by rw [k]; rfl⟩]
theorem H₀_cases (b : Addr) : H₀ K ts a vs xs b = none ∨ (b ∈ ts ∧ H₀ K ts a vs xs b = some (.tbl #[])) ∨ (b = a ∧ K.lookup a = none ∧ H₀ K ts a vs xs b = some (.frz { cls := .type "list", data := .seq vs } (.lst xs))) := by
  unfold H₀
  by_cases t : b ∈ ts
  · exact .inr (.inl ⟨t, if_pos t⟩)
  · rw [if_neg t]
    by_cases e : b = a ∧ (K.lookup a).isNone = true
    · exact .inr (.inr ⟨e.1, Option.isNone_iff_eq_none.mp e.2, if_pos e⟩)
    · exact .inl (if_neg e)
theorem H₀_off (hT : ∀ b ∈ ts, h.get? b = some { cls := .none, data := .fields #[] }) (ha : h.get? a = some { cls := .type "list", data := .seq vs }) {b : Addr} {o : Obj} (e : h.get? b = some o) (n1 : ∀ v n, o.data ≠ .seq v n) (n2 : o.data ≠ .fields #[]) : H₀ K ts a vs xs b = none := by
  rcases H₀_cases (K := K) (ts := ts) (a := a) (vs := vs) (xs := xs) b with z | ⟨t, _⟩ | ⟨rfl, _, _⟩
  · exact z
  · obtain rfl := Option.some.inj (e.symm.trans (hT b t))
    exact (n2 rfl).elim
  · obtain rfl := Option.some.inj (e.symm.trans ha)
    exact (n1 _ _ rfl).elim
end
section
variable {P : Program} {w : World} {K : PySem.W.Frag} {mg mb : Str → Option Value} {CX : CXT} {k : Nat} {fa a : Addr} {cs : List (Addr × Addr)} {fd : FuncData} {x : Str} {sp : Sp} {s₁ : Shared} {vs : List Value} {ns : List Int}
theorem law_g (KX : K.In s₁.heap) (hns : s₁.heap.Ns mainGlobals mg) (hb : s₁.heap.Ns builtinsNs mb) (hbb : ∀ x : Str, x ≠ "__name__" → mb x = bootBuiltins x) (hlim : s₁.heap.NoLimit) (hg : s₁.gens = #[])
    (hT : ∀ p ∈ cs, s₁.heap.get? p.2 = some { cls := .none, data := .fields #[] }) (nT : ∀ p ∈ cs, K.lookup p.2 = none) (C : ∀ p ∈ cs, PySem.W.CodeHd s₁.heap p.1 p.2) (hbm : ∃ (bm : Addr) (ob : Obj), mg "__builtins__" = some (.ref bm) ∧ bm ≠ builtinsNs ∧ s₁.heap.get? bm = some ob ∧ ob.cls = .type "module" ∧ ob.dict = some builtinsNs ∧ ob.data = .plain)
    (ha : s₁.heap.get? a = some { cls := .type "list", data := .seq vs.toArray }) (hi : IntsAre vs ns) (hl : ns.length ≤ sizeLine) (hr : Room k callerA)
    (F : ∀ base : Heap, K.In base → base.Ns mainGlobals mg → (∀ p ∈ cs, TabB base mg p.1 p.2) → FnG P w K mg base CX k fa fd [x] sp) (hbind : ∀ (s : Shared) (u : Value), BindsTo s fd ⟨[u], []⟩ [(x, u)])
    (hsp : ∀ H : Hp, (∀ p ∈ cs, H p.2 = some (.tbl #[])) → SqL K H a (ns.map V.int) → sp [.ref a] H (fun v _ => v = .bl true) fun _ _ _ => False)
    (hCX : ∀ H e s', CX [] H s₁ (fun _ _ _ => False) e s' → False) :
    codeAny (model P w) callerA (.call (.ref fa) ⟨[.ref a], []⟩) (fun r s' => r = .ok (.ret (.bool true)) ∧ OldK s₁.heap s'.heap ∧ s'.os = s₁.os ∧ AllBare s'.gens) s₁ := by
  have values := vals_ints hi
  have long : vs.length = ns.length := hi.length
  have tab : ∀ b ∈ cs.map (·.2), s₁.heap.get? b = some { cls := .none, data := .fields #[] } := fun b m => by
    obtain ⟨p, hp, rfl⟩ := List.mem_map.mp m
    exact hT p hp
  have mem : ∀ p ∈ cs, p.2 ∈ cs.map (·.2) := fun p hp => List.mem_map_of_mem hp
  have na : a ∉ cs.map (·.2) := fun m => by
    cases ha.symm.trans (tab a m)
  let H : Hp := H₀ K (cs.map (·.2)) a vs.toArray (ns.map V.int)
  have stays : ∀ {b o}, s₁.heap.get? b = some o → (∀ v n, o.data ≠ .seq v n) → o.data ≠ .fields #[] → (hidT s₁.heap H).get? b = some o := fun e n1 n2 => hidT_get e (H₀_off tab ha e n1 n2)
  have space : ∀ {b m}, s₁.heap.Ns b m → (hidT s₁.heap H).Ns b m := fun ⟨o, es, ep, e, d, r⟩ => ⟨o, es, ep, stays e (fun _ _ z => by rw [d] at z; cases z) (fun z => by rw [d] at z; cases z), d, r⟩
  have inK : K.In (hidT s₁.heap H) := fun b o e => hidT_get (KX b o e) (by
    rcases H₀_cases (K := K) (ts := cs.map (·.2)) (a := a) (vs := vs.toArray) (xs := ns.map V.int) b with z | ⟨m, _⟩ | ⟨rfl, n, _⟩
    · exact z
    · obtain ⟨p, hp, rfl⟩ := List.mem_map.mp m
      cases (nT p hp).symm.trans e
    · cases n.symm.trans e)
  have mod : L2.Mod K mg (hidT s₁.heap H) := ⟨inK, space hns, ⟨mb, space hb, hbb⟩, hlim.elim fun mc z => ⟨mc, space z.1, z.2⟩⟩
  have tables : ∀ p ∈ cs, TabB (hidT s₁.heap H) mg p.1 p.2 := fun p hp => by
    have at_ := hT p hp
    have apart : ∀ {q o}, s₁.heap.get? q = some o → o.data ≠ .fields #[] → q ≠ p.2 := fun e n z => by
      rw [z, at_] at e
      exact n (Option.some.inj e ▸ rfl)
    constructor
    · obtain ⟨o, us, file, tf, flags, tg, inF, text, tt, e, c, d, r⟩ := C p hp
      exact ⟨o, us, file, tf, flags, tg, inF, text, tt, stays e (fun _ _ z => by rw [d] at z; cases z) (fun z => by rw [d] at z; cases z; cases r.1), c, d, r⟩
    · obtain ⟨bm, ob, b1, b2, b3, b4, b5, b6⟩ := hbm
      refine ⟨bm, ob, b1, b2, fun z => ?_, apart b3 (fun z => by rw [b6] at z; cases z), stays b3 (fun _ _ z => by rw [b6] at z; cases z) (fun z => by rw [b6] at z; cases z), b4, b5, b6⟩
      obtain ⟨o, es, ep, e, d, _⟩ := hns
      obtain rfl := Option.some.inj ((z ▸ b3).symm.trans e)
      cases b6.symm.trans d
    · obtain ⟨o, es, ep, e, d, _⟩ := hns
      exact apart e fun z => by rw [d] at z; cases z
  have held : HOk P w H s₁.heap := fun b u e => by
    rcases H₀_cases (K := K) (ts := cs.map (·.2)) (a := a) (vs := vs.toArray) (xs := ns.map V.int) b with z | ⟨m, z⟩ | ⟨rfl, _, z⟩ <;> cases e.symm.trans z
    · exact tab b m
    · exact ⟨ha, by rw [List.length_map]; exact hl, vs, _, values, ha⟩
  have script : SqL K H a (ns.map V.int) := by
    cases n : K.lookup a with
    | none => exact .inl (.inr ⟨_, H₀_at na n⟩)
    | some o =>
      obtain rfl := Option.some.inj ((KX a o n).symm.trans ha)
      exact .inr ⟨_, vs.toArray, _, n, rfl, rfl, rfl, by rw [List.size_toArray, long]; exact hl, by simpa using values⟩
  have tracked : ∀ p ∈ cs, H p.2 = some (.tbl #[]) := fun p hp => H₀_tab (mem p hp)
  have e0 : Env0 P w K mg (hidT s₁.heap H) callerA [] s₁ H := ⟨rfl, mod, fun b o e => of_hidT e, Nat.le_of_eq (hidT_size _ _), trivial, fun b m => (List.not_mem_nil m).elim, held, .of_eq hg⟩
  refine codeAny_mono ((F _ inK (space hns) tables).run callerA [] s₁ H ⟨[.ref a], []⟩ [.ref a] [.ref a] _ _ rfl hr e0 (hbind s₁ (.ref a)) (.cons rfl .nil) (hsp H tracked script)) ?_
  rintro (e | fl) s' q
  · exact (hCX H e s' q).elim
  cases fl with
  | ret u =>
    obtain ⟨v, H', os, bare, un, held', rv, rfl⟩ := q
    obtain rfl : u = .bool true := rv
    have kept : ∀ b o, b ∉ cs.map (·.2) → s₁.heap.get? b = some o → s'.heap.get? b = some o := fun b o n e => by
      rcases H₀_cases (K := K) (ts := cs.map (·.2)) (a := a) (vs := vs.toArray) (xs := ns.map V.int) b with z | ⟨m, _⟩ | ⟨rfl, _, z⟩
      · exact un.keep b o e z (fun m => (List.not_mem_nil m).elim) (by simp)
      · exact (n m).elim
      · obtain ⟨e', _⟩ : ObjOk P w H' s'.heap b (.frz _ _) := held' b _ (un.frzs b _ _ z)
        exact e'.trans (ha.symm.trans e)
    have grown : ∀ p ∈ cs, ∃ more : Array Value, s'.heap.get? p.2 = some { cls := .none, data := .fields more } := fun p hp => by
      obtain ⟨more, z⟩ := un.tbls p.2 #[] (tracked p hp)
      exact ⟨_, held' p.2 _ z⟩
    refine ⟨rfl, ⟨fun b o e => ?_, fun b o e => ?_⟩, os, bare⟩
    · by_cases m : b ∈ cs.map (·.2)
      · obtain ⟨p, hp, rfl⟩ := List.mem_map.mp m
        obtain ⟨more, g⟩ := grown p hp
        obtain rfl := Option.some.inj ((tab _ m).symm.trans e)
        exact .inr (.inl ⟨((C p hp).tab (hT p hp)).isCodeTable, rfl, #[], more, rfl, by rw [Array.empty_append]; exact g⟩)
      · exact .inl (kept b o m e)
    · by_cases m : b ∈ cs.map (·.2)
      · obtain ⟨p, hp, rfl⟩ := List.mem_map.mp m
        exact (grown p hp).elim fun _ g => ⟨_, g⟩
      · exact ⟨o, kept b o m e⟩
  | _ => exact q.elim
end
/-- what is known of the law's promise at the head's heap h -/
def LawG (l : PySem.W.OpenLaw) (w : World) (K : PySem.W.Frag) (CX : CXT) (k n : Nat) (x : Str) (mg : Str → Option Value) (fa : Addr) (h : Heap) : Prop :=
  ∃ (fd : FuncData) (cs : List (Addr × Addr)) (sp : Sp), (∀ p ∈ cs, h.get? p.2 = some { cls := .none, data := .fields #[] }) ∧ (∀ p ∈ cs, K.lookup p.2 = none) ∧ (∀ p ∈ cs, PySem.W.CodeHd h p.1 p.2) ∧ (∀ (s : Shared) (u : Value), BindsTo s fd ⟨[u], []⟩ [(x, u)]) ∧
    (∀ (H : Hp) (a : Addr) (ns : List Int), ns.length ≤ n → (∀ p ∈ cs, H p.2 = some (.tbl #[])) → SqL K H a (ns.map V.int) → sp [.ref a] H (fun v _ => v = .bl true) fun _ _ _ => False) ∧
    ∀ base : Heap, K.In base → base.Ns mainGlobals mg → (∀ p ∈ cs, TabB base mg p.1 p.2) → FnG l.prog w K mg base CX k fa fd [x] sp
theorem walk_g {l : PySem.W.OpenLaw} {n k : Nat} {q : Program} {loose : List Str} {XP : (Str → Option Value) → Heap → Prop} {YP : World → Heap → Prop} {d : DefRec} {K : Params → PySem.W.Frag} {CX : World → CXT} {x : Str}
    (hn : l.most = some n) (hn2 : n ≤ sizeLine) (hdf : d.params.defaults = []) (hr : Room k callerA) (hY : ∀ (w : World) (h : Heap), YP w h → (K w.params).In h)
    (F : ∀ (w : World) (mg : Str → Option Value) (fa : Addr) (h : Heap), YP w h → (K w.params).In h → h.Ns mainGlobals mg → mg d.name = some (.ref fa) → LawG l w (K w.params) (CX w) k n x mg fa h)
    (hCX : ∀ (w : World) (H : Hp) (s : Shared) (e : Value) (s' : Shared), CX w [] H s (fun _ _ _ => False) e s' → False) : PySem.W.WalkO q loose XP YP l.row.toRowW d [] (fun f vs => PySem.call f vs) := by
  apply Att.attach_callB hn hdf
  intro w s₀ s₁ mg mb fa o pm cd doc a vs ns G Y ho hd hcd hmg hobj hints hlen _ hg
  obtain ⟨fd, cs, sp, hT, nT, C, hb, hsp, hF⟩ := F w mg fa _ Y (hY w _ Y) G.T.g hmg
  exact law_g (hY w _ Y) G.T.g G.T.b G.T.builtins G.T.nolimit hg hT nT C G.T.bmain hobj hints (Nat.le_trans hlen hn2) hr hF hb (fun H hH hS => hsp H a ns hlen hH hS) fun H e s' => hCX w H s₁ e s'
end L3
set_option maxRecDepth 100000
set_option maxHeartbeats 4000000
/-! an exception whose __init__ says super().__init__(text) and then stores what it got -/
namespace L3
open PySem PySem.Spec PyProof.Rows L2 PySem.W
/-- what the written part says of the class at C and its __init__'s code -/
structure SupT (P : Program) (K : Frag) (mg : Str → Option Value) (C cc cda : Addr) (qual : Str) : Prop where
  T : OexC K C
  ii : excInitIn K C [.type "ValueError", .type "Exception", .type "BaseException", .type "object"] "ValueError.__new__" = true
  hcd : codeIn K (.ref cda) qual = true
  file : ∃ (ccl : Value) (cdd : Option Addr) (vs : Array Value) (ccs : Array (Option Value)) (file : Str) (tf : Tok), K.lookup cda = some ⟨ccl, cdd, .fields vs, ccs⟩ ∧ vs[2]? = some (.str file tf) ∧ ((P.main.file : Str) == file) = true
  cell : ∃ (cl : Value) (cld : Option Addr) (csl : Array (Option Value)), K.lookup cc = some ⟨cl, cld, .cell (some (.ref C)), csl⟩
  cls : ∃ cdC, clsIn K C = some cdC
  sup : ks_superIn K C C "__init__" = some (some (.builtin "ValueError.__init__"))
  sve : subIn K (.ref C) (.type "ValueError") = some true
  opq : nsIn K cStatics "thirdparty.any" = some none
  mro : mroIn K C (.ref C) = some true
  nosup : mg "super" = none
  top : (P.main.scope.names.lookup ("super" : Str)).isSome = false
section
variable {P : Program} {w : World} {K : Frag} {mg : Str → Option Value} {base : Heap} {A : Around} {E : Value → Shared → Prop}
/-- super(): the object that looks behind the class -/
theorem super_here {C cc cda x f : Addr} {qual q : Str} {h₀ : Heap} {L : Addr} {m : Str → Option Value} {news : List (Addr × Obj)} {body : List Stmt} {scope : Scope} {p0 p1 : Pos} {attr : Str} {whole : Sem Value} {fd : FuncData} {ar : Arg} {ox : Obj} {odx : Option Obj} {oc : Value} {od : Option Addr} {osl : Array (Option Value)} {s : Shared} {Q : Value → Shared → Prop}
    (S : SupT P K mg C cc cda qual) (M : Mod K mg h₀) (F : Fr h₀ L s.heap m) (N : News h₀ L s.heap news) (lk : K.lookup f = some ⟨oc, od, .func fd, osl⟩) (hp : (fd.params.posonlyargs ++ fd.params.args).head? = some ar) (hv : m ar.arg = some (.ref x)) (I : InstAt s.heap x ox C odx)
    (hat : (attr == ("__class__" : Str)) = false) (hks : scope.names.lookup ("super" : Str) = some .globalImplicit) (hkc : scope.names.lookup ("__class__" : Str) = some .free) (hka : scope.names.lookup ar.arg = some .local) (hk : scope.kind = .function)
    (h : ∀ so h', Fr h₀ L h' m → News h₀ L h' ((so, ks_superObj C x C) :: news) → (∀ p ∈ news, p.1 < so) → Q (.ref so) { s with heap := h' }) :
    PySem.wpAt (model P w) A (.func body (ksEnv q scope L f (.ref cda) cc)) (attributeBase (.Call (.Name "super" p0) [] [] p1) attr (ksEnv q scope L f (.ref cda) cc) whole) Q E s := by
  obtain ⟨_, _, vs, _, file, tf, hcode, hvs, hfile⟩ := S.file
  obtain ⟨_, _, _, hcell⟩ := S.cell
  obtain ⟨cd, hcl⟩ := S.cls
  obtain ⟨mb, hblt, hboot⟩ := M.blt
  have X : K.In s.heap := M.kin.keeps F.keep
  obtain ⟨oC, there, isc⟩ : ∃ o, s.heap.get? C = some o ∧ o.data = .cls cd := by
    revert hcl
    unfold clsIn
    split
    · rename_i e
      intro z
      exact ⟨_, X _ _ e, by cases z; rfl⟩
    · exact fun z => nomatch z
  apply ks_wpAt_super_base (env := ksEnv q scope L f (.ref cda) cc) hks hkc hat rfl (X _ _ lk) rfl hp rfl (X _ _ hcode) rfl hvs hfile S.top
  apply ks_loadName_global (env := ksEnv q scope L f (.ref cda) cc) hk hks
  apply Calls.loadGlobal_builtin (env := ksEnv q scope L f (.ref cda) cc) (M.glob.keeps F.keep) S.nosup (hblt.keeps F.keep) ((hboot _ (by decide +kernel)).trans (by first | boot_by_name | kernel_rfl))
  refine ⟨rfl, ?_⟩
  apply wpAny_loadName_free (env := ksEnv q scope L f (.ref cda) cc) hk hkc rfl ⟨_, X _ _ hcell, rfl⟩
  apply wpAny_loadName_local (env := ksEnv q scope L f (.ref cda) cc) hk hka F.ns hv
  obtain ⟨hh, g, d, t, os⟩ := s
  apply ks_wpAny_isType_cls there isc
  refine ⟨rfl, ?_⟩
  apply ks_wpAny_call_super there isc I.at_ I.cls
  · intro c e
    have n := I.no
    unfold notCls at n
    rw [e] at n
    cases n
  · exact looks_mroIn X S.mro
  · intro h' e k
    obtain ⟨F', N', lt⟩ := ks_newsPush (s := ⟨hh, g, d, t, os⟩) F N rfl e k
    exact h _ _ F' N' lt
/-- super().__init__(text), then the rest: the exception has other args, all else stays -/
theorem sup_first {C cc cda a t₁ f : Addr} {qual q : Str} {h₀ : Heap} {L : Addr} {m : Str → Option Value} {rest : List Stmt} {body : List Stmt} {scope : Scope} {p0 p1 p2 p3 p4 p5 : Pos} {txt : Str} {j : Nat} {fd : FuncData} {ar : Arg} {oc : Value} {od : Option Addr} {osl : Array (Option Value)} {s : Shared} {Q : Flow → Shared → Prop}
    (S : SupT P K mg C cc cda qual) (M : Mod K mg h₀) (F : Fr h₀ L s.heap m) (N : News h₀ L s.heap [(a, excObj C t₁ none .none)]) (lk : K.lookup f = some ⟨oc, od, .func fd, osl⟩) (hp : (fd.params.posonlyargs ++ fd.params.args).head? = some ar) (hv : m ar.arg = some (.ref a))
    (hks : scope.names.lookup ("super" : Str) = some .globalImplicit) (hkc : scope.names.lookup ("__class__" : Str) = some .free) (hka : scope.names.lookup ar.arg = some .local) (hk : scope.kind = .function)
    {pl : Sem Bool} (he : eval (.Call (.Attribute (.Call (.Name "super" p0) [] [] p1) "__init__" p2) [.Constant (.str txt) j p3] [] p4) (ksEnv q scope L f (.ref cda) cc) = (do
      let ov ← attributeBase (.Call (.Name "super" p0) [] [] p1) "__init__" (ksEnv q scope L f (.ref cda) cc) (eval (.Call (.Name "super" p0) [] [] p1) (ksEnv q scope L f (.ref cda) cc))
      standAt p2.atName
      let (g, first) ← holding [ov] (getMethod ov "__init__" pl)
      callWith p4 g first (backTo p4 (starEach [.Constant (.str txt) j p3] (ksEnv q scope L f (.ref cda) cc))) []))
    (hs : swapsWith (.Call (.Attribute (.Call (.Name "super" p0) [] [] p1) "__init__" p2) [.Constant (.str txt) j p3] [] p4) none p5.line (ksEnv q scope L f (.ref cda) cc) = pure false) (hi : interactive (ksEnv q scope L f (.ref cda) cc) = false)
    (h : ∀ t₂ h' k', Fr h₀ L h' m → News h₀ L h' [(a, excObj C t₂ none .none)] → wpAny (model P w) A (execs rest (ksEnv q scope L f (.ref cda) cc)) Q E { s with heap := h', toks := k' }) :
    PySem.wpAt (model P w) A (.func body (ksEnv q scope L f (.ref cda) cc)) (execs (.Expr (.Call (.Attribute (.Call (.Name "super" p0) [] [] p1) "__init__" p2) [.Constant (.str txt) j p3] [] p4) p5 :: rest) (ksEnv q scope L f (.ref cda) cc)) Q E s := by
  have I : InstAt s.heap a (excObj C t₁ none .none) C none := .of_exc0 N List.mem_cons_self
  refine ks_wpAt_execs_cons (ks_wpAt_Expr_any (ks_wpAt_MethodCall (pl := pl) ?_ he) hi hs)
  apply super_here S M F N lk hp hv I rfl hks hkc hka hk
  intro so h₁ F₁ N₁ lt₁
  have I₁ : InstAt h₁ a (excObj C t₁ none .none) C none := .of_exc0 N₁ (.tail _ List.mem_cons_self)
  apply kxs_method (s := { s with heap := h₁ }) kxs_ValueError F₁ M.kin N₁ List.mem_cons_self I₁ S.opq S.sup S.sve (by decide)
  intro u h₂ F₂ N₂ lt₂
  refine kxs_callWith1 N₂ List.mem_cons_self (Calls.spliced_cons (Calls.Constant_str (k := j) (pos := p3) (Calls.spliced_nil ?_)))
  have na : a < so := lt₁ _ List.mem_cons_self
  have nu : a < u := lt₂ (a, _) (.tail _ List.mem_cons_self)
  refine ⟨kxs_at N₂ List.mem_cons_self, ?_⟩
  refine kxs_call F₂ M.kin N₂ PySem.F.excBase_ValueError S.ii List.mem_cons_self (.tail (Nat.ne_of_gt nu) (.tail (Nat.ne_of_gt na) (.head fun _ z => nomatch z))) (by show 1 ≤ sizeLine; decide) ?_
  intro t₂ h₃ F₃ N₃ _
  exact wpAt_of_wpAny (h t₂ h₃ _ F₃ fun p hp => N₃ p (.tail _ (.tail _ (.tail _ hp))))
/-- where an exception gets its dict: what else lies in the heap stays -/
theorem exc_fills {fs₀ : List Addr} {H : Hp} {h h' : Heap} {a C dx t₂ : Addr} {fs : List (Str × V)} {mA : Str → Option Value} (hok : HOk P w H h) (ea : H a = some (exo a C none)) (dn : h.objs.size ≤ dx) (k : ∀ b o, b ≠ a → h.get? b = some o → h'.get? b = some o)
    (hx : h'.get? a = some (excObj C t₂ (some dx) .none)) (hn : h'.Ns1 dx mA) (r : ∀ g, RelO (fs.lookup g) (mA g)) :
    Un fs₀ [] H (upd (upd H dx (exd dx fs)) a (exo a C (some dx))) h h' ∧ HOk P w (upd (upd H dx (exd dx fs)) a (exo a C (some dx))) h' := by
  have nd : H dx = none := hok.fresh dn
  have off : ∀ {b o}, H b = some o → b ≠ dx := fun e => ne_of_none e nd
  have other : ∀ {b o}, H b = some o → (∀ d, o ≠ exo a C d) → b ≠ a := fun e n z => n none (Option.some.inj ((z ▸ e).symm.trans ea))
  have keep : ∀ {b o}, H b = some o → (∀ d, o ≠ exo a C d) → (upd (upd H dx (exd dx fs)) a (exo a C (some dx))) b = some o := fun e n => by rw [upd_ne (other e n), upd_ne (off e), e]
  have none_a : ∀ {b}, H b = none → b ≠ a := fun n z => by rw [z, ea] at n; cases n
  have old : ∀ {b o}, h.get? b = some o → b ≠ dx := fun e => Nat.ne_of_lt (Nat.lt_of_lt_of_le (Heap.lt_size e) dn)
  constructor
  · constructor
    · exact fun b o e n _ _ => k b o (none_a n) e
    · exact fun b o e n _ _ => ⟨o.slots, k b o (none_a n) e⟩
    · exact fun b o e n _ => by rw [upd_ne (none_a n), upd_ne (old e)]; exact n
    · intro b o e _
      by_cases z : b = a
      · exact ⟨_, z ▸ hx⟩
      · exact ⟨o, k b o z e⟩
    · exact fun b xs e => keep e fun d z => exo_tup z.symm
    · exact fun b o u e => keep e fun d z => exo_frz z.symm
    · exact fun b ps e => ⟨#[], by rw [keep e fun d z => exo_tbl z.symm]; simp⟩
  · intro b o e
    by_cases z : b = a
    · subst z
      obtain rfl := Option.some.inj (upd_same.symm.trans e)
      exact exo_ok hx
    rw [upd_ne z] at e
    by_cases y : b = dx
    · subst y
      obtain rfl := Option.some.inj (upd_same.symm.trans e)
      exact exd_ok hn r
    rw [upd_ne y] at e
    refine (hok b o e).stay (fun c v hc q => k c v (hc.elim (fun c' => c' ▸ z) fun c' => other c' fun d x => exo_own x.symm) q) (fun c hc => keep hc fun d x => exo_own x.symm) fun c xs hc => keep hc fun d x => exo_tup x.symm
/-- what such an __init__ promises -/
def spSup (C : Addr) (x : Str) : Sp := fun vs H Q _ => ∃ (a : Addr) (y : V), vs = [.ref a, y] ∧ H a = some (exo a C none) ∧ ∀ dx, H dx = none → dx ≠ a → Q .non (upd (upd H dx (exd dx [(x, y)])) a (exo a C (some dx)))
theorem ok_sup {CX : CXT} {C cc cda f : Addr} {name qual x : Str} {params : Arguments} {scope : Scope} {dV kV doc pm ct oc : Value} {an od : Option Addr} {osl : Array (Option Value)} {p0 p1 p2 p3 p4 p5 q1 q2 q3 q4 : Pos} {txt : Str} {j : Nat} {ar : Arg}
    (S : SupT P K mg C cc cda qual) (hno : findIn K (.ref C) x = some none)
    (lk : K.lookup f = some ⟨oc, od, .func (ksFn name qual params [.Expr (.Call (.Attribute (.Call (.Name "super" p0) [] [] p1) "__init__" p2) [.Constant (.str txt) j p3] [] p4) p5, .Assign [.Attribute (.Name "self" q1) x q2] (.Name x q3) q4] scope dV kV doc pm an (.ref cda) ct cc), osl⟩)
    (hp : (params.posonlyargs ++ params.args).head? = some ar) (har : ar.arg = ("self" : Str)) (hx : x ≠ "self") (hd : (x == ("__debug__" : Str)) = false)
    (hks : scope.names.lookup ("super" : Str) = some .globalImplicit) (hkc : scope.names.lookup ("__class__" : Str) = some .free) (hka : scope.names.lookup ("self" : Str) = some .local) (hkx : scope.names.lookup x = some .local) (hk : scope.kind = .function)
    (hcell : ∀ x ∈ scope.names, x.2 ≠ .cell) (hco : scope.isCoroutine = false) (hgen : scope.isGenerator = false)
    {pl : Sem Bool} (he : ∀ L, eval (.Call (.Attribute (.Call (.Name "super" p0) [] [] p1) "__init__" p2) [.Constant (.str txt) j p3] [] p4) (ksEnv qual scope L f (.ref cda) cc) = (do
      let ov ← attributeBase (.Call (.Name "super" p0) [] [] p1) "__init__" (ksEnv qual scope L f (.ref cda) cc) (eval (.Call (.Name "super" p0) [] [] p1) (ksEnv qual scope L f (.ref cda) cc))
      standAt p2.atName
      let (g, first) ← holding [ov] (getMethod ov "__init__" pl)
      callWith p4 g first (backTo p4 (starEach [.Constant (.str txt) j p3] (ksEnv qual scope L f (.ref cda) cc))) []))
    (hs : ∀ L, swapsWith (.Call (.Attribute (.Call (.Name "super" p0) [] [] p1) "__init__" p2) [.Constant (.str txt) j p3] [] p4) none p5.line (ksEnv qual scope L f (.ref cda) cc) = pure false) (hi : ∀ L, interactive (ksEnv qual scope L f (.ref cda) cc) = false)
    (hs2 : ∀ L, swapsWith (.Name x q3) (some (.Attribute (.Name "self" q1) x q2)) q4.line (ksEnv qual scope L f (.ref cda) cc) = pure false) :
    FnOk P w K mg base CX 1 f (ksFn name qual params [.Expr (.Call (.Attribute (.Call (.Name "super" p0) [] [] p1) "__init__" p2) [.Constant (.str txt) j p3] [] p4) p5, .Assign [.Attribute (.Name "self" q1) x q2] (.Name x q3) q4] scope dV kV doc pm an (.ref cda) ct cc) ["self", x] (spSup C x) := by
  refine ⟨fun vs H Q E ⟨_, _, e, _⟩ => by rw [e]; rfl, fun A outer s H args us vs Q E hr e0 hb r hsp => ?_⟩
  obtain ⟨a, y, rfl, ha, fin⟩ := hsp
  obtain ⟨_, u, rfl, r1, ry⟩ := vals2 r
  cases r1
  have up : ∀ b o, base.get? b = some o → s.heap.get? b = some o := fun b o e => (e0.bs b o e).1
  have KX : K.In s.heap := e0.mod.kin.keeps up
  obtain ⟨t₁, hat⟩ := exo_at e0.hok ha
  have off : ∀ b o, base.get? b = some o → b ∉ [a] := fun b o e z => by
    have n := (e0.bs b o e).2
    rw [List.mem_singleton.mp z, ha] at n
    cases n
  have up₀ : ∀ b o, base.get? b = some o → (hideAll s.heap [a]).get? b = some o := fun b o e => hideAll_get _ (up b o e) (off b o e)
  obtain ⟨mb, hb1, hb2⟩ := e0.mod.blt
  have M : Mod K mg (hideAll s.heap [a]) := ⟨e0.mod.kin.keeps up₀, e0.mod.glob.keeps up₀, ⟨mb, hb1.keeps up₀, hb2⟩, e0.mod.nolimit.keeps up₀⟩
  refine ks_codeAny_call_defAt (body := _) hr.depth (KX _ _ lk) rfl (e0.mod.nolimit.keeps up) (codeRec_of KX S.hcd) rfl hb hcell ?_ (fun h₁ hns hk₁ => ?_) hco hgen hk
  · intro p hp
    simp at hp
    rcases hp with rfl | rfl
    · exact hka
    · exact hkx
  have F : Fr (hideAll s.heap [a]) s.heap.objs.size h₁ _ := ⟨hns, fun b o e => hk₁ b o (of_hideAll _ e), Nat.le_of_eq (hideAll_size _ _)⟩
  have N : News (hideAll s.heap [a]) s.heap.objs.size h₁ [(a, excObj C t₁ none .none)] := fun p hp => by
    rw [List.mem_singleton.mp hp]
    exact ⟨hk₁ _ _ hat, Nat.ne_of_lt (Heap.lt_size hat), hideAll_none _ List.mem_cons_self⟩
  obtain ⟨nm, qn, NN, bs, bm, sn, sub, ab, col, dd, k0, k1, k2, k3, k5, hC, hbm⟩ := S.T.cls
  have hcl : clsIn K C = some { name := nm, bases := bs, mro := .ref C :: bm, ns := NN, qualname := qn, hasDict := true, slotNames := sn, subclasses := sub, abstract := ab, collection := col, hasDel := false } := by
    unfold clsIn
    rw [hC] <;> rfl
  refine sup_first (q := qual) (L := s.heap.objs.size) S M F N lk hp ?_ hks hkc (har ▸ hka) hk (he _) (hs _) (hi _) ?_
  · rw [har]
    show List.lookup ("self" : Str) [(x, u), (("self" : Str), Value.ref a)] = _
    rw [List.lookup_cons, show (("self" : Str) == x) = false from beq_eq_false_iff_ne.mpr fun z => hx z.symm]
    rfl
  intro t₂ h₂ k₂ F₂ N₂
  have M₂ : K.In h₂ := M.kin.keeps F₂.keep
  have at₂ := (N₂ _ List.mem_cons_self).1
  refine wpAny_execs_cons (plainObj_wpAny_Assign_Attribute (wpAny_Name (wpAny_loadName_local (env := ksEnv qual scope s.heap.objs.size f (.ref cda) cc) hk hkx F₂.ns (v := u) ?_ (wpAny_Name (wpAny_loadName_local (env := ksEnv qual scope s.heap.objs.size f (.ref cda) cc) hk hka F₂.ns (v := .ref a) ?_ ?_))) hd) (hs2 _))
  · show List.lookup x [(x, u), (("self" : Str), Value.ref a)] = _
    rw [List.lookup_cons, beq_self_eq_true]
  · show List.lookup ("self" : Str) [(x, u), (("self" : Str), Value.ref a)] = _
    rw [List.lookup_cons, show (("self" : Str) == x) = false from beq_eq_false_iff_ne.mpr fun z => hx z.symm]
    rfl
  refine set_plain (ox := excObj C t₂ none .none) (od := none) M₂ (.of_exc0 N₂ List.mem_cons_self) S.T.sa ?_
  refine HandSPX.exc_osa M₂ at₂ hcl (show HandSPX.refsVE (.ref C :: bm) = true from hbm) rfl hno fun h₃ k₃ dx keep₃ dn dne hx₃ hn₃ => ?_
  have big : s.heap.objs.size ≤ dx := by
    obtain ⟨_, _, _, e, _⟩ := F₂.ns
    exact Nat.le_trans (Nat.le_of_lt (Heap.lt_size e)) dn
  obtain ⟨un, hok⟩ := exc_fills (P := P) (w := w) (fs₀ := frs outer) (fs := [(x, y)]) e0.hok ha big (fun b o n e => keep₃ b o n (F₂.keep b o (hideAll_get _ e fun z => n (List.mem_singleton.mp z)))) hx₃ hn₃ (relO_put (fs := []) ry fun _ => True.intro)
  exact wpAny_execs_nil ⟨.non, _, rfl, e0.bare, un, hok, rfl, fin dx (e0.hok.fresh big) dne⟩
end
/-- an attribute of a kept exception -/
def tExf (C : Addr) (n : Str) (te : TE) : TE := fun σ H Q => te σ H fun x H₁ => ∃ (a d : Addr) (fs : List (Str × V)) (v : V), x = .ref a ∧ H₁ a = some (ExV (.ref C) (some d) a) ∧ H₁ d = some (.xd fs) ∧ fs.lookup n = some v ∧ Q v H₁
theorem pe_exf {X : Cx} {C : Addr} {e : Expr} {te : TE} {pos : Pos} {n : Str} (T : XfC X.K C) (hno : findIn X.K (.ref C) n = some none) (he : PE X e te) (hb : attributeBase e n X.env (eval e X.env) = eval e X.env := by rfl) : PE X (.Attribute e n pos) (tExf C n te) where
  run pins s σ H Q I h := by
    apply attr_of hb
    apply thn (he.run pins s σ H _ I h)
    rintro u s₁ ⟨_, H₁, I₁, rx, a, d, fs, v, rfl, ea, ed, l, q⟩
    obtain rfl : u = .ref a := rx
    have tracked : ObjOk X.prog X.w H₁ s₁.heap d (.xd fs) := I₁.hok d _ ed
    obtain ⟨mA, ns, rel⟩ := tracked
    obtain ⟨od, there, look⟩ := lookIn_ns ns
    have rn := rel n
    rw [l] at rn
    obtain ⟨u, hu, ru⟩ := RelO.some_of rn
    obtain ⟨⟨oe, vs, he', hz, hd⟩, _⟩ := I₁.hok a _ ea
    have J : InstAt s₁.heap a oe C (some od) := ⟨he', hz.1, by unfold notCls; rw [hd] <;> rfl, hz.2.symm ▸ there⟩
    exact HandSPX.exc_get I₁.kIn J T.ga T.gg T.exC (findObj_own T.hdC hno rfl ((look n).trans (congrArg some hu))) (handed_of ru) ⟨v, H₁, I₁.tok _, ru, q⟩
end L3
set_option maxRecDepth 100000
set_option maxHeartbeats 4000000
/-! repr of data; methods by keywords; list.count of bools -/
namespace L3
open PySem PySem.Spec PyProof.Rows L2
/-- a dict of ints -/
def dInt (ps : List (Int × Int)) : List (Key × V) := ps.map fun p => (Sum.inl p.1, V.int p.2)
/-- a value and the data that it is -/
inductive ThV (H : Hp) : V → PyData → Prop where
  | non : ThV H .non .none
  | bl (b : Bool) : ThV H (.bl b) (.bool b)
  | int (i : Int) : ThV H (.int i) (.int i)
  | str (x : Str) : ThV H (.str x) (.str x)
  | lst {a : Addr} {ns : List Int} (e : H a = some (.lst (ns.map V.int))) : ThV H (.ref a) (.list (ns.map .int))
  | tup {a : Addr} {ns : List Int} (e : H a = some (.tup (ns.map V.int))) : ThV H (.ref a) (.tuple (ns.map .int))
  | dct {a : Addr} {ps : List (Int × Int)} (e : H a = some (.dK (dInt ps))) : ThV H (.ref a) (.dict (ps.map fun p => (.int p.1, .int p.2)))
theorem ThV.mono {H H' : Hp} {v : V} {d : PyData} (h : ThV H v d) (k : ∀ a o, v = .ref a → H a = some o → (∀ ps, o ≠ .tbl ps) → H' a = some o) : ThV H' v d := by
  cases h with
  | non => exact .non
  | bl b => exact .bl b
  | int i => exact .int i
  | str x => exact .str x
  | lst e => exact .lst (k _ _ rfl e fun ps z => nomatch z)
  | tup e => exact .tup (k _ _ rfl e fun ps z => nomatch z)
  | dct e => exact .dct (k _ _ rfl e fun ps z => nomatch z)
/-- what can be shown -/
def Fits (d : PyData) : Prop := d.showable = true ∧ d.shown.length ≤ 10000 ∧ ∀ i, d = .int i → i.natAbs < 2 ^ 80
def rRepr : List V → Hp → VK → Prop := fun xs H Q => ∃ v d, xs = [v] ∧ ThV H v d ∧ Fits d ∧ Q (.str d.shown) H
theorem reads_ints {h : Heap} : ∀ {ns : List Int} {us : List Value}, Vals (ns.map V.int) us → ReadsAll h us (ns.map .int) []
  | [], _, r => by cases r; exact .nil
  | n :: ns, _, r => by
    cases r with
    | cons r₁ r₂ =>
      obtain ⟨t, rfl⟩ := r₁
      exact .cons (.int n t) (reads_ints r₂)
theorem pairs_read {prog : Program} {w : World} {h : Heap} : ∀ {ps : List (Int × Int)} {vs : List (Key × Value)} {es : List DictEntry}, KV (dInt ps) vs → Pairs (mixKind prog w) es vs → ReadsAll h (es.map (·.key)) (ps.map fun p => .int p.1) [] ∧ ReadsAll h (es.map (·.val)) (ps.map fun p => .int p.2) []
  | [], _, _, r, p => by
    cases r
    cases p
    exact ⟨.nil, .nil⟩
  | (i, j) :: ps, _, _, r, p => by
    cases r with
    | cons r₁ r₂ =>
      cases p with
      | cons k e p' =>
        obtain ⟨e1, t, e2⟩ := r₁
        obtain ⟨a, b⟩ := pairs_read r₂ p'
        rw [← e1] at k
        rcases keyIs_shape (k := Sum.inl i) k with ⟨i', t', z, ek⟩ | ⟨x, t', z, _⟩
        · obtain rfl := Sum.inl.inj z
          exact ⟨by rw [List.map_cons, ek]; exact .cons (.int i t') a, by rw [List.map_cons, e, e2]; exact .cons (.int j t) b⟩
        · exact nomatch z
/-- objects were made, none of them tracked -/
theorem grown {X : Cx} {pins : List (Addr × Obj)} {σ : L2.St} {H : Hp} {s : Shared} {h' : Heap} {t' : Nat} (I : Inv X pins σ H s) (k : ∀ b o, s.heap.get? b = some o → h'.get? b = some o) : Inv X pins σ H { s with heap := h', toks := t' } :=
  I.un ⟨fun b o e _ _ _ => k b o e, fun b o e _ _ _ => ⟨o.slots, k b o e⟩, fun _ _ _ n _ => n, fun b o e _ => ⟨o, k b o e⟩, fun _ _ e => e, fun _ _ _ e => e, fun b ps e => ⟨#[], by rw [e]; simp⟩⟩
    fun b o e => (I.hok b o e).stay (fun c v _ q => k c v q) (fun _ q => q) fun _ _ q => q
theorem depth_ints : ∀ ns : List Int, PyData.depthAll (ns.map .int) ≤ 1
  | [] => by decide
  | n :: ns => by
    have ih := depth_ints ns
    simp only [List.map_cons, PyData.depthAll, PyData.depth]
    omega
theorem depth_pairs : ∀ ps : List (Int × Int), PyData.depthKv (ps.map fun p => (.int p.1, .int p.2)) ≤ 1
  | [] => by decide
  | p :: ps => by
    have ih := depth_pairs ps
    simp only [List.map_cons, PyData.depthKv, PyData.depth]
    omega
theorem noDict : ∀ ns : List Int, PyData.hasDictAll (ns.map .int) = false
  | [] => rfl
  | n :: ns => by
    simp only [List.map_cons, PyData.hasDictAll, PyData.hasDict]
    rw [noDict ns]
    rfl
section
variable {X : Cx} {k : Nat}
theorem call_repr (gd : X.A.guards = some []) (hr : Room k X.A) : CallR X (.builtin "repr") rRepr := by
  rintro pins s σ H xs us Q I r ⟨v, d, rfl, t, ⟨h1, h3, _⟩, q⟩
  obtain ⟨u, rfl, ru⟩ := vals1 r
  have h2 : d.shown.length ≤ sizeLine := by rw [sizeLine_eq]; omega
  have room := hr.un
  have shown : ∀ {a : Addr} {as : List Addr}, u = .ref a → Reads s.heap u d as → (d.hasDict = true → sysModules ∉ as) → d.depth ≤ 9 → wpAny (model X.prog X.w) X.A (call (.builtin "repr") [u]) (EP X pins σ Q) X.xe s := by
    rintro a as rfl rd hs hd
    exact repr_of_reads' rd h1 hs gd (by omega) (fun _ _ e => e) (fun h' u' tk keep => ⟨.str d.shown, H, grown I keep, ⟨_, rfl⟩, q⟩) h2
  cases t with
  | non => cases ru; exact P.repr_of_none ⟨.str _, H, I.tok _, ⟨_, rfl⟩, q⟩
  | bl b => cases ru; exact P.repr_of_bool ⟨.str _, H, I.tok _, ⟨_, rfl⟩, q⟩
  | int i => obtain ⟨_, rfl⟩ := ru; exact P.repr_of_int (by simpa [PyData.showable] using h1) ⟨.str _, H, I.tok _, ⟨_, rfl⟩, q⟩
  | str x => obtain ⟨_, rfl⟩ := ru; exact P.repr_of_str ⟨.str _, H, I.tok _, ⟨_, rfl⟩, q⟩ h2
  | @lst a ns e =>
    obtain rfl : u = .ref a := ru
    obtain ⟨its, rv, ⟨o, n, ho, hc, _, hd⟩, _⟩ := I.list (SqL.of e)
    have dp := depth_ints ns
    exact shown rfl (.list ho hc hd (by simpa using reads_ints rv)) (fun z => absurd z (by simp only [PyData.hasDict]; rw [noDict ns]; decide)) (by simp only [PyData.depth]; omega)
  | @tup a ns e =>
    obtain rfl : u = .ref a := ru
    obtain ⟨its, rv, ⟨o, ho, hc, n, hd⟩, _⟩ := I.tuple (SqT.of e)
    have dp := depth_ints ns
    exact shown rfl (.tuple ho hc hd (by simpa using reads_ints rv)) (fun z => absurd z (by simp only [PyData.hasDict]; rw [noDict ns]; decide)) (by simp only [PyData.depth]; omega)
  | @dct a ps e =>
    obtain rfl : u = .ref a := ru
    have z : ObjOk X.prog X.w H s.heap a (.dK (dInt ps)) := I.hok a _ e
    obtain ⟨_, ns, vs, kv, o, es, n, ho, ⟨hc, _⟩, hd, _, pr, _⟩ := z
    obtain ⟨r1, r2⟩ := pairs_read kv pr
    have rd := Reads.dict (kvs := ps.map fun p => (.int p.1, .int p.2)) ho hc hd (by rw [List.map_map]; exact r1) (by rw [List.map_map]; exact r2)
    exact shown rfl rd (fun _ m => by simp at m; rw [m] at ns; simp at ns) (by have dp := depth_pairs ps; simp only [PyData.depth]; omega)
end
/-! ### methods called by keywords -/
def tMethK (C : Addr) (m : Str) (n q : Nat) (sp : Sp) (gV : List V → List V → List V) (E : XK) (ta : TE) (t tk : TA) : TE := fun σ H Q => ta σ H fun x H₁ => ∃ (a dx : Addr) (fs : List (Str × V)), x = .ref a ∧ H₁ a = some (.ins C dx fs) ∧ fs.lookup m = none ∧
  t σ H₁ fun vs H₂ => tk σ H₂ fun zs H₃ => vs.length = n ∧ zs.length = q ∧ sp (gV (.ref a :: vs) zs) H₃ Q E
section
variable {X : Cx} {CX : CXT} {k n : Nat} {C f : Addr} {fd : FuncData} {ps ks : List Str} {sp : Sp} {E : XK} {m : Str} {apos pos : Pos} {o e : Expr} {es : List Expr} {kws : List Keyword} {ta : TE} {t tk : TA} {g : List Value → List Value → List Value} {gV : List V → List V → List V} {pl : Sem Bool}
/-- o.m(k = v, ..) -/
theorem pe_methK0 (he : PE X o ta) (c : Cls X.K C) (hm : Meth X.K C m f) (F : FnOk X.prog X.w X.K X.mg X.base CX k f fd ps sp) (hr : Room k X.A) (hb : KBn X.K fd ps 1 ks g gV) (hx : Passes CX X E) (hkw : PK X kws tk)
    (hall : (backToKw pos (keywordEach kws X.env)).all (·.1.isSome) = true := by rfl) (hks : (backToKw pos (keywordEach kws X.env)).filterMap (·.1) = ks := by rfl)
    (hpl : ((backTo pos (starEach [] X.env)).any (·.1) || (backToKw pos (keywordEach kws X.env)).any (·.1.isNone)) = false := by rfl)
    (ht : eval (.Call (.Attribute o m apos) [] kws pos) X.env = (do
      let ov ← eval o X.env
      standAt apos.atName
      let (f, first) ← holding [ov] (getMethod ov m pl)
      callWith pos f first (backTo pos (starEach [] X.env)) (backToKw pos (keywordEach kws X.env))) := by rfl) :
    PE X (.Call (.Attribute o m apos) [] kws pos) (tMethK C m 0 ks.length sp gV E ta tNil tk) where
  run pins s σ H Q I h := by
    refine PySem.W.methodCall_KW (pl := pl) (thn (he.run pins s σ H _ I h) ?_) ht
    rintro u s₁ ⟨_, H₁, I₁, rx, a, dx, fs, rfl, ea, l, q⟩
    obtain rfl : u = .ref a := rx
    apply getmeth_ok I₁ ea c hm l
    refine PySem.W.callWith_KW0 (first := [.ref a]) (h₀ := X.base) I₁.ok.mod.kin hm.kp hall (thn (hkw.run pos pins s₁ σ H₁ _ I₁ q) ?_) hpl
    rintro ws s₂ ⟨zs, H₂, I₂, rz, _, l2, q₂⟩
    rw [hks]
    exact ⟨I₂.kIn, run_fnN (vs := [.ref a]) F hr hb hx I₂ (.cons rfl .nil) rz rfl l2 q₂⟩
/-- o.m(e, .., k = v, ..) -/
theorem pe_methKN (he : PE X o ta) (c : Cls X.K C) (hm : Meth X.K C m f) (F : FnOk X.prog X.w X.K X.mg X.base CX k f fd ps sp) (hr : Room k X.A) (hb : KBn X.K fd ps (n + 1) ks g gV) (hx : Passes CX X E) (ha : PA X (e :: es) t) (hkw : PK X kws tk)
    (hall : (backToKw pos (keywordEach kws X.env)).all (·.1.isSome) = true := by rfl) (hks : (backToKw pos (keywordEach kws X.env)).filterMap (·.1) = ks := by rfl)
    (hst : starEach (e :: es) X.env = (false, eval e X.env) :: starEach es X.env := by rfl) (hpl : ((backTo pos (starEach (e :: es) X.env)).any (·.1) || (backToKw pos (keywordEach kws X.env)).any (·.1.isNone)) = false := by rfl)
    (ht : eval (.Call (.Attribute o m apos) (e :: es) kws pos) X.env = (do
      let ov ← eval o X.env
      standAt apos.atName
      let (f, first) ← holding [ov] (getMethod ov m pl)
      callWith pos f first (backTo pos (starEach (e :: es) X.env)) (backToKw pos (keywordEach kws X.env))) := by rfl) :
    PE X (.Call (.Attribute o m apos) (e :: es) kws pos) (tMethK C m n ks.length sp gV E ta t tk) where
  run pins s σ H Q I h := by
    refine PySem.W.methodCall_KW (pl := pl) (thn (he.run pins s σ H _ I h) ?_) ht
    rintro u s₁ ⟨_, H₁, I₁, rx, a, dx, fs, rfl, ea, l, q⟩
    obtain rfl : u = .ref a := rx
    apply getmeth_ok I₁ ea c hm l
    refine PySem.W.callWith_KW (first := [.ref a]) (h₀ := X.base) I₁.ok.mod.kin hm.kp hall (thn (ha.run pos pins s₁ σ H₁ _ I₁ q) ?_) hpl hst
    rintro us s₂ ⟨vs, H₂, I₂, r, q₂⟩
    refine thn (hkw.run pos pins s₂ σ H₂ _ I₂ q₂) ?_
    rintro ws s₃ ⟨zs, H₃, I₃, rz, l1, l2, q₃⟩
    rw [hks]
    exact ⟨I₃.kIn, run_fnN (us := .ref a :: us) (vs := .ref a :: vs) F hr hb hx I₃ (.cons rfl r) rz (congrArg (· + 1) l1) l2 q₃⟩
end
/-! ### list.count of bools -/
def isBv (b : Bool) : Value → Bool | .bool c => c == b | _ => false
def rCntB (K : PySem.W.Frag) : V → List V → Hp → VK → Prop := fun x xs H Q => ∃ (p : Addr) (bs : List Bool) (b : Bool), x = .ref p ∧ xs = [.bl b] ∧ SqL K H p (bs.map V.bl) ∧ Q (.int (bs.count b : Nat)) H
theorem vals_bools : ∀ {bs : List Bool} {us : List Value}, Vals (bs.map V.bl) us → us = bs.map Value.bool
  | [], _, r => by cases r; rfl
  | b :: bs, _, r => by
    cases r with
    | cons r₁ r₂ =>
      cases r₁
      rw [vals_bools r₂]
      rfl
theorem count_bools (b : Bool) : ∀ bs : List Bool, (bs.map Value.bool).countP (isBv b) = bs.count b
  | [] => rfl
  | c :: bs => by
    rw [List.map_cons, List.countP_cons, List.count_cons, count_bools b bs]
    rfl
theorem mt_countB {X : Cx} : MtR X "list.count" (rCntB X.K) := by
  rintro pins s σ H x xs v us Q I rx rxs ⟨p, bs, b, rfl, rfl, hs, q⟩
  obtain rfl : v = .ref p := rx
  obtain ⟨u, rfl, ru⟩ := rxs.one
  cases ru
  obtain ⟨its, rv, ⟨⟨cls, dd, data, sl⟩, n, ho, hc, hdn, hd⟩, _⟩ := I.list hs
  dsimp only at hc hd
  subst hc hd
  obtain rfl := vals_bools rv
  refine call_meets PySem.F.slot_list_count ⟨_, ho, rfl⟩ PySem.F.entry_list_count (PySem.F.args_list_count_2 _ _) (SeqAt.list_countAt p (bs.map Value.bool).toArray n dd sl (.bool b) (isBv b)) ⟨ho, fun y hy => ?_, ?_⟩
  · obtain ⟨c, _, rfl⟩ := List.mem_map.mp (List.mem_toArray.mp hy)
    have z := eqAt_V (A := X.A.in1) (s := s) (x := .bl b) (y := .bl c) rfl rfl rfl rfl
    exact z
  · refine ⟨.int (bs.count b : Nat), H, I.tok _, ⟨s.toks, ?_⟩, q⟩
    rw [← count_bools b bs]
end L3
set_option maxRecDepth 100000
set_option maxHeartbeats 4000000
/-! != of two lists whose items are equal by their own == -/
namespace L3
open PySem PySem.Spec PySem.SeqAt PyProof.Rows L2
open AutoSeq1 (wpAny_loadPart')
open MeetsSeq MeetsSeq2 MeetsSeq3 SeqRoads2
section
variable {prog : Program} {w : World} {A : Around} {R : Result → Shared → Prop} {l b : Addr} {N : Nat} {I : Nat → Shared → Prop}
theorem ne_turns (hl : GQ.ListI prog w A (fun e s' => R (.error e) s') l b N I) (fin : ∀ s, I N s → R (.ok (.ret (.bool false))) s) : ∀ (left i : Nat), i + left = N → ∀ s, I i s →
    wpAny (model prog w) A.in1 (Builtin.«list.__eq__.loop» ⟨[.ref l, .ref b, rawInt i, rawInt 3], []⟩) (GQ.FinOf prog w A R) (fun e s' => R (.error e) s') s
  | 0, i, e, s, h => by
    obtain rfl : i = N := e
    obtain ⟨xs, ys, _, _, ex, ey, zx, zy, _⟩ := hl _ _ h
    have done := fin s h
    obtain ⟨hp, g, d, tk, os⟩ := s
    wp_walk using wpAny_loadPart' ex, wpAny_loadPart' ey
    rw [show xs[((i : Nat) : Int).toNat]? = none from by simp [zx], show ys[((i : Nat) : Int).toNat]? = none from by simp [zy]]
    wp_walk using wpAny_loadPart' ex, wpAny_loadPart' ey
    show R (.ok (.ret (.bool (xs.size != ys.size)))) _
    simpa [zx, zy] using done
  | left + 1, i, e, s, h => by
    obtain ⟨xs, ys, _, _, ex, ey, zx, zy, turn⟩ := hl _ _ h
    have ix : i < xs.size := by omega
    have iy : i < ys.size := by omega
    have step := turn ix iy
    obtain ⟨hp, g, d, tk, os⟩ := s
    wp_walk using wpAny_loadPart' ex, wpAny_loadPart' ey
    rw [show xs[((i : Nat) : Int).toNat]? = some xs[i] from by simp [ix], show ys[((i : Nat) : Int).toNat]? = some ys[i] from by simp [iy]]
    refine wpAny_bind (wpAny_mono step ?_ fun _ _ x => x)
    rintro r s₂ ⟨rfl, h₂⟩
    have rest := ne_turns hl fin left (i + 1) (by omega) s₂ h₂
    obtain ⟨hp2, g2, d2, tk2, os2⟩ := s₂
    wp_walk
    rw [show ((i : Int) + 1) = ((i + 1 : Nat) : Int) from by omega]
    exact ⟨plainId_quiet plain_eq_loop _, codeAny_builtin entry_eq_loop (by rw [Around.under_plainId plain_eq_loop _]; exact rest)⟩
theorem ne_lists (hl : GQ.ListI prog w A (fun e s' => R (.error e) s') l b N I) (fin : ∀ s, I N s → R (.ok (.ret (.bool false))) s) {s : Shared} (h : I 0 s) :
    wpAny (model prog w) A.in1 (Builtin.«list.__ne__» ⟨[.ref l, .ref b], []⟩) (GQ.FinOf prog w A R) (fun e s' => R (.error e) s') s := by
  obtain ⟨xs, ys, _, _, ex, ey, zx, zy, _⟩ := hl _ _ h
  have all := ne_turns hl fin N 0 (Nat.zero_add N) s h
  obtain ⟨hp, g, d, tk, os⟩ := s
  have sub := AutoSeq1.sub_list_list
  have same : ¬ (xs.size != ys.size) = true := by simp [zx, zy]
  wp_walk using wpAny_loadPart' ex, wpAny_loadPart' ey
  exact ⟨plainId_quiet plain_eq_loop _, codeAny_builtin entry_eq_loop (by rw [Around.under_plainId plain_eq_loop _]; exact all)⟩
end
section
variable {X : Cx} {n : Nat} {D : Eqv}
def rNeList (D : Eqv) : R2 := fun x y H Q => DList D x y H ∧ ∀ H', Ext H H' → Q (.bl false) H'
theorem op_neList (hD : Mon D) (h : EqG X n D) (hr : Room (n + 2) X.A) : OpR X (compareOp .NotEq) (rNeList D) := by
  rintro pins s σ H x y u v Q I rx ry ⟨⟨a, b, xs, ys, rfl, rfl, ha, hb, p⟩, q⟩
  cases rx
  cases ry
  have sb : Sub X (n + 1) X.A := ⟨hr.mono (by omega), rfl⟩
  show wpAny (model X.prog X.w) X.A (richCompare .NotEq (.ref a) (.ref b)) (EP X pins σ Q) X.xe s
  obtain ⟨_, _, _, _, ea⟩ := I.hok a _ ha
  obtain ⟨_, _, _, _, eb⟩ := I.hok b _ hb
  refine wpAny_richCompare_same_room (op := .NotEq) ⟨_, ea, rfl⟩ ⟨_, eb, rfl⟩ PySem.F.slot_list_ne (GQ.call_here PySem.F.slot_list_ne ⟨_, ea, rfl⟩ PySem.F.entry_list_ne (PySem.F.args_list_ne_2 _ _) ?_) hr.units0
  refine ne_lists (N := xs.length) (I := fun _ s' => LoopI X pins σ H s') (fun i s' hI => ?_) (fun s' hI => ?_) ⟨H, I, Ext.rfl'⟩
  · obtain ⟨H₁, I₁, e₁⟩ := id hI
    obtain ⟨_, its, k, r, e⟩ := I₁.hok a _ (e₁ _ _ ha)
    obtain ⟨_, its2, k2, r2, e2⟩ := I₁.hok b _ (e₁ _ _ hb)
    exact ⟨its.toArray, its2.toArray, k, k2, e, e2, by rw [List.size_toArray, ← r.length], by rw [List.size_toArray, ← r2.length, ← p.1], fun h1 h2 => turnG hD h sb p r r2 i h1 h2 s' hI⟩
  · obtain ⟨H₁, I₁, e₁⟩ := hI
    exact ⟨(fun z => nomatch z), .bl false, H₁, I₁, rfl, q H₁ e₁⟩
end
/-- the exception as it stands behind such an __init__ -/
theorem mk_sup {C : Addr} {x : Str} {y : V} {H : Hp} {Q : XK} {E : XK} (h : ∀ d, H d = none → Q (.ref C) (some d) (upd H d (.xd [(x, y)]))) : ∀ a, H a = none → spSup C x [.ref a, y] (upd H a (exo a C none))
    (fun v H₂ => v = .non ∧ ∃ (d : Addr) (fs : List (Str × V)), H₂ a = some (exo a C (some d)) ∧ H₂ d = some (exd d fs) ∧ H d = none ∧ Q (.ref C) (some d) (upd (L2.del H₂ a) d (.xd fs))) E := fun a na => by
  refine ⟨a, y, rfl, upd_same, fun d nd da => ⟨rfl, d, [(x, y)], upd_same, by rw [upd_ne da, upd_same], ?_, ?_⟩⟩
  · rw [upd_ne da] at nd
    exact nd
  · rw [upd_ne da] at nd
    have e : upd (L2.del (upd (upd (upd H a (exo a C none)) d (exd d [(x, y)])) a (exo a C (some d))) a) d (.xd [(x, y)]) = upd H d (.xd [(x, y)]) := by
      funext b
      by_cases z : b = d
      · rw [z, upd_same, upd_same]
      · rw [upd_ne z, upd_ne z]
        by_cases z' : b = a
        · rw [z', L2.del_same, na]
        · rw [L2.del_ne z', upd_ne z', upd_ne z, upd_ne z']
    rw [e]
    exact h d nd
end L3
set_option maxRecDepth 100000
set_option maxHeartbeats 4000000
/-! the draws -/
namespace Bm
open PySem L2
def top (i : Nat) : Stmt := PySem.Challenge.pw_backmaps_k02_areas_cut_joined_and_moved.main.body.getD i (.Pass ⟨0, 0, 0, 0⟩)
abbrev sState : Stmt := top 13
abbrev sDraw : Stmt := top 14
abbrev sPick : Stmt := top 15

/-- the state of the draws stands at d, its stock at st -/
def Dr (d st : Addr) (H : Hp) : Prop := ∃ (ms : List Int) (sp mx : Int), H d = some (.lst [.ref st, .int sp, .int mx]) ∧ H st = some (.lst (ms.map V.int)) ∧ 0 < ms.length ∧ ms.length ≤ 63 ∧ 0 ≤ mx ∧ mx < 2147483647
/-- all but the state of the draws is kept -/
def Kp (d st : Addr) (H H' : Hp) : Prop := ∀ b o, H b = some o → b ≠ d → b ≠ st → H' b = some o
theorem Kp.refl {d st : Addr} {H : Hp} : Kp d st H H := fun _ _ h _ _ => h
theorem Kp.trans {d st : Addr} {H H1 H2 : Hp} (a : Kp d st H H1) (b : Kp d st H1 H2) : Kp d st H H2 := fun c o h n1 n2 => b c o (a c o h n1 n2) n1 n2

def spState (K : PySem.W.Frag) : Sp := fun vs H Q _ => ∃ (a : Addr) (ns : List Int), vs = [.ref a] ∧ SqL K H a (ns.map V.int) ∧ ns.length ≤ 63 ∧
  ∀ (d st : Addr) (H' : Hp), Same H H' → H d = none → H st = none → Dr d st H' → Q (.ref d) H'
def spDraw : Sp := fun vs H Q _ => ∃ (d st : Addr) (b : Int), vs = [.ref d, .int b] ∧ Dr d st H ∧ 0 < b ∧ b < 1073741824 ∧
  ∀ (r : Int) (H' : Hp), 0 ≤ r → r < b → Dr d st H' → Kp d st H H' → Q (.int r) H'
structure TB (mg : Str → Option Value) : Prop where
  int_ : mg "int" = none
  len_ : mg "len" = none
  abs_ : mg "abs" = none
section
variable {P : Program} {w : World} {K : PySem.W.Frag} {mg : Str → Option Value} {base : Heap}
theorem scDraw : FnScope ["_law_draw_here", "_law_below", "_law_stock", "_law_spot", "_law_lump"] ["_law_draw_here", "_law_below"] (defScope sDraw) := ⟨rfl, rfl, rfl, by decide +kernel, rfl, by decide +kernel, by decide +kernel⟩
theorem ok_draw {f : Addr} {fd : FuncData} (F : Fun K "_law_draw" "_law_draw" sDraw f fd) (T : TB mg) : FnOk P w K mg base CX0 1 f fd ["_law_draw_here", "_law_below"] spDraw := by
  refine F.ok scDraw (fun vs H Q E h => ?_) (fun cdv A outer s H vs Q E hr h => ?_)
  · obtain ⟨d, st, b, rfl, _⟩ := h
    rfl
  · obtain ⟨d, st, b, rfl, ⟨ms, sp, mx, hd, hs, hp, hl, hm0, hm1⟩, hb0, hb1, k⟩ := h
    have nds : d ≠ st := ne_of hd hs (by
      intro z
      have z1 := HO.lst.inj z
      cases ms with
      | nil => simp at z1
      | cons m r => simp at z1)
    refine ⟨_, pss_cons (ps_set (i := 2) scDraw.nd rfl (Or.inl rfl) (pe_ix ix_list (pv 0) pe_int (fun _ _ => rfl)))
      (pss_cons (ps_set (i := 3) scDraw.nd rfl (Or.inl rfl) (pe_op op_modN (pe_callTy call_int1 (by rfl) T.int_ (by decide +kernel) (pa_cons (pe_ix ix_list (pv 0) pe_int (fun _ _ => rfl)) pa_nil)) (pe_callB call_len_seq (by rfl) T.len_ PySem.boot_len (pa_cons (pv 2) pa_nil))))
      (pss_cons (ps_set (i := 4) scDraw.nd rfl (Or.inl rfl) (pe_ix ix_list (pv 2) (pv 3) (fun _ _ => rfl)))
      (pss_cons (ps_if (pt_cmpR op_ge (pv 4) (pe_op op_pow pe_int pe_int) (nomark _))
        (pss_cons (ps_asg (pe_op op_fdivN (pv 4) (pv 1)) (pg_sub (pv 2) (pv 3) set_list))
          (pss_one (ps_ret (pe_op op_modN (pe_callTy call_int1 (by rfl) T.int_ (by decide +kernel) (pa_cons (pv 4) pa_nil)) (pv 1))))) pss_nil)
      (pss_cons (ps_asg (pe_op op_add (pe_ix ix_list (pv 0) pe_int (fun _ _ => rfl)) pe_int) (pg_sub (pv 0) pe_int set_list))
      (pss_cons (ps_asg (pe_op op_modN (pe_callTy call_int1 (by rfl) T.int_ (by decide +kernel) (pa_cons (pe_op op_add (pe_op op_add (pe_op op_add (pe_op op_mul (pe_ix ix_list (pv 0) pe_int (fun _ _ => rfl)) pe_int) (pv 4)) (pe_op op_mul pe_int (pe_ix ix_list (pv 0) pe_int (fun _ _ => rfl)))) pe_int) pa_nil)) pe_int) (pg_sub (pv 0) pe_int set_list))
      (pss_one (ps_ret (pe_op op_modN (pe_callTy call_int1 (by rfl) T.int_ (by decide +kernel) (pa_cons (pe_op op_fdivN (pe_op op_modN (pe_callTy call_int1 (by rfl) T.int_ (by decide +kernel) (pa_cons (pe_op op_mul (pe_ix ix_list (pv 0) pe_int (fun _ _ => rfl)) (pe_ix ix_list (pv 0) pe_int (fun _ _ => rfl))) pa_nil)) pe_int) pe_int) pa_nil)) (pv 1))))))))), ?_⟩
    have hpz : ((ms.map V.int).length : Int) ≠ 0 := by rw [List.length_map]; omega
    -- stock = d[0]; spot = int(d[1]) % len(stock)
    refine ⟨_, rfl, _, _, _, _, rfl, rfl, SqL.of hd, rfl, ?_⟩
    refine ⟨_, rfl, _, _, _, _, rfl, rfl, SqL.of hd, rfl, Or.inl ⟨_, rfl, _, rfl, _, _, rfl, .inl (SqL.of hs), _, _, rfl, rfl, hpz, ?_⟩⟩
    -- lump = stock[spot]
    obtain ⟨j, hj, ej⟩ : ∃ j : Nat, j < ms.length ∧ sp.fmod ((ms.map V.int).length : Int) = (j : Int) := by
      rw [List.length_map]
      rw [Int.fmod_eq_emod_of_nonneg _ (by omega)]
      have h1 := Int.emod_nonneg sp (show ((ms.length : Int)) ≠ 0 by omega)
      have h2 := Int.emod_lt_of_pos sp (show (0 : Int) < (ms.length : Int) by omega)
      exact ⟨(sp % (ms.length : Int)).toNat, by omega, by omega⟩
    have hat : atI (ms.map V.int) (sp.fmod ((ms.map V.int).length : Int)) = some (V.int ms[j]) := by
      rw [ej]
      exact atI_nat (by rw [List.getElem?_map, List.getElem?_eq_getElem hj] <;> rfl)
    have hix : ixN (ms.map V.int).length (sp.fmod ((ms.map V.int).length : Int)) = some j := by
      rw [ej]
      unfold ixN
      rw [List.length_map, if_pos (by omega), if_pos (by omega)]
      simp
    refine ⟨_, rfl, _, rfl, _, _, _, _, rfl, rfl, SqL.of hs, hat, ?_⟩
    have hb2 : b.natAbs < 1073741824 := by omega
    -- if lump >= 10 ** 18
    refine ⟨_, rfl, _, _, rfl, rfl, ⟨by decide, by decide, by decide⟩, _, _, rfl, rfl, _, rfl, ?_⟩
    refine ite2 (fun _ => ?_) (fun _ => ?_)
    · refine ⟨_, rfl, _, rfl, _, _, rfl, rfl, ⟨by omega, hb2⟩, _, rfl, _, rfl, _, _, _, j, rfl, rfl, hs, hix, ?_⟩
      refine ⟨_, rfl, Or.inl ⟨_, rfl, _, rfl, _, _, rfl, rfl, by omega, ?_⟩⟩
      refine k _ _ ?_ ?_ ⟨ms.set j (ms[j].fdiv b), sp, mx, by rw [upd_ne nds]; exact hd, ?_, by rw [List.length_set]; exact hp, by rw [List.length_set]; exact hl, hm0, hm1⟩ fun c o e n1 n2 => ?_
      · rw [Int.fmod_eq_emod_of_nonneg _ (by omega)]
        exact Int.emod_nonneg _ (by omega)
      · rw [Int.fmod_eq_emod_of_nonneg _ (by omega)]
        exact Int.emod_lt_of_pos _ hb0
      · rw [upd_same, List.map_set]
      · rw [upd_ne n2]
        exact e
    · -- d[1] = d[1] + 1
      refine ⟨_, rfl, _, _, _, _, rfl, rfl, SqL.of hd, rfl, _, _, rfl, rfl, _, rfl, _, _, _, 1, rfl, rfl, hd, rfl, ?_⟩
      -- d[2] = int(d[2] * 48271 + lump + 7919 * d[1] + 12345) % 2147483647
      refine ⟨_, rfl, _, _, _, _, rfl, rfl, SqL.of upd_same, rfl, _, _, rfl, rfl, .inl ⟨by omega, by omega⟩, _, rfl, _, _, rfl, rfl, ?_⟩
      refine ⟨_, rfl, _, _, _, _, rfl, rfl, SqL.of upd_same, rfl, _, _, rfl, rfl, .inl ⟨by decide, by decide⟩, _, _, rfl, rfl, _, _, rfl, rfl, .inl ⟨_, rfl, _, _, rfl, rfl, (by show (2147483647 : Int) ≠ 0; decide), _, rfl, _, _, _, 2, rfl, rfl, upd_same, rfl, ?_⟩⟩
      -- int(int(d[2] * d[2]) % 2147483629 // 16) % below
      have hz0 := Int.emod_nonneg (mx * 48271 + ms[j] + 7919 * (sp + 1) + 12345) (show (2147483647 : Int) ≠ 0 by decide)
      have hz1 := Int.emod_lt_of_pos (mx * 48271 + ms[j] + 7919 * (sp + 1) + 12345) (show (0 : Int) < 2147483647 by decide)
      rw [← Int.fmod_eq_emod_of_nonneg _ (by decide)] at hz0 hz1
      refine ⟨_, rfl, _, _, _, _, rfl, rfl, SqL.of upd_same, rfl, _, rfl, _, _, _, _, rfl, rfl, SqL.of upd_same, rfl, _, _, rfl, rfl, .inl ⟨by show _ < _; omega, by show _ < _; omega⟩, .inl ⟨_, rfl, _, _, rfl, rfl, (by show (2147483629 : Int) ≠ 0; decide), _, _, rfl, rfl, ⟨by decide, by decide⟩, .inl ⟨_, rfl, _, rfl, _, _, rfl, rfl, by omega, ?_⟩⟩⟩
      refine k _ _ ?_ ?_ ⟨ms, sp + 1, _, upd_same, by rw [upd_ne nds.symm, upd_ne nds.symm]; exact hs, hp, hl, hz0, hz1⟩ fun c o e n1 n2 => ?_
      · rw [Int.fmod_eq_emod_of_nonneg _ (by omega)]
        exact Int.emod_nonneg _ (by omega)
      · rw [Int.fmod_eq_emod_of_nonneg _ (by omega)]
        exact Int.emod_lt_of_pos _ hb0
      · rw [upd_ne n1, upd_ne n1]
        exact e
end
end Bm
set_option maxRecDepth 100000
set_option maxHeartbeats 4000000
namespace Bm
open PySem L2
section
variable {P : Program} {w : World} {K : PySem.W.Frag} {mg : Str → Option Value} {base : Heap}
theorem scState : FnScope ["_law_script", "_law_lump"] ["_law_script"] (defScope sState) := ⟨rfl, rfl, rfl, by decide +kernel, rfl, by decide +kernel, by decide +kernel⟩
theorem ok_state {f : Addr} {fd : FuncData} (F : Fun K "_law_state" "_law_state" sState f fd) (T : TB mg) : FnOk P w K mg base CX0 1 f fd ["_law_script"] (spState K) := by
  refine F.ok scState (fun vs H Q E h => ?_) (fun cdv A outer s H vs Q E hr h => ?_)
  · obtain ⟨a, ns, rfl, _⟩ := h
    rfl
  · obtain ⟨a, ns, rfl, hS, hl, k⟩ := h
    refine ⟨_, pss_one (ps_ret (pe_lst (pa_cons (pe_orT
        (pe_lc (own := [("_law_lump", 1)]) (g := gName 1) (tt := tYes) rfl scState.nd (pi_list (pe_slice sl_list (pv 0) po_none (po_some pe_int))) (blkOk_by (own := [("_law_lump", 1)]) (N := ["_law_script", "_law_lump"]) (sc := defScope sState) (by decide +kernel))
          (fun _ _ _ _ _ => pg_name (i := 1) scState.nd rfl (Or.inl rfl)) (fun _ _ _ _ _ => pts_nil) (fun _ _ _ _ _ => pe_callB call_abs (by rfl) T.abs_ (by decide +kernel) (pa_cons (pv 1) pa_nil)))
        (pe_one (pe_lst (pa_cons pe_int pa_nil)))) (pa_cons pe_int (pa_cons pe_int pa_nil))))), ?_⟩
    have dr : ∀ (H1 : Hp) (D : Addr) (acc : List Int), Same H H1 → H D = none → H1 D = some (.lst (acc.map V.int)) → 0 < acc.length → acc.length ≤ 63 → ∀ l, H1 l = none → Q (.ref l) (upd H1 l (.lst [.ref D, .int 0, .int 1])) := fun H1 D acc s1 nD hD h0 h63 l nl => by
      refine k l D _ (fun b o e => ?_) (s1.free nl) nD ⟨acc, 0, 1, upd_same, ?_, h0, h63, by decide, by decide⟩
      · rw [upd_ne (ne_of_none (s1 b o e) nl)]
        exact s1 b o e
      · rw [upd_ne (ne_of_none hD nl)]
        exact hD
    refine ⟨_, rfl, _, rfl, _, _, rfl, hS, fun p np => ?_⟩
    have hcut : (cutV (ns.map V.int) none (some 63)).length ≤ 63 := Nat.le_trans (cutV_length _ _ _) (by rw [List.length_map]; exact hl)
    have hint : ∀ y ∈ cutV (ns.map V.int) none (some 63), ∃ n, y = V.int n := fun y hy => by
      unfold cutV at hy
      have h1 := List.mem_of_mem_drop (List.mem_of_mem_take hy)
      obtain ⟨n, _, e⟩ := List.mem_map.mp h1
      exact ⟨n, e.symm⟩
    generalize cutV (ns.map V.int) none (some 63) = xs at hcut hint ⊢
    have s0 : Same H (upd H p (.lst xs)) := fun b o e => by rw [upd_ne (ne_of_none e np)]; exact e
    refine ⟨p, rfl, ⟨_, SqL.of upd_same⟩, fun D nD => ?_⟩
    have nD0 : H D = none := s0.free nD
    have npD : p ≠ D := fun e => by rw [← e, upd_same] at nD; cases nD
    refine lc_list (K := K) (a := p) (xs := xs) (fun i H1 => Same H H1 ∧ H1 p = some (.lst xs) ∧ ∃ acc : List Int, acc.length = i ∧ H1 D = some (.lst (acc.map V.int))) ⟨fun b o e => ?_, ?_, [], rfl, upd_same⟩ (fun i H1 _ h => SqL.of h.2.1) ?_ ?_
    · rw [upd_ne (ne_of_none (s0 b o e) nD)]
      exact s0 b o e
    · rw [upd_ne npD, upd_same]
    · rintro i y H1 hi ⟨s1, h1, acc, ha, hD⟩
      obtain ⟨n, rfl⟩ := hint y (List.mem_of_getElem? hi)
      have hil : i < xs.length := (List.getElem?_eq_some_iff.mp hi).1
      refine ⟨rfl, ?_⟩
      refine ⟨_, rfl, n, rfl, _, hD, ?_, fun b o e => ?_, ?_, acc ++ [if n < 0 then -n else n], ?_, ?_⟩
      · rw [List.length_map]
        exact small1000 (by omega)
      · rw [upd_ne (ne_of_none e nD0)]
        exact s1 b o e
      · rw [upd_ne npD]
        exact h1
      · rw [List.length_append, ha]
        rfl
      · rw [upd_same, List.map_append]
        rfl
    · rintro H1 ⟨s1, h1, acc, ha, hD⟩
      refine ⟨_, .inl ⟨_, SqL.of hD, rfl⟩, ?_⟩
      cases acc with
      | nil =>
        refine iteF ?_
        refine ⟨by show 1 ≤ sizeLine; decide, fun q hq => ?_⟩
        have s2 : Same H (upd H1 q (.lst [V.int 7])) := fun b o e => by
          rw [upd_ne (ne_of_none (s1 b o e) hq)]
          exact s1 b o e
        exact ⟨by show 3 ≤ sizeLine; decide, dr _ q [7] s2 (s1.free hq) upd_same (by decide) (by decide)⟩
      | cons m r =>
        refine iteT ?_
        exact ⟨by show 3 ≤ sizeLine; decide, dr _ D (m :: r) s1 nD0 hD (by simp) (by rw [ha]; exact hcut)⟩
end
end Bm
set_option maxRecDepth 100000
set_option maxHeartbeats 4000000
namespace Bm
open PySem L2
abbrev sIsInt : Stmt := top 7
abbrev sIsPlace : Stmt := top 8
abbrev sIsStretch : Stmt := top 9
abbrev sNeed : Stmt := top 10
/-- a value of the kinds that the laws hand over -/
inductive AnyV (H : Hp) : V → Prop where
  | non : AnyV H .non
  | bl (b : Bool) : AnyV H (.bl b)
  | int (i : Int) : AnyV H (.int i)
  | str (x : Str) : AnyV H (.str x)
  | lst {a : Addr} {xs : List V} (e : H a = some (.lst xs)) : AnyV H (.ref a)
  | tup {a : Addr} {xs : List V} (e : H a = some (.tup xs)) : AnyV H (.ref a)
  | dK {a : Addr} {kvs : List (Key × V)} (e : H a = some (.dK kvs)) : AnyV H (.ref a)
def isI : V → Bool | .int _ => true | _ => false
def isB : V → Bool | .bl _ => true | _ => false
theorem AnyV.mono {H H' : Hp} {v : V} (h : AnyV H v) (k : ∀ a o, v = .ref a → H a = some o → (∀ ps, o ≠ .tbl ps) → H' a = some o) : AnyV H' v := by
  cases h with
  | non => exact .non
  | bl b => exact .bl b
  | int i => exact .int i
  | str x => exact .str x
  | lst e => exact .lst (k _ _ rfl e fun ps z => by cases z)
  | tup e => exact .tup (k _ _ rfl e fun ps z => by cases z)
  | dK e => exact .dK (k _ _ rfl e fun ps z => by cases z)
theorem AnyV.ty {K : PySem.W.Frag} {H : Hp} {v : V} (h : AnyV H v) : ∃ t : String, TyX K H v (.type t) ∧ PySem.W.kitOne K (.type t) (.type "int") = some (isI v || isB v) ∧ PySem.W.kitOne K (.type t) (.type "bool") = some (isB v) := by
  cases h with
  | non => exact ⟨_, .base .non, kit_ty (by decide +kernel), kit_ty (by decide +kernel)⟩
  | bl b => exact ⟨_, .base (.bl b), kit_ty (by show kitB "bool" "int" = some true; decide +kernel), kit_ty (by show kitB "bool" "bool" = some true; decide +kernel)⟩
  | int i => exact ⟨_, .base (.int i), kit_ty (by show kitB "int" "int" = some true; decide +kernel), kit_ty (by show kitB "int" "bool" = some false; decide +kernel)⟩
  | str x => exact ⟨_, .base (.str x), kit_ty (by show kitB "str" "int" = some false; decide +kernel), kit_ty (by show kitB "str" "bool" = some false; decide +kernel)⟩
  | lst e => exact ⟨_, .base (.lst e), kit_ty (by show kitB "list" "int" = some false; decide +kernel), kit_ty (by show kitB "list" "bool" = some false; decide +kernel)⟩
  | tup e => exact ⟨_, .base (.tup e), kit_ty (by show kitB "tuple" "int" = some false; decide +kernel), kit_ty (by show kitB "tuple" "bool" = some false; decide +kernel)⟩
  | dK e => exact ⟨_, .base (.dK e), kit_ty (by show kitB "dict" "int" = some false; decide +kernel), kit_ty (by show kitB "dict" "bool" = some false; decide +kernel)⟩
/-- isinstance(value, int) and not isinstance(value, bool) -/
def spIsInt : Sp := fun vs H Q _ => ∃ v, vs = [v] ∧ AnyV H v ∧ Q (.bl (isI v)) H
def isP : V → Bool | .int i => decide (0 ≤ i) && decide (i < 10000) | _ => false
def spIsPlace : Sp := fun vs H Q _ => ∃ v, vs = [v] ∧ AnyV H v ∧ Q (.bl (isP v)) H
def isS : V → V → Bool | .int b, .int m => decide (0 ≤ b) && decide (b < 10000) && decide (1 ≤ m) && decide (b + m ≤ 10000) | _, _ => false
def spIsStretch : Sp := fun vs H Q _ => ∃ b m, vs = [b, m] ∧ AnyV H b ∧ AnyV H m ∧ Q (.bl (isS b m)) H
def spNeed (CB : Addr) : Sp := fun vs H Q E => ∃ b m, vs = [b, m] ∧ AnyV H b ∧ AnyV H m ∧ (isS b m = true → Q .non H) ∧ (isS b m = false → E (.ref CB) none H)
structure TC (K : PySem.W.Frag) (mg : Str → Option Value) : Prop extends TB mg where
  isinstance_ : mg "isinstance" = none
  bool_ : mg "bool" = none
  PLACES : ∃ t, mg "PLACES" = some (.int 10000 t)
section
variable {P : Program} {w : World} {K : PySem.W.Frag} {mg : Str → Option Value} {base : Heap}
theorem scIsInt : FnScope ["value"] ["value"] (defScope sIsInt) := ⟨rfl, rfl, rfl, by decide +kernel, rfl, by decide +kernel, by decide +kernel⟩
theorem ok_is_integer {f : Addr} {fd : FuncData} (F : Fun K "is_integer" "is_integer" sIsInt f fd) (T : TC K mg) : FnOk P w K mg base CX0 1 f fd ["value"] spIsInt := by
  refine F.ok scIsInt (fun vs H Q E h => ?_) (fun cdv A outer s H vs Q E hr h => ?_)
  · obtain ⟨v, rfl, _⟩ := h
    rfl
  · obtain ⟨v, rfl, hv, k⟩ := h
    obtain ⟨t, ty, h1, h2⟩ := hv.ty (K := K)
    refine ⟨_, pss_one (ps_ret (pe_and (pe_callB call_isi (by rfl) T.isinstance_ PyProof.Rows.boot_isinstance (pa_cons (pv 0) (pa_cons (pe_bltn (v := .ty "int") rfl T.int_ (by decide +kernel) rfl) pa_nil)))
      (pe_one (pe_not (pe_callB call_isi (by rfl) T.isinstance_ PyProof.Rows.boot_isinstance (pa_cons (pv 0) (pa_cons (pe_bltn (v := .ty "bool") rfl T.bool_ (by decide +kernel) rfl) pa_nil))))))), ?_⟩
    refine ⟨_, rfl, _, _, _, _, _, rfl, .ty _, ty, h1, _, rfl, ?_⟩
    refine ite2 (fun c => ?_) (fun c => ?_)
    · refine ⟨_, rfl, _, _, _, _, _, rfl, .ty _, ty, h2, _, rfl, ?_⟩
      have e : (!isB v) = isI v := by cases v <;> simp_all [isI, isB]
      rw [e]
      exact k
    · have e : isI v = false := by
        cases q : isI v with
        | false => rfl
        | true => rw [q] at c; simp at c
      rw [e] at k
      exact k
theorem scIsPlace : FnScope ["value"] ["value"] (defScope sIsPlace) := ⟨rfl, rfl, rfl, by decide +kernel, rfl, by decide +kernel, by decide +kernel⟩
theorem ok_is_place {f fI : Addr} {fd fdI : FuncData} (F : Fun K "is_place" "is_place" sIsPlace f fd) (T : TC K mg) (GI : FnOk P w K mg base CX0 1 fI fdI ["value"] spIsInt) (mI : mg "is_integer" = some (.ref fI)) (kI : PySem.W.keepIn K (.ref fI) = true) (bI : Binds K fdI ["value"] []) : FnOk P w K mg base CX0 2 f fd ["value"] spIsPlace := by
  refine F.ok scIsPlace (fun vs H Q E h => ?_) (fun cdv A outer s H vs Q E hr h => ?_)
  · obtain ⟨v, rfl, _⟩ := h
    rfl
  · obtain ⟨v, rfl, hv, k⟩ := h
    obtain ⟨tp, hP⟩ := T.PLACES
    refine ⟨_, pss_one (ps_ret (pe_and (pe_call GI hr rfl mI kI bI .nil pass0 (pa_cons (pv 0) pa_nil)) (pe_one (pe_chain op_le op_lt pe_int (pv 0) (pe_glob (v := .int 10000) rfl hP ⟨_, rfl⟩))))), ?_⟩
    refine ⟨_, rfl, v, rfl, hv, _, rfl, ?_⟩
    cases hv with
    | int i =>
      refine iteT ?_
      refine ⟨_, rfl, _, _, rfl, rfl, _, rfl, ?_⟩
      refine ite2 (fun c => ?_) (fun c => ?_)
      · refine ⟨_, _, rfl, rfl, ?_⟩
        have c' : 0 ≤ i := of_decide_eq_true c
        simp only [isP, c', decide_true, Bool.true_and] at k
        exact k
      · have c' : ¬ 0 ≤ i := fun z => c (decide_eq_true z)
        simp only [isP, c', decide_false, Bool.false_and] at k
        exact k
    | _ => exact iteF k
theorem scIsStretch : FnScope ["begin", "many"] ["begin", "many"] (defScope sIsStretch) := ⟨rfl, rfl, rfl, by decide +kernel, rfl, by decide +kernel, by decide +kernel⟩
theorem ok_is_stretch {f fI fP : Addr} {fd fdI fdP : FuncData} (F : Fun K "is_stretch" "is_stretch" sIsStretch f fd) (T : TC K mg) (GI : FnOk P w K mg base CX0 1 fI fdI ["value"] spIsInt) (mI : mg "is_integer" = some (.ref fI)) (kI : PySem.W.keepIn K (.ref fI) = true) (bI : Binds K fdI ["value"] [])
    (GP : FnOk P w K mg base CX0 2 fP fdP ["value"] spIsPlace) (mP : mg "is_place" = some (.ref fP)) (kP : PySem.W.keepIn K (.ref fP) = true) (bP : Binds K fdP ["value"] []) : FnOk P w K mg base CX0 3 f fd ["begin", "many"] spIsStretch := by
  refine F.ok scIsStretch (fun vs H Q E h => ?_) (fun cdv A outer s H vs Q E hr h => ?_)
  · obtain ⟨b, m, rfl, _⟩ := h
    rfl
  · obtain ⟨b, m, rfl, hb, hm, k⟩ := h
    obtain ⟨tp, hP⟩ := T.PLACES
    refine ⟨_, pss_one (ps_ret (pe_and (pe_call GP hr rfl mP kP bP .nil pass0 (pa_cons (pv 0) pa_nil)) (pe_and (pe_call GI (hr.mono (by decide)) rfl mI kI bI .nil pass0 (pa_cons (pv 1) pa_nil))
      (pe_and (pe_cmpR op_ge (pv 1) pe_int (nomark _)) (pe_one (pe_cmpR op_le (pe_op op_add (pv 0) (pv 1)) (pe_glob (v := .int 10000) rfl hP ⟨_, rfl⟩) (nomark _))))))), ?_⟩
    refine ⟨_, rfl, b, rfl, hb, _, rfl, ?_⟩
    refine ite2 (fun c1 => ?_) (fun c1 => ?_)
    · refine ⟨_, rfl, m, rfl, hm, _, rfl, ?_⟩
      refine ite2 (fun c2 => ?_) (fun c2 => ?_)
      · obtain ⟨i, rfl⟩ : ∃ i, b = .int i := by cases b <;> simp [isP] at c1 <;> exact ⟨_, rfl⟩
        obtain ⟨j, rfl⟩ : ∃ j, m = .int j := by cases m <;> simp [isI] at c2 <;> exact ⟨_, rfl⟩
        refine ⟨_, rfl, _, _, rfl, rfl, _, rfl, ?_⟩
        have c1' : 0 ≤ i ∧ i < 10000 := by simpa [isP] using c1
        refine ite2 (fun c3 => ?_) (fun c3 => ?_)
        · have c3' : 1 ≤ j := of_decide_eq_true c3
          refine ⟨_, rfl, _, rfl, _, _, rfl, rfl, _, _, rfl, rfl, ?_⟩
          simp only [isS, c1'.1, c1'.2, c3', decide_true, Bool.true_and] at k
          exact k
        · have c3' : ¬ 1 ≤ j := fun z => c3 (decide_eq_true z)
          simp only [isS, c1'.1, c1'.2, c3', decide_true, decide_false, Bool.true_and, Bool.and_false, Bool.false_and] at k
          exact k
      · have e : isS b m = false := by cases b <;> cases m <;> simp_all [isS, isI]
        rw [e] at k
        exact k
    · have e : isS b m = false := by
        cases b <;> cases m <;> first | rfl | skip
        simp only [isS, isP] at c1 ⊢
        simp only [Bool.and_eq_false_iff, decide_eq_false_iff_not]
        simp only [Bool.and_eq_true, decide_eq_true_eq] at c1
        omega
      rw [e] at k
      exact k
end
end Bm
set_option maxRecDepth 100000
set_option maxHeartbeats 4000000
namespace Bm
open PySem L2
abbrev sAInit : Stmt := inClass (top 11) 0
abbrev sABegin : Stmt := inClass (top 11) 1
abbrev sAMany : Stmt := inClass (top 11) 2
abbrev sAEnd : Stmt := inClass (top 11) 3
abbrev sAShift : Stmt := inClass (top 11) 4
abbrev sAEq : Stmt := inClass (top 11) 5
structure BadT (K : PySem.W.Frag) (mg : Str → Option Value) (CB : Addr) : Prop where
  g : mg "BadArea" = some (.ref CB)
  x : PySem.W.excIn K CB [.type "ValueError", .type "Exception", .type "BaseException", .type "object"] "ValueError.__new__" = true
  k : PySem.W.keepIn K (.ref CB) = true
  b : PySem.W.subIn K (.ref CB) (.type "BaseException") = some true
  t : PySem.W.typeIn K (.ref CB) = some (.type "type")
/-- an area's attributes -/
def ArF (b m s : V) : List (Str × V) := [("first_place", b), ("size", m), ("line", s)]
theorem s12 : ¬ (("first_place" : Str) = "size") := by decide +kernel
theorem s13 : ¬ (("first_place" : Str) = "line") := by decide +kernel
theorem s23 : ¬ (("size" : Str) = "line") := by decide +kernel
theorem ArF_put (b m s : V) : putF "line" s (putF "size" m (putF "first_place" b [])) = ArF b m s := by
  simp only [putF, if_neg s12, if_neg s13, if_neg s23, ArF]
theorem ArF_1 (b m s : V) : (ArF b m s).lookup ("first_place" : Str) = some b := by
  rw [← ArF_put, lookup_putF, if_neg s13, lookup_putF, if_neg s12, lookup_putF, if_pos rfl]
theorem ArF_2 (b m s : V) : (ArF b m s).lookup ("size" : Str) = some m := by
  rw [← ArF_put, lookup_putF, if_neg s23, lookup_putF, if_pos rfl]
theorem ArF_3 (b m s : V) : (ArF b m s).lookup ("line" : Str) = some s := by
  rw [← ArF_put, lookup_putF, if_pos rfl]
def okA (b m s : V) : Bool := isS b m && isI s
/-- the class Area -/
structure ArT (K : PySem.W.Frag) (C : Addr) : Prop where
  cl : Cls K C
  n1 : NoAttr K C "first_place"
  n2 : NoAttr K C "size"
  n3 : NoAttr K C "line"
def spAInit (C CB : Addr) : Sp := fun vs H Q E => ∃ (p dx : Addr) (b m s : V), vs = [.ref p, b, m, s] ∧ H p = some (.ins C dx []) ∧ AnyV H b ∧ AnyV H m ∧ AnyV H s ∧
  (okA b m s = true → Q .non (upd H p (.ins C dx (ArF b m s)))) ∧ (okA b m s = false → E (.ref CB) none H)
def spEnd (C : Addr) : Sp := fun vs H Q _ => ∃ (p dx : Addr) (b m : Int) (s : V), vs = [.ref p] ∧ H p = some (.ins C dx (ArF (.int b) (.int m) s)) ∧ Q (.int (b + m)) H
section
variable {P : Program} {w : World} {K : PySem.W.Frag} {mg : Str → Option Value} {base : Heap}
theorem scNeed : FnScope ["begin", "many"] ["begin", "many"] (defScope sNeed) := ⟨rfl, rfl, rfl, by decide +kernel, rfl, by decide +kernel, by decide +kernel⟩
theorem ok_need {f fS CB : Addr} {fd fdS : FuncData} (F : Fun K "need_stretch" "need_stretch" sNeed f fd) (T : BadT K mg CB) (GS : FnOk P w K mg base CX0 3 fS fdS ["begin", "many"] spIsStretch) (mS : mg "is_stretch" = some (.ref fS)) (kS : PySem.W.keepIn K (.ref fS) = true) (bS : Binds K fdS ["begin", "many"] []) :
    FnOk P w K mg base (L2.CX P w) 4 f fd ["begin", "many"] (spNeed CB) := by
  refine F.okX scNeed (fun vs H Q E h => ?_) (fun cdv A outer s H vs Q E hr h => ?_)
  · obtain ⟨b, m, rfl, _⟩ := h
    rfl
  · obtain ⟨b, m, rfl, hb, hm, k1, k2⟩ := h
    refine ⟨_, pss_one (ps_if (pt_not (pt_val (pe_call GS hr rfl mS kS bS .nil pass0 (pa_cons (pv 0) (pa_cons (pv 1) pa_nil)))))
      (pss_one (ps_raise rfl (takes_of rfl rfl rfl rfl) (pmk_own PySem.F.excBase_ValueError T.x T.g T.k (raises_own T.b T.t) (by exact rfl)))) pss_nil), ?_⟩
    refine ⟨_, rfl, _, rfl, b, m, rfl, hb, hm, _, rfl, ?_⟩
    cases e : isS b m with
    | true => exact iteF (k1 e)
    | false => exact iteT (k2 e)
theorem scAInit : FnScope ["self", "begin", "many", "shift"] ["self", "begin", "many", "shift"] (defScope sAInit) := ⟨rfl, rfl, rfl, by decide +kernel, rfl, by decide +kernel, by decide +kernel⟩
theorem ok_area_init {f fN fI CB C : Addr} {dvs : List V} {fd fdN fdI : FuncData} (F : FunD K "__init__" "Area.__init__" (defArgs sAInit) (defBody sAInit) (defScope sAInit) dvs [] f fd) (T : BadT K mg CB) (TA : ArT K C)
    (GN : FnOk P w K mg base (L2.CX P w) 4 fN fdN ["begin", "many"] (spNeed CB)) (mN : mg "need_stretch" = some (.ref fN)) (kN : PySem.W.keepIn K (.ref fN) = true) (bN : Binds K fdN ["begin", "many"] [])
    (GI : FnOk P w K mg base CX0 1 fI fdI ["value"] spIsInt) (mI : mg "is_integer" = some (.ref fI)) (kI : PySem.W.keepIn K (.ref fI) = true) (bI : Binds K fdI ["value"] []) :
    FnOk P w K mg base (L2.CX P w) 5 f fd ["self", "begin", "many", "shift"] (spAInit C CB) := by
  refine F.ok scAInit (fun vs H Q E h => ?_) (fun cdv A outer s H vs Q E hr h => ?_)
  · obtain ⟨p, dx, b, m, s, rfl, _⟩ := h
    rfl
  · obtain ⟨p, dx, b, m, z, rfl, hp, hb, hm, hz, k1, k2⟩ := h
    refine ⟨_, pss_cons (ps_expr (pe_call GN hr rfl mN kN bN .nil (passes_call (takes_of rfl rfl rfl rfl) (fun _ _ _ _ h => h)) (pa_cons (pv 1) (pa_cons (pv 2) pa_nil))))
      (pss_cons (ps_if (pt_not (pt_val (pe_call GI (hr.mono (by decide)) rfl mI kI bI .nil pass0 (pa_cons (pv 3) pa_nil))))
        (pss_one (ps_raise rfl (takes_of rfl rfl rfl rfl) (pmk_own PySem.F.excBase_ValueError T.x T.g T.k (raises_own T.b T.t) (by exact rfl)))) pss_nil)
      (pss_cons (ps_fld (pv 0) (pv 1) rfl) (pss_cons (ps_fld (pv 0) (pv 2) rfl) (pss_one (ps_fld (pv 0) (pv 3) rfl))))), ?_⟩
    refine ⟨_, rfl, _, rfl, b, m, rfl, hb, hm, fun e => ?_, fun e => k2 (by unfold okA; rw [e] <;> rfl)⟩
    refine ⟨_, rfl, z, rfl, hz, _, rfl, ?_⟩
    cases ez : isI z with
    | false => exact iteT (k2 (by unfold okA; rw [ez, Bool.and_false]))
    | true =>
      refine iteF ?_
      refine ⟨_, rfl, _, rfl, p, C, dx, _, rfl, hp, TA.cl, TA.n1, by decide, _, rfl, _, rfl, p, C, dx, _, rfl, upd_same, TA.cl, TA.n2, (by show 1 < 1000; decide), _, rfl, _, rfl, p, C, dx, _, rfl, upd_same, TA.cl, TA.n3, ?_, ?_⟩
      · show _ < 1000
        simp only [putF, if_neg s12]
        exact (by decide : 2 < 1000)
      · have k := k1 (by unfold okA; rw [e, ez] <;> rfl)
        rw [upd_upd, upd_upd, ArF_put]
        exact k
theorem scAEnd : FnScope ["self"] ["self"] (defScope sAEnd) := ⟨rfl, rfl, rfl, by decide +kernel, rfl, by decide +kernel, by decide +kernel⟩
theorem ok_area_end {f C : Addr} {fd : FuncData} (F : Fun K "end" "Area.end" sAEnd f fd) (TA : ArT K C) : FnOk P w K mg base CX0 1 f fd ["self"] (spEnd C) := by
  refine F.ok scAEnd (fun vs H Q E h => ?_) (fun cdv A outer s H vs Q E hr h => ?_)
  · obtain ⟨p, dx, b, m, s, rfl, _⟩ := h
    rfl
  · obtain ⟨p, dx, b, m, s, rfl, hp, k⟩ := h
    refine ⟨_, pss_one (ps_ret (pe_op op_add (pe_fld (pv 0) rfl) (pe_fld (pv 0) rfl))), ?_⟩
    exact ⟨_, rfl, p, C, dx, _, _, rfl, hp, TA.cl, TA.n1, ArF_1 _ _ _, _, rfl, p, C, dx, _, _, rfl, hp, TA.cl, TA.n2, ArF_2 _ _ _, _, _, rfl, rfl, k⟩
end
end Bm
set_option maxRecDepth 100000
set_option maxHeartbeats 4000000
namespace Bm
open PySem L2 L3
abbrev sThing : Stmt := top 17
abbrev sWhole : Stmt := top 18
abbrev sLStretch : Stmt := top 19
abbrev sStretch : Stmt := top 21
abbrev sLaw : Stmt := top 26
/-- what isinstance asks of the class of an instance -/
structure InT (K : PySem.W.Frag) (C : Addr) : Prop where
  cl : Cls K C
  ha : PySem.W.findIn K (.ref C) "__class__" = some (some (.builtin "object.__class__"))
  hn : PySem.W.specialIn K (.builtin "object.__class__") "__get__" = some (some (.builtin "getset_descriptor.__get__"))
  ht : PySem.W.takesIn K (.builtin "object.__class__") = some true
  hm : PySem.W.mroIn K C (.type "object") = some true
theorem InT.ty {K : PySem.W.Frag} {C : Addr} (T : InT K C) {H : Hp} {a dx : Addr} {fs : List (Str × V)} (e : H a = some (.ins C dx fs)) : TyV K H (.ref a) (.ref C) := .base (.base (.ins e T.cl T.ha T.hn T.ht T.hm))
theorem kit_self {K : PySem.W.Frag} {t : Value} : PySem.W.kitOne K t t = some true := by
  unfold PySem.W.kitOne
  rw [if_pos (by simp)]
def spAEq (C : Addr) : Sp := fun vs H Q _ => ∃ (p dx : Addr) (b m s : Int) (y : V), vs = [.ref p, y] ∧ H p = some (.ins C dx (ArF (.int b) (.int m) (.int s))) ∧
  ((∃ (q dy : Addr) (b' m' s' : Int), y = .ref q ∧ H q = some (.ins C dy (ArF (.int b') (.int m') (.int s'))) ∧ ∀ H', Same H H' → Q (.bl (decide (b = b' ∧ m = m' ∧ s = s'))) H') ∨
   (∃ (q : Addr) (xs : List V), y = .ref q ∧ H q = some (.tup xs) ∧ Q (.bl false) H))
def spPick : Sp := fun vs H Q _ => ∃ (d st l : Addr) (xs : List V), vs = [.ref d, .ref l] ∧ Dr d st H ∧ H l = some (.lst xs) ∧ l ≠ d ∧ l ≠ st ∧ 0 < xs.length ∧ xs.length < 1000000 ∧
  ∀ (v : V) (H' : Hp), v ∈ xs → Dr d st H' → Kp d st H H' → Q v H'
section
variable {P : Program} {w : World} {K : PySem.W.Frag} {mg : Str → Option Value} {base : Heap}
theorem scAEq : FnScope ["self", "other"] ["self", "other"] (defScope sAEq) := ⟨rfl, rfl, rfl, by decide +kernel, rfl, by decide +kernel, by decide +kernel⟩
theorem ok_area_eq {f C : Addr} {fd : FuncData} (F : Fun K "__eq__" "Area.__eq__" sAEq f fd) (T : TC K mg) (TA : ArT K C) (TI : InT K C) (mC : mg "Area" = some (.ref C)) (kt : PySem.W.kitOne K (.type "tuple") (.ref C) = some false) : FnOk P w K mg base CX0 1 f fd ["self", "other"] (spAEq C) := by
  refine F.ok scAEq (fun vs H Q E h => ?_) (fun cdv A outer s H vs Q E hr h => ?_)
  · obtain ⟨p, dx, b, m, s, y, rfl, _⟩ := h
    rfl
  · obtain ⟨p, dx, b, m, z, y, rfl, hp, h⟩ := h
    refine ⟨_, pss_cons (ps_if (pt_not (pt_val (pe_callB call_isV (by rfl) T.isinstance_ PyProof.Rows.boot_isinstance (pa_cons (pv 1) (pa_cons (pe_glob (v := .ref C) rfl mC rfl) pa_nil))))) (pss_one (ps_ret pe_bl)) pss_nil)
      (pss_one (ps_ret (pe_cmpR (op_eqD hr.units) (pe_tup (pa_cons (pe_fld (pv 0) rfl) (pa_cons (pe_fld (pv 0) rfl) (pa_cons (pe_fld (pv 0) rfl) pa_nil)))) (pe_tup (pa_cons (pe_fld (pv 1) rfl) (pa_cons (pe_fld (pv 1) rfl) (pa_cons (pe_fld (pv 1) rfl) pa_nil)))) (nomark _)))), ?_⟩
    rcases h with ⟨q, dy, b', m', z', rfl, hq, k⟩ | ⟨q, xs, rfl, hq, k⟩
    · refine ⟨_, rfl, _, _, _, _, _, rfl, .own C, TI.ty hq, kit_self, _, rfl, iteF ?_⟩
      refine ⟨_, rfl, p, C, dx, _, _, rfl, hp, TA.cl, TA.n1, ArF_1 _ _ _, _, rfl, p, C, dx, _, _, rfl, hp, TA.cl, TA.n2, ArF_2 _ _ _, _, rfl, p, C, dx, _, _, rfl, hp, TA.cl, TA.n3, ArF_3 _ _ _, by show 3 ≤ sizeLine; decide, fun t1 n1 => ?_⟩
      have hq1 : ∀ o, upd H t1 o q = H q := fun o => upd_ne (ne_of_none hq n1)
      refine ⟨_, rfl, q, C, dy, _, _, rfl, by rw [hq1]; exact hq, TA.cl, TA.n1, ArF_1 _ _ _, _, rfl, q, C, dy, _, _, rfl, by rw [hq1]; exact hq, TA.cl, TA.n2, ArF_2 _ _ _, _, rfl, q, C, dy, _, _, rfl, by rw [hq1]; exact hq, TA.cl, TA.n3, ArF_3 _ _ _, by show 3 ≤ sizeLine; decide, fun t2 n2 => ?_⟩
      have n21 : t1 ≠ t2 := fun e => by rw [← e, upd_same] at n2; cases n2
      refine ⟨.tuple [.int b, .int m, .int z], .tuple [.int b', .int m', .int z'], .tup (SqT.of (by rw [upd_ne n21, upd_same])) (.cons (.int b) (.cons (.int m) (.cons (.int z) .nil))), .tup (SqT.of upd_same) (.cons (.int b') (.cons (.int m') (.cons (.int z') .nil))), rfl, rfl, ?_⟩
      have e : PyData.eqv (.tuple [.int b, .int m, .int z]) (.tuple [.int b', .int m', .int z']) = decide (b = b' ∧ m = m' ∧ z = z') := by
        simp only [PyData.eqv, PyData.eqvAll, Bool.and_true]
        by_cases h1 : b = b' <;> by_cases h2 : m = m' <;> by_cases h3 : z = z' <;> simp [h1, h2, h3]
      rw [e]
      refine k _ fun c o ec => ?_
      have ne1 : c ≠ t1 := ne_of_none ec n1
      rw [upd_ne (ne_of_none (show upd H t1 _ c = some o by rw [upd_ne ne1]; exact ec) n2), upd_ne ne1]
      exact ec
    · refine ⟨_, rfl, _, _, _, _, _, rfl, .own C, .base (.base (.tup hq)), kt, _, rfl, iteT ?_⟩
      exact k
theorem scPick : FnScope ["_law_draw_here", "_law_some"] ["_law_draw_here", "_law_some"] (defScope sPick) := ⟨rfl, rfl, rfl, by decide +kernel, rfl, by decide +kernel, by decide +kernel⟩
theorem ok_pick {f fD : Addr} {fd fdD : FuncData} (F : Fun K "_law_pick" "_law_pick" sPick f fd) (T : TB mg) (GD : FnOk P w K mg base CX0 1 fD fdD ["_law_draw_here", "_law_below"] spDraw) (mD : mg "_law_draw" = some (.ref fD)) (kD : PySem.W.keepIn K (.ref fD) = true) (bD : Binds K fdD ["_law_draw_here", "_law_below"] []) :
    FnOk P w K mg base CX0 2 f fd ["_law_draw_here", "_law_some"] spPick := by
  refine F.ok scPick (fun vs H Q E h => ?_) (fun cdv A outer s H vs Q E hr h => ?_)
  · obtain ⟨d, st, l, xs, rfl, _⟩ := h
    rfl
  · obtain ⟨d, st, l, xs, rfl, D, hl, nd, ns, h0, h1, k⟩ := h
    refine ⟨_, pss_one (ps_ret (pe_ix ix_list (pv 1) (pe_call GD hr rfl mD kD bD .nil pass0 (pa_cons (pv 0) (pa_cons (pe_callB call_len_seq (by rfl) T.len_ PySem.boot_len (pa_cons (pv 1) pa_nil)) pa_nil))) (fun _ _ => rfl))), ?_⟩
    refine ⟨_, rfl, _, rfl, _, rfl, _, _, rfl, .inl (SqL.of hl), d, st, _, rfl, D, by omega, by omega, fun r H' r0 r1 D' kp => ?_⟩
    have hl' := kp l _ hl nd ns
    have hr : r.toNat < xs.length := by omega
    have e : atI xs r = some xs[r.toNat] := by
      have := atI_nat (List.getElem?_eq_getElem hr)
      rwa [show ((r.toNat : Nat) : Int) = r by omega] at this
    exact ⟨_, _, _, _, rfl, rfl, SqL.of hl', e, k _ _ (List.getElem_mem hr) D' kp⟩
end
end Bm
set_option maxRecDepth 100000
set_option maxHeartbeats 4000000
namespace Bm
open PySem L2 L3
def spThing : Sp := fun vs H Q _ => ∃ (d st : Addr), vs = [.ref d] ∧ Dr d st H ∧ ∀ (v : V) (p : PyData) (H' : Hp), ThV H' v p → Fits p → (∀ a, v = .ref a → H a = none) → Dr d st H' → Kp d st H H' → Q v H'
theorem ThV.any {H : Hp} {v : V} {p : PyData} (h : ThV H v p) : AnyV H v := by
  cases h with
  | non => exact .non
  | bl b => exact .bl b
  | int i => exact .int i
  | str x => exact .str x
  | lst e => exact .lst e
  | tup e => exact .tup e
  | dct e => exact .dK e
theorem log_small {i : Int} (h : i.natAbs < 2 ^ 80) : i.natAbs.log2 < 1920 := by
  by_cases z : i.natAbs = 0
  · rw [z]; decide
  · exact Nat.lt_of_lt_of_le ((Nat.log2_lt z).mpr h) (by decide)
theorem fits_small {i : Int} (h : i.natAbs < 2 ^ 80) : Fits (.int i) := ⟨by simpa [PyData.showable] using log_small h, by
  have e := int_text_length_le (k := 1920) (by decide) (log_small h)
  show (Str.ofString (toString i)).length ≤ 10000
  rw [ofString_length]
  omega, fun j z => by cases z; exact h⟩
theorem sameNew {H : Hp} {p : Addr} {o : HO} (n : H p = none) : Same H (upd H p o) := fun b u e => by
  rw [upd_ne (ne_of_none e n)]
  exact e
theorem Same.kp {d st : Addr} {H H' : Hp} (s : Same H H') : Kp d st H H' := fun b o e _ _ => s b o e
theorem Dr.same {d st : Addr} {H H' : Hp} (D : Dr d st H) (s : Same H H') : Dr d st H' := by
  obtain ⟨ms, sp, mx, hd, hs, h⟩ := D
  exact ⟨ms, sp, mx, s _ _ hd, s _ _ hs, h⟩
theorem Dr.ne {d st p : Addr} {H H' : Hp} (D : Dr d st H) (s : Same H H') (n : H' p = none) : p ≠ d ∧ p ≠ st := by
  obtain ⟨ms, sp, mx, hd, hs, h⟩ := D
  exact ⟨(ne_of_none (s _ _ hd) n).symm, (ne_of_none (s _ _ hs) n).symm⟩
section
variable {P : Program} {w : World} {K : PySem.W.Frag} {mg : Str → Option Value} {base : Heap}
/-- items of a list, new since H -/
def News (H H' : Hp) (xs : List V) : Prop := ∀ v ∈ xs, (∃ p, ThV H' v p ∧ Fits p) ∧ ∀ a, v = .ref a → H a = none
theorem News.mono {H H1 H2 : Hp} {d st : Addr} {xs : List V} (n : News H H1 xs) (D : Dr d st H) (k : Kp d st H1 H2) : News H H2 xs := fun v hv => by
  obtain ⟨⟨p, h1, h0⟩, h2⟩ := n v hv
  obtain ⟨ms, sp, mx, hd, hs, _⟩ := D
  refine ⟨⟨p, h1.mono ?_, h0⟩, h2⟩
  exact (fun a o e ha _ => k a o ha (fun z => by have := h2 a e; rw [z, hd] at this; cases this) (fun z => by have := h2 a e; rw [z, hs] at this; cases this))
theorem scThing : FnScope ["_law_draw_here", "_law_some"] ["_law_draw_here"] (defScope sThing) := ⟨rfl, rfl, rfl, by decide +kernel, rfl, by decide +kernel, by decide +kernel⟩
theorem ok_thing {f fD fP : Addr} {fd fdD fdP : FuncData} (F : Fun K "_law_thing" "_law_thing" sThing f fd) (T : TB mg) (GD : FnOk P w K mg base CX0 1 fD fdD ["_law_draw_here", "_law_below"] spDraw) (mD : mg "_law_draw" = some (.ref fD)) (kD : PySem.W.keepIn K (.ref fD) = true) (bD : Binds K fdD ["_law_draw_here", "_law_below"] [])
    (GP : FnOk P w K mg base CX0 2 fP fdP ["_law_draw_here", "_law_some"] spPick) (mP : mg "_law_pick" = some (.ref fP)) (kP : PySem.W.keepIn K (.ref fP) = true) (bP : Binds K fdP ["_law_draw_here", "_law_some"] []) :
    FnOk P w K mg base CX0 3 f fd ["_law_draw_here"] spThing := by
  refine F.ok scThing (fun vs H Q E h => ?_) (fun cdv A outer s H vs Q E hr h => ?_)
  · obtain ⟨d, st, rfl, _⟩ := h
    rfl
  · obtain ⟨d, st, rfl, D, k⟩ := h
    have hr1 := hr.mono (show 1 ≤ 2 by decide)
    refine ⟨_, pss_cons (ps_set (i := 1) scThing.nd rfl (Or.inl rfl) (pe_lst (pa_cons pe_non (pa_cons pe_bl (pa_cons pe_bl (pa_cons pe_str (pa_cons pe_str (pa_cons pe_str (pa_cons (pe_lst pa_nil) (pa_cons (pe_lst (pa_cons pe_int pa_nil)) (pa_cons (pe_tup pa_nil) (pa_cons (pe_tup (pa_cons pe_int (pa_cons pe_int pa_nil)))
        (pa_cons pe_dnewK (pa_cons (pe_disp (pps_cons pe_int pe_int pps_nil) (by rfl) (by rfl) (fun z => by cases z) (by decide)) (pa_cons (pe_un un_neg pe_int) (pa_cons pe_int (pa_cons pe_int (pa_cons pe_int (pa_cons pe_int pa_nil)))))))))))))))))))
      (pss_one (ps_ret (pe_call GP hr rfl mP kP bP .nil pass0 (pa_cons (pv 0) (pa_cons (pe_op op_cat (pv 1) (pe_lst (pa_cons (pe_op op_pow pe_int pe_int) (pa_cons (pe_un un_neg (pe_op op_pow pe_int pe_int))
        (pa_cons (pe_call GD hr1 rfl mD kD bD .nil pass0 (pa_cons (pv 0) (pa_cons pe_int pa_nil))) (pa_cons (pe_call GD hr1 rfl mD kD bD .nil pass0 (pa_cons (pv 0) (pa_cons pe_int pa_nil))) pa_nil)))))) pa_nil))))), ?_⟩
    refine ⟨by decide, fun p1 n1 => ?_⟩
    generalize eH1 : upd H p1 _ = H1
    have s1 : Same H H1 := by rw [← eH1]; exact sameNew n1
    have a1 : H1 p1 = some (HO.lst [] : HO) := by rw [← eH1]; exact upd_same
    clear eH1
    refine ⟨by decide, fun p2 n2 => ?_⟩
    generalize eH2 : upd H1 p2 _ = H2
    have s2 : Same H1 H2 := by rw [← eH2]; exact sameNew n2
    have a2 : H2 p2 = some (HO.lst [V.int 3] : HO) := by rw [← eH2]; exact upd_same
    clear eH2
    refine ⟨by decide, fun t1 m1 => ?_⟩
    generalize eH3 : upd H2 t1 _ = H3
    have s3 : Same H2 H3 := by rw [← eH3]; exact sameNew m1
    have a3 : H3 t1 = some (HO.tup [] : HO) := by rw [← eH3]; exact upd_same
    clear eH3
    refine ⟨by decide, fun t2 m2 => ?_⟩
    generalize eH4 : upd H3 t2 _ = H4
    have s4 : Same H3 H4 := by rw [← eH4]; exact sameNew m2
    have a4 : H4 t2 = some (HO.tup [V.int 0, V.int 1] : HO) := by rw [← eH4]; exact upd_same
    clear eH4
    refine fun d1 k1 => ?_
    generalize eH5 : upd H4 d1 _ = H5
    have s5 : Same H4 H5 := by rw [← eH5]; exact sameNew k1
    have a5 : H5 d1 = some (HO.dK [] : HO) := by rw [← eH5]; exact upd_same
    clear eH5
    refine fun d2 k2 => ⟨upd_same, [(Sum.inl 0, .int 1)], rfl, by decide, ?_⟩
    rw [upd_upd]
    generalize eH6 : upd H5 d2 _ = H6
    have s6 : Same H5 H6 := by rw [← eH6]; exact sameNew k2
    have a6 : H6 d2 = some (HO.dK (mergeK [] [(Sum.inl 0, V.int 1)]) : HO) := by rw [← eH6]; exact upd_same
    clear eH6
    have f2 := s1.free n2
    have f3 := s1.free (s2.free m1)
    have f4 := s1.free (s2.free (s3.free m2))
    have f5 := s1.free (s2.free (s3.free (s4.free k1)))
    have f6 := s1.free (s2.free (s3.free (s4.free (s5.free k2))))
    have S6 := s1.trans (s2.trans (s3.trans (s4.trans (s5.trans s6))))
    refine ⟨_, rfl, by show 17 ≤ sizeLine; decide, fun L nL => ?_⟩
    obtain ⟨nLd, nLs⟩ := D.ne S6 nL
    generalize eH7 : upd H6 L _ = H7
    have s7 : Same H6 H7 := by rw [← eH7]; exact sameNew nL
    have a7 : H7 L = some (HO.lst [V.non, V.bl true, V.bl false, V.str "", V.str "a", V.str "0", V.ref p1, V.ref p2, V.ref t1, V.ref t2, V.ref d1, V.ref d2, V.int (-1), V.int 0, V.int 1, V.int 9999, V.int 10000] : HO) := by rw [← eH7]; exact upd_same
    clear eH7
    have S7 := S6.trans s7
    have N0 : News H H7 [V.non, V.bl true, V.bl false, V.str "", V.str "a", V.str "0", V.ref p1, V.ref p2, V.ref t1, V.ref t2, V.ref d1, V.ref d2, V.int (-1), V.int 0, V.int 1, V.int 9999, V.int 10000] := fun v hv => by
      simp only [List.mem_cons, List.not_mem_nil, or_false] at hv
      rcases hv with rfl | rfl | rfl | rfl | rfl | rfl | rfl | rfl | rfl | rfl | rfl | rfl | rfl | rfl | rfl | rfl | rfl
      · exact ⟨⟨_, .non, ⟨by decide +kernel, by decide +kernel, fun i z => by cases z⟩⟩, fun a e => by cases e⟩
      · exact ⟨⟨_, .bl _, ⟨by decide +kernel, by decide +kernel, fun i z => by cases z⟩⟩, fun a e => by cases e⟩
      · exact ⟨⟨_, .bl _, ⟨by decide +kernel, by decide +kernel, fun i z => by cases z⟩⟩, fun a e => by cases e⟩
      · exact ⟨⟨_, .str _, ⟨by decide +kernel, by decide +kernel, fun i z => by cases z⟩⟩, fun a e => by cases e⟩
      · exact ⟨⟨_, .str _, ⟨by decide +kernel, by decide +kernel, fun i z => by cases z⟩⟩, fun a e => by cases e⟩
      · exact ⟨⟨_, .str _, ⟨by decide +kernel, by decide +kernel, fun i z => by cases z⟩⟩, fun a e => by cases e⟩
      · exact ⟨⟨_, .lst (ns := []) (s7 _ _ (s6 _ _ (s5 _ _ (s4 _ _ (s3 _ _ (s2 _ _ a1)))))), ⟨by decide +kernel, by decide +kernel, fun i z => by cases z⟩⟩, fun a e => by cases e; exact n1⟩
      · exact ⟨⟨_, .lst (ns := [3]) (s7 _ _ (s6 _ _ (s5 _ _ (s4 _ _ (s3 _ _ a2))))), ⟨by decide +kernel, by decide +kernel, fun i z => by cases z⟩⟩, fun a e => by cases e; exact f2⟩
      · exact ⟨⟨_, .tup (ns := []) (s7 _ _ (s6 _ _ (s5 _ _ (s4 _ _ a3)))), ⟨by decide +kernel, by decide +kernel, fun i z => by cases z⟩⟩, fun a e => by cases e; exact f3⟩
      · exact ⟨⟨_, .tup (ns := [0, 1]) (s7 _ _ (s6 _ _ (s5 _ _ a4))), ⟨by decide +kernel, by decide +kernel, fun i z => by cases z⟩⟩, fun a e => by cases e; exact f4⟩
      · exact ⟨⟨_, .dct (ps := []) (s7 _ _ (s6 _ _ a5)), ⟨by decide +kernel, by decide +kernel, fun i z => by cases z⟩⟩, fun a e => by cases e; exact f5⟩
      · exact ⟨⟨_, .dct (ps := [(0, 1)]) (s7 _ _ a6), ⟨by decide +kernel, by decide +kernel, fun i z => by cases z⟩⟩, fun a e => by cases e; exact f6⟩
      · exact ⟨⟨_, .int _, fits_small (by first | decide | omega)⟩, fun a e => by cases e⟩
      · exact ⟨⟨_, .int _, fits_small (by first | decide | omega)⟩, fun a e => by cases e⟩
      · exact ⟨⟨_, .int _, fits_small (by first | decide | omega)⟩, fun a e => by cases e⟩
      · exact ⟨⟨_, .int _, fits_small (by first | decide | omega)⟩, fun a e => by cases e⟩
      · exact ⟨⟨_, .int _, fits_small (by first | decide | omega)⟩, fun a e => by cases e⟩
    have D0 := D.same S7
    have hlen : [V.non, V.bl true, V.bl false, V.str "", V.str "a", V.str "0", V.ref p1, V.ref p2, V.ref t1, V.ref t2, V.ref d1, V.ref d2, V.int (-1), V.int 0, V.int 1, V.int 9999, V.int 10000].length = 17 := rfl
    generalize [V.non, V.bl true, V.bl false, V.str "", V.str "a", V.str "0", V.ref p1, V.ref p2, V.ref t1, V.ref t2, V.ref d1, V.ref d2, V.int (-1), V.int 0, V.int 1, V.int 9999, V.int 10000] = xs at N0 a7 hlen ⊢
    refine ⟨_, rfl, _, rfl, _, _, rfl, rfl, ⟨by decide, by decide, by decide⟩, _, _, rfl, rfl, ⟨by decide, by decide, by decide⟩, _, rfl, _, rfl, d, st, _, rfl, D0, by decide, by decide, fun r1 H8 r10 r11 D1 K1 => ?_⟩
    refine ⟨_, rfl, d, st, _, rfl, D1, by decide, by decide, fun r2 H9 r20 r21 D2 K2 => ?_⟩
    refine ⟨by show 4 ≤ sizeLine; decide, fun M nM => ?_⟩
    generalize eH10 : upd H9 M _ = H10
    have sM : Same H9 H10 := by rw [← eH10]; exact sameNew nM
    have aM : H10 M = some (HO.lst [V.int (10 ^ 17), V.int (-(10 ^ 17)), V.int r1, V.int r2] : HO) := by rw [← eH10]; exact upd_same
    clear eH10
    have K02 := K1.trans K2
    refine ⟨L, M, xs, _, rfl, rfl, sM _ _ (K02 _ _ a7 nLd nLs), aM, by rw [hlen]; show 21 ≤ sizeLine; decide, fun R nR => ?_⟩
    obtain ⟨nRd, nRs⟩ := D2.ne sM nR
    generalize eH11 : upd H10 R _ = H11
    have sR : Same H10 H11 := by rw [← eH11]; exact sameNew nR
    have aR : H11 R = some (HO.lst (xs ++ [V.int (10 ^ 17), V.int (-(10 ^ 17)), V.int r1, V.int r2]) : HO) := by rw [← eH11]; exact upd_same
    clear eH11
    have S911 := sM.trans sR
    have K11 : Kp d st H H11 := ((Same.kp S7).trans K02).trans (Same.kp S911)
    refine ⟨d, st, R, _, rfl, D2.same S911, aR, nRd, nRs, by rw [List.length_append, hlen]; show 0 < 21; decide, by rw [List.length_append, hlen]; show 21 < 1000000; decide, fun v H12 hv D3 K3 => ?_⟩
    have N3 := (N0.mono D K02).mono D ((Same.kp (d := d) (st := st) S911).trans K3)
    have all : (∃ p, ThV H12 v p ∧ Fits p) ∧ ∀ a, v = .ref a → H a = none := by
      rcases List.mem_append.mp hv with h | h
      · exact N3 v h
      · simp only [List.mem_cons, List.not_mem_nil, or_false] at h
        rcases h with rfl | rfl | rfl | rfl
        · exact ⟨⟨_, .int _, fits_small (by first | decide | omega)⟩, fun a e => by cases e⟩
        · exact ⟨⟨_, .int _, fits_small (by first | decide | omega)⟩, fun a e => by cases e⟩
        · exact ⟨⟨_, .int _, fits_small (by first | decide | omega)⟩, fun a e => by cases e⟩
        · exact ⟨⟨_, .int _, fits_small (by first | decide | omega)⟩, fun a e => by cases e⟩
    obtain ⟨⟨p, h1, h2⟩, h3⟩ := all
    exact k v p H12 h1 h2 h3 D3 (K11.trans K3)
end
end Bm
set_option maxRecDepth 100000
set_option maxHeartbeats 4000000
namespace Bm
open PySem L2 L3
def spStretch : Sp := fun vs H Q _ => ∃ (d st : Addr), vs = [.ref d] ∧ Dr d st H ∧ ∀ (b m : Int) (t : Addr) (H' : Hp), isS (.int b) (.int m) = true → H' t = some (.tup [.int b, .int m]) → Dr d st H' → Kp d st H H' → Q (.ref t) H'
section
variable {P : Program} {w : World} {K : PySem.W.Frag} {mg : Str → Option Value} {base : Heap}
theorem scWhole : FnScope ["_law_thing_here"] ["_law_thing_here"] (defScope sWhole) := ⟨rfl, rfl, rfl, by decide +kernel, rfl, by decide +kernel, by decide +kernel⟩
theorem ok_whole {f : Addr} {fd : FuncData} (F : Fun K "_law_is_whole" "_law_is_whole" sWhole f fd) (T : TC K mg) : FnOk P w K mg base CX0 1 f fd ["_law_thing_here"] spIsInt := by
  refine F.ok scWhole (fun vs H Q E h => ?_) (fun cdv A outer s H vs Q E hr h => ?_)
  · obtain ⟨v, rfl, _⟩ := h
    rfl
  · obtain ⟨v, rfl, hv, k⟩ := h
    obtain ⟨t, ty, h1, h2⟩ := hv.ty (K := K)
    refine ⟨_, pss_one (ps_ret (pe_and (pe_callB call_isi (by rfl) T.isinstance_ PyProof.Rows.boot_isinstance (pa_cons (pv 0) (pa_cons (pe_bltn (v := .ty "int") rfl T.int_ (by decide +kernel) rfl) pa_nil)))
      (pe_one (pe_not (pe_callB call_isi (by rfl) T.isinstance_ PyProof.Rows.boot_isinstance (pa_cons (pv 0) (pa_cons (pe_bltn (v := .ty "bool") rfl T.bool_ (by decide +kernel) rfl) pa_nil))))))), ?_⟩
    refine ⟨_, rfl, _, _, _, _, _, rfl, .ty _, ty, h1, _, rfl, ?_⟩
    refine ite2 (fun c => ?_) (fun c => ?_)
    · refine ⟨_, rfl, _, _, _, _, _, rfl, .ty _, ty, h2, _, rfl, ?_⟩
      have e : (!isB v) = isI v := by cases v <;> simp_all [isI, isB]
      rw [e]
      exact k
    · have e : isI v = false := by
        cases q : isI v with
        | false => rfl
        | true => rw [q] at c; simp at c
      rw [e] at k
      exact k
/-- the law's own words of a stretch -/
def spLS : Sp := fun vs H Q _ => ∃ b m, vs = [b, m] ∧ AnyV H b ∧ AnyV H m ∧ Q (.bl (isS b m)) H
theorem scLStretch : FnScope ["_law_first", "_law_size"] ["_law_first", "_law_size"] (defScope sLStretch) := ⟨rfl, rfl, rfl, by decide +kernel, rfl, by decide +kernel, by decide +kernel⟩
theorem isS_ints (b m : Int) : isS (.int b) (.int m) = (decide (0 ≤ b) && (decide (0 < m) && decide (b + m < 10001))) := by
  simp only [isS]
  by_cases h1 : 0 ≤ b <;> by_cases h2 : b < 10000 <;> by_cases h3 : 1 ≤ m <;> by_cases h4 : b + m ≤ 10000 <;> by_cases h5 : 0 < m <;> by_cases h6 : b + m < 10001 <;> simp [h1, h2, h3, h4, h5, h6] <;> omega
theorem ok_lstretch {f fW : Addr} {fd fdW : FuncData} (F : Fun K "_law_is_stretch" "_law_is_stretch" sLStretch f fd) (GW : FnOk P w K mg base CX0 1 fW fdW ["_law_thing_here"] spIsInt) (mW : mg "_law_is_whole" = some (.ref fW)) (kW : PySem.W.keepIn K (.ref fW) = true) (bW : Binds K fdW ["_law_thing_here"] []) :
    FnOk P w K mg base CX0 2 f fd ["_law_first", "_law_size"] spLS := by
  refine F.ok scLStretch (fun vs H Q E h => ?_) (fun cdv A outer s H vs Q E hr h => ?_)
  · obtain ⟨b, m, rfl, _⟩ := h
    rfl
  · obtain ⟨b, m, rfl, hb, hm, k⟩ := h
    refine ⟨_, pss_cons (ps_if (PW.pt (pw_or (pt_not (pt_val (pe_call GW hr rfl mW kW bW .nil pass0 (pa_cons (pv 0) pa_nil)))) (pw_or1 (pt_not (pt_val (pe_call GW hr rfl mW kW bW .nil pass0 (pa_cons (pv 1) pa_nil))))))) (pss_one (ps_ret pe_bl)) pss_nil)
      (pss_one (ps_ret (pe_and (pe_cmpR op_ge (pv 0) pe_int (nomark _)) (pe_and (pe_cmpR op_gt (pv 1) pe_int (nomark _)) (pe_one (pe_cmpR op_lt (pe_op op_add (pv 0) (pv 1)) pe_int (nomark _))))))), ?_⟩
    refine ⟨_, rfl, b, rfl, hb, _, rfl, ?_⟩
    cases e1 : isI b with
    | false =>
      have e : isS b m = false := by cases b <;> cases m <;> simp_all [isS, isI]
      rw [e] at k
      refine iteT (iteT ?_)
      exact k
    | true =>
      refine iteF ?_
      refine ⟨_, rfl, m, rfl, hm, _, rfl, ?_⟩
      cases e2 : isI m with
      | false =>
        have e : isS b m = false := by cases b <;> cases m <;> simp_all [isS, isI]
        rw [e] at k
        exact iteT k
      | true =>
        obtain ⟨i, rfl⟩ : ∃ i, b = .int i := by cases b <;> simp [isI] at e1 <;> exact ⟨_, rfl⟩
        obtain ⟨j, rfl⟩ : ∃ j, m = .int j := by cases m <;> simp [isI] at e2 <;> exact ⟨_, rfl⟩
        rw [isS_ints] at k
        refine iteF ?_
        refine ⟨_, rfl, _, _, rfl, rfl, _, rfl, ?_⟩
        refine ite2 (fun c1 => ?_) (fun c1 => ?_)
        · have c1' : 0 ≤ i := of_decide_eq_true c1
          refine ⟨_, rfl, _, _, rfl, rfl, _, rfl, ?_⟩
          refine ite2 (fun c2 => ?_) (fun c2 => ?_)
          · have c2' : 0 < j := of_decide_eq_true c2
            refine ⟨_, rfl, _, rfl, _, _, rfl, rfl, _, _, rfl, rfl, ?_⟩
            simp only [c1', c2', decide_true, Bool.true_and] at k
            exact k
          · have c2' : ¬ 0 < j := fun z => c2 (decide_eq_true z)
            simp only [c1', c2', decide_true, decide_false, Bool.true_and, Bool.false_and] at k
            exact k
        · have c1' : ¬ 0 ≤ i := fun z => c1 (decide_eq_true z)
          simp only [c1', decide_false, Bool.false_and] at k
          exact k
theorem scStretch : FnScope ["_law_draw_here", "_law_first"] ["_law_draw_here"] (defScope sStretch) := ⟨rfl, rfl, rfl, by decide +kernel, rfl, by decide +kernel, by decide +kernel⟩
theorem ok_stretch {f fD fP : Addr} {fd fdD fdP : FuncData} (F : Fun K "_law_stretch" "_law_stretch" sStretch f fd) (GD : FnOk P w K mg base CX0 1 fD fdD ["_law_draw_here", "_law_below"] spDraw) (mD : mg "_law_draw" = some (.ref fD)) (kD : PySem.W.keepIn K (.ref fD) = true) (bD : Binds K fdD ["_law_draw_here", "_law_below"] [])
    (GP : FnOk P w K mg base CX0 2 fP fdP ["_law_draw_here", "_law_some"] spPick) (mP : mg "_law_pick" = some (.ref fP)) (kP : PySem.W.keepIn K (.ref fP) = true) (bP : Binds K fdP ["_law_draw_here", "_law_some"] []) :
    FnOk P w K mg base CX0 3 f fd ["_law_draw_here"] spStretch := by
  refine F.ok scStretch (fun vs H Q E h => ?_) (fun cdv A outer s H vs Q E hr h => ?_)
  · obtain ⟨d, st, rfl, _⟩ := h
    rfl
  · obtain ⟨d, st, rfl, D, k⟩ := h
    have hr1 := hr.mono (show 1 ≤ 2 by decide)
    refine ⟨_, pss_cons (ps_set (i := 1) scStretch.nd rfl (Or.inl rfl) (pe_call GP hr rfl mP kP bP .nil pass0 (pa_cons (pv 0) (pa_cons (pe_lst (pa_cons pe_int (pa_cons pe_int (pa_cons pe_int (pa_cons (pe_call GD hr1 rfl mD kD bD .nil pass0 (pa_cons (pv 0) (pa_cons pe_int pa_nil))) pa_nil))))) pa_nil))))
      (pss_one (ps_ret (pe_tup (pa_cons (pv 1) (pa_cons (pe_op op_add pe_int (pe_call GP hr rfl mP kP bP .nil pass0 (pa_cons (pv 0) (pa_cons (pe_lst (pa_cons pe_int (pa_cons (pe_op op_sub pe_int (pv 1)) (pa_cons (pe_call GD hr1 rfl mD kD bD .nil pass0 (pa_cons (pv 0) (pa_cons (pe_op op_sub pe_int (pv 1)) pa_nil))) pa_nil)))) pa_nil)))) pa_nil))))), ?_⟩
    refine ⟨_, rfl, _, rfl, d, st, _, rfl, D, by decide, by decide, fun r H1 r0 r1 D1 K1 => ⟨by show 4 ≤ sizeLine; decide, fun L nL => ?_⟩⟩
    obtain ⟨nd, ns⟩ := D1.ne (Same.refl _) nL
    generalize eH2 : upd H1 L _ = H2
    have s2 : Same H1 H2 := by rw [← eH2]; exact sameNew nL
    have a2 : H2 L = some (HO.lst [V.int 0, V.int 9999, V.int 5, V.int r] : HO) := by rw [← eH2]; exact upd_same
    clear eH2
    refine ⟨d, st, L, _, rfl, D1.same s2, a2, nd, ns, by show 0 < 4; decide, by show 4 < 1000000; decide, fun v H3 hv D3 K3 => ?_⟩
    obtain ⟨b, rfl, hb0, hb1⟩ : ∃ b, v = V.int b ∧ 0 ≤ b ∧ b < 10000 := by
      simp only [List.mem_cons, List.not_mem_nil, or_false] at hv
      rcases hv with rfl | rfl | rfl | rfl
      · exact ⟨_, rfl, by decide, by decide⟩
      · exact ⟨_, rfl, by decide, by decide⟩
      · exact ⟨_, rfl, by decide, by decide⟩
      · exact ⟨_, rfl, r0, r1⟩
    refine ⟨_, rfl, _, rfl, _, rfl, _, _, rfl, rfl, _, rfl, _, rfl, _, _, rfl, rfl, d, st, _, rfl, D3, by omega, by omega, fun r' H4 r0' r1' D4 K4 => ⟨by show 3 ≤ sizeLine; decide, fun M nM => ?_⟩⟩
    obtain ⟨md, ms⟩ := D4.ne (Same.refl _) nM
    generalize eH5 : upd H4 M _ = H5
    have s5 : Same H4 H5 := by rw [← eH5]; exact sameNew nM
    have a5 : H5 M = some (HO.lst [V.int 0, V.int (9999 - b), V.int r'] : HO) := by rw [← eH5]; exact upd_same
    clear eH5
    refine ⟨d, st, M, _, rfl, D4.same s5, a5, md, ms, by show 0 < 3; decide, by show 3 < 1000000; decide, fun v H6 hv D6 K6 => ?_⟩
    obtain ⟨m, rfl, hm0, hm1⟩ : ∃ m, v = V.int m ∧ 0 ≤ m ∧ b + (1 + m) ≤ 10000 := by
      simp only [List.mem_cons, List.not_mem_nil, or_false] at hv
      rcases hv with rfl | rfl | rfl
      · exact ⟨_, rfl, by decide, by omega⟩
      · exact ⟨_, rfl, by omega, by omega⟩
      · exact ⟨_, rfl, r0', by omega⟩
    refine ⟨_, _, rfl, rfl, by show 2 ≤ sizeLine; decide, fun t nt => ?_⟩
    generalize eH7 : upd H6 t _ = H7
    have s7 : Same H6 H7 := by rw [← eH7]; exact sameNew nt
    have a7 : H7 t = some (HO.tup [V.int b, V.int (1 + m)] : HO) := by rw [← eH7]; exact upd_same
    clear eH7
    refine k b (1 + m) t H7 ?_ a7 (D6.same s7) (((K1.trans (Same.kp s2)).trans (K3.trans K4)).trans (((Same.kp s5).trans K6).trans (Same.kp s7)))
    rw [isS_ints]
    simp only [Bool.and_eq_true, decide_eq_true_eq]
    omega
end
end Bm
set_option maxRecDepth 100000
set_option maxHeartbeats 4000000
namespace Bm
open PySem L2 L3
abbrev sAHas : Stmt := inClass (top 11) 6
abbrev sAIndex : Stmt := inClass (top 11) 7
abbrev sAPlace : Stmt := inClass (top 11) 8
abbrev sACut : Stmt := inClass (top 11) 9
abbrev sAJoin : Stmt := inClass (top 11) 10
abbrev sAMove : Stmt := inClass (top 11) 11
theorem AnyV.same {H H' : Hp} {v : V} (h : AnyV H v) (e : Same H H') : AnyV H' v := h.mono fun a o _ ha _ => e a o ha
theorem ArF_no {n : Str} (b m s : V) (h1 : ¬ n = "first_place" := by decide +kernel) (h2 : ¬ n = "size" := by decide +kernel) (h3 : ¬ n = "line" := by decide +kernel) : (ArF b m s).lookup n = none := by
  rw [← ArF_put, lookup_putF, if_neg h3, lookup_putF, if_neg h2, lookup_putF, if_neg h1]
  rfl
/-- an area -/
def ArO (C dx : Addr) (b m s : Int) : HO := .ins C dx (ArF (.int b) (.int m) (.int s))
/-- an area is made -/
theorem mk_one {C CB : Addr} {b m z : V} {H : Hp} {R : VK} {E : XK} {x dx : Addr} (nx : H x = none) (ndx : H dx = none) (ne : dx ≠ x) (hb : AnyV H b) (hm : AnyV H m) (hz : AnyV H z) (eo : okA b m z = true)
    (h : ∀ H', Same H H' → H' x = some (.ins C dx (ArF b m z)) → R .non H') : spAInit C CB [.ref x, b, m, z] (upd (upd H dx (.own x)) x (.ins C dx [])) R E := by
  have s3 : Same H (upd (upd H dx (.own x)) x (.ins C dx [])) := fun c o e => by
    rw [upd_ne (ne_of_none e nx), upd_ne (ne_of_none e ndx)]
    exact e
  refine ⟨x, dx, b, m, z, rfl, upd_same, hb.same s3, hm.same s3, hz.same s3, fun e => h _ (fun c o ec => ?_) upd_same, fun e => by rw [eo] at e; cases e⟩
  rw [upd_upd, upd_ne (ne_of_none ec nx), upd_ne (ne_of_none ec ndx)]
  exact ec
theorem okA_ints {b m s : Int} (h : isS (.int b) (.int m) = true) : okA (.int b) (.int m) (.int s) = true := by
  unfold okA
  rw [h] <;> rfl
theorem isS_iff {b m : Int} : isS (.int b) (.int m) = true ↔ 0 ≤ b ∧ 0 < m ∧ b + m ≤ 10000 := by
  rw [isS_ints]
  simp only [Bool.and_eq_true, decide_eq_true_eq]
  omega
def inA (b m : Int) : V → Bool | .int i => decide (b ≤ i) && decide (i < b + m) | _ => false
def spHas (C : Addr) : Sp := fun vs H Q _ => ∃ (p dx : Addr) (b m s : Int) (y : V), vs = [.ref p, y] ∧ H p = some (ArO C dx b m s) ∧ AnyV H y ∧ Q (.bl (inA b m y)) H
def noPl (CN : Addr) (y : V) (H : Hp) (E : XK) : Prop := ∀ d, H d = none → E (.ref CN) (some d) (upd H d (.xd [("place", y)]))
def spIndex (C CN : Addr) : Sp := fun vs H Q E => ∃ (p dx : Addr) (b m s : Int) (y : V), vs = [.ref p, y] ∧ H p = some (ArO C dx b m s) ∧ AnyV H y ∧
  (∀ i, y = .int i → inA b m y = true → Q (.int (i + s)) H) ∧ (inA b m y = false → noPl CN y H E)
def plV (b m s : Int) : V → V | .int i => if inA b m (.int (i - s)) = true then .int (i - s) else .non | _ => .non
def spPlace (C : Addr) : Sp := fun vs H Q _ => ∃ (p dx : Addr) (b m s : Int) (y : V), vs = [.ref p, y] ∧ H p = some (ArO C dx b m s) ∧ AnyV H y ∧ Q (plV b m s y) H
def spCut (C CN : Addr) : Sp := fun vs H Q E => ∃ (p dx : Addr) (b m s : Int) (y : V), vs = [.ref p, y] ∧ H p = some (ArO C dx b m s) ∧ isS (.int b) (.int m) = true ∧ AnyV H y ∧
  (∀ i, y = .int i → b < i → i < b + m → ∀ (t q1 d1 q2 d2 : Addr) (H' : Hp), Same H H' → H' t = some (.tup [.ref q1, .ref q2]) → H' q1 = some (ArO C d1 b (i - b) s) → H' q2 = some (ArO C d2 i (b + m - i) s) → Q (.ref t) H') ∧
  ((inA b m y = false ∨ y = .int b) → noPl CN y H E)
def spJoin (C CJ : Addr) : Sp := fun vs H Q E => ∃ (p dx : Addr) (b m s : Int) (y : V), vs = [.ref p, y] ∧ H p = some (ArO C dx b m s) ∧ isS (.int b) (.int m) = true ∧
  ((∃ (q dy : Addr) (b' m' s' : Int), y = .ref q ∧ H q = some (ArO C dy b' m' s') ∧ isS (.int b') (.int m') = true ∧
      (b' = b + m → s' = s → ∀ (r dr : Addr) (H' : Hp), Same H H' → H' r = some (ArO C dr b (m + m') s) → Q (.ref r) H') ∧ (¬ (b' = b + m ∧ s' = s) → E (.ref CJ) none H)) ∨
   (AnyV H y ∧ E (.ref CJ) none H))
def spMove (C CB : Addr) : Sp := fun vs H Q E => ∃ (p dx : Addr) (b m s : Int) (y : V), vs = [.ref p, y] ∧ H p = some (ArO C dx b m s) ∧ AnyV H y ∧
  (∀ i, y = .int i → isS y (.int m) = true → ∀ (r dr : Addr) (H' : Hp), Same H H' → H' r = some (ArO C dr i m (s + b - i)) → Q (.ref r) H') ∧ (isS y (.int m) = false → E (.ref CB) none H)
/-- an error with an attribute, as it is made -/
def SupE (P : Program) (w : World) (K : PySem.W.Frag) (mg : Str → Option Value) (base : Heap) (n x : Str) (CN : Addr) : Prop :=
  mg n = some (.ref CN) ∧ OexC K CN ∧ ∃ fI fd, PySem.W.findIn K (.ref CN) "__init__" = some (some (.ref fI)) ∧ PySem.W.typeIn K (.ref fI) = some (.type "function") ∧ FnOk P w K mg base CX0 1 fI fd ["self", x] (spSup CN x) ∧ Binds K fd ["self", x] []
section
variable {P : Program} {w : World} {K : PySem.W.Frag} {mg : Str → Option Value} {base : Heap}
theorem scAHas : FnScope ["self", "place"] ["self", "place"] (defScope sAHas) := ⟨rfl, rfl, rfl, by decide +kernel, rfl, by decide +kernel, by decide +kernel⟩
theorem ok_has {f fI C : Addr} {fd fdI : FuncData} (F : Fun K "has" "Area.has" sAHas f fd) (TA : ArT K C) (GI : FnOk P w K mg base CX0 1 fI fdI ["value"] spIsInt) (mI : mg "is_integer" = some (.ref fI)) (kI : PySem.W.keepIn K (.ref fI) = true) (bI : Binds K fdI ["value"] []) :
    FnOk P w K mg base CX0 2 f fd ["self", "place"] (spHas C) := by
  refine F.ok scAHas (fun vs H Q E h => ?_) (fun cdv A outer s H vs Q E hr h => ?_)
  · obtain ⟨p, dx, b, m, z, y, rfl, _⟩ := h
    rfl
  · obtain ⟨p, dx, b, m, z, y, rfl, hp, hy, k⟩ := h
    refine ⟨_, pss_one (ps_ret (pe_and (pe_call GI hr rfl mI kI bI .nil pass0 (pa_cons (pv 1) pa_nil)) (pe_one (pe_chain op_le op_lt (pe_fld (pv 0) rfl) (pv 1) (pe_op op_add (pe_fld (pv 0) rfl) (pe_fld (pv 0) rfl)))))), ?_⟩
    refine ⟨_, rfl, y, rfl, hy, _, rfl, ?_⟩
    cases hy with
    | int i =>
      refine iteT ?_
      refine ⟨_, rfl, p, C, dx, _, _, rfl, hp, TA.cl, TA.n1, ArF_1 _ _ _, _, rfl, _, _, rfl, rfl, _, rfl, ?_⟩
      refine ite2 (fun c => ?_) (fun c => ?_)
      · refine ⟨_, rfl, p, C, dx, _, _, rfl, hp, TA.cl, TA.n1, ArF_1 _ _ _, _, rfl, p, C, dx, _, _, rfl, hp, TA.cl, TA.n2, ArF_2 _ _ _, _, _, rfl, rfl, _, _, rfl, rfl, ?_⟩
        simp only [inA, show b ≤ i from of_decide_eq_true c, decide_true, Bool.true_and] at k
        exact k
      · simp only [inA, show ¬ b ≤ i from fun z => c (decide_eq_true z), decide_false, Bool.false_and] at k
        exact k
    | _ => exact iteF k
theorem scAIndex : FnScope ["self", "place"] ["self", "place"] (defScope sAIndex) := ⟨rfl, rfl, rfl, by decide +kernel, rfl, by decide +kernel, by decide +kernel⟩
theorem ok_index {f fH C CN : Addr} {fd fdH : FuncData} (F : Fun K "index_of" "Area.index_of" sAIndex f fd) (TA : ArT K C) (mH : Meth K C "has" fH) (GH : FnOk P w K mg base CX0 2 fH fdH ["self", "place"] (spHas C)) (bH : Binds K fdH ["self", "place"] []) (Np : SupE P w K mg base "NoPlace" "place" CN) :
    FnOk P w K mg base (L2.CX P w) 3 f fd ["self", "place"] (spIndex C CN) := by
  obtain ⟨gN, TN, fN, fdN, iN, tN, GN, bN⟩ := Np
  refine F.okX scAIndex (fun vs H Q E h => ?_) (fun cdv A outer s H vs Q E hr h => ?_)
  · obtain ⟨p, dx, b, m, z, y, rfl, _⟩ := h
    rfl
  · obtain ⟨p, dx, b, m, z, y, rfl, hp, hy, k1, k2⟩ := h
    refine ⟨_, pss_cons (ps_if (pt_not (pt_val (pe_meth (pv 0) TA.cl mH GH hr bH .nil pass0 (pa_cons (pv 1) pa_nil)))) (pss_one (ps_raise rfl (takes_of rfl rfl rfl rfl) (pmk_oex TN iN tN GN hr bN .nil pass0 rfl gN (pa_cons (pv 1) pa_nil)))) pss_nil)
      (pss_one (ps_ret (pe_op op_add (pv 1) (pe_fld (pv 0) rfl)))), ?_⟩
    refine ⟨_, rfl, p, dx, _, rfl, hp, ArF_no _ _ _, _, rfl, ⟨p, dx, b, m, z, y, rfl, hp, hy, _, rfl, ?_⟩⟩
    cases e : inA b m y with
    | false => exact iteT ⟨y, rfl, by show 1 ≤ 1000; decide, mk_sup (k2 e)⟩
    | true =>
      obtain ⟨i, rfl⟩ : ∃ i, y = .int i := by cases y <;> simp [inA] at e <;> exact ⟨_, rfl⟩
      exact iteF ⟨_, rfl, _, rfl, p, C, dx, _, _, rfl, hp, TA.cl, TA.n3, ArF_3 _ _ _, _, _, rfl, rfl, k1 i rfl e⟩
theorem scAPlace : FnScope ["self", "index"] ["self", "index"] (defScope sAPlace) := ⟨rfl, rfl, rfl, by decide +kernel, rfl, by decide +kernel, by decide +kernel⟩
theorem ok_place {f fH fI C : Addr} {fd fdH fdI : FuncData} (F : Fun K "place_of" "Area.place_of" sAPlace f fd) (TA : ArT K C) (mH : Meth K C "has" fH) (GH : FnOk P w K mg base CX0 2 fH fdH ["self", "place"] (spHas C)) (bH : Binds K fdH ["self", "place"] [])
    (GI : FnOk P w K mg base CX0 1 fI fdI ["value"] spIsInt) (mI : mg "is_integer" = some (.ref fI)) (kI : PySem.W.keepIn K (.ref fI) = true) (bI : Binds K fdI ["value"] []) : FnOk P w K mg base CX0 3 f fd ["self", "index"] (spPlace C) := by
  refine F.ok scAPlace (fun vs H Q E h => ?_) (fun cdv A outer s H vs Q E hr h => ?_)
  · obtain ⟨p, dx, b, m, z, y, rfl, _⟩ := h
    rfl
  · obtain ⟨p, dx, b, m, z, y, rfl, hp, hy, k⟩ := h
    refine ⟨_, pss_one (ps_ret (pe_ifExp (PW.pt (pw_and (pt_val (pe_call GI (hr.mono (by decide)) rfl mI kI bI .nil pass0 (pa_cons (pv 1) pa_nil))) (pw_and1 (pt_val (pe_meth (pv 0) TA.cl mH GH hr bH .nil pass0 (pa_cons (pe_op op_sub (pv 1) (pe_fld (pv 0) rfl)) pa_nil)))))) (pe_op op_sub (pv 1) (pe_fld (pv 0) rfl)) pe_non)), ?_⟩
    refine ⟨_, rfl, y, rfl, hy, _, rfl, ?_⟩
    cases hy with
    | int i =>
      refine iteT ?_
      refine ⟨_, rfl, p, dx, _, rfl, hp, ArF_no _ _ _, _, rfl, _, rfl, p, C, dx, _, _, rfl, hp, TA.cl, TA.n3, ArF_3 _ _ _, _, _, rfl, rfl, ⟨p, dx, b, m, z, .int (i - z), rfl, hp, .int _, _, rfl, ?_⟩⟩
      simp only [plV] at k
      cases e : inA b m (.int (i - z)) with
      | false =>
        rw [e] at k
        exact iteF k
      | true =>
        rw [e] at k
        exact iteT ⟨_, rfl, _, rfl, p, C, dx, _, _, rfl, hp, TA.cl, TA.n3, ArF_3 _ _ _, _, _, rfl, rfl, k⟩
    | _ => exact iteF k
end
end Bm
set_option maxRecDepth 100000
set_option maxHeartbeats 4000000
namespace Bm
open PySem L2 L3
/-- a def of the module, with its promise -/
def Has (P : Program) (w : World) (K : PySem.W.Frag) (mg : Str → Option Value) (base : Heap) (CX : CXT) (k : Nat) (x : Str) (ps : List Str) (sp : Sp) : Prop :=
  ∃ f fd, FnOk P w K mg base CX k f fd ps sp ∧ mg x = some (.ref f) ∧ PySem.W.keepIn K (.ref f) = true ∧ Binds K fd ps []
/-- a property of the class, with its promise -/
def HasP (P : Program) (w : World) (K : PySem.W.Frag) (mg : Str → Option Value) (base : Heap) (k : Nat) (C : Addr) (x : Str) (sp : Sp) : Prop :=
  ∃ p g fd, PropOf K C x p g ∧ FnOk P w K mg base CX0 k g fd ["self"] sp ∧ Binds K fd ["self"] []
/-- a method of the class, called by position and by its keyword -/
def HasM (P : Program) (w : World) (K : PySem.W.Frag) (mg : Str → Option Value) (base : Heap) (CX : CXT) (k : Nat) (C : Addr) (x a : Str) (sp : Sp) : Prop :=
  ∃ f fd, Meth K C x f ∧ FnOk P w K mg base CX k f fd ["self", a] sp ∧ Binds K fd ["self", a] [] ∧ ∃ g gV, KBn K fd ["self", a] 1 [a] g gV ∧ ∀ x y, gV [x] [y] = [x, y]
/-- the class Area is made -/
def MakeA (P : Program) (w : World) (K : PySem.W.Frag) (mg : Str → Option Value) (base : Heap) (C CB : Addr) : Prop :=
  ∃ fI fdI, Mk K C fI ∧ FnOk P w K mg base (L2.CX P w) 5 fI fdI ["self", "begin", "many", "shift"] (spAInit C CB) ∧ Binds K fdI ["self", "begin", "many", "shift"] []
/-- an error without attributes -/
structure PlainE (K : PySem.W.Frag) (mg : Str → Option Value) (n : Str) (CB : Addr) : Prop where
  g : mg n = some (.ref CB)
  x : PySem.W.excIn K CB [.type "ValueError", .type "Exception", .type "BaseException", .type "object"] "ValueError.__new__" = true
  k : PySem.W.keepIn K (.ref CB) = true
  b : PySem.W.subIn K (.ref CB) (.type "BaseException") = some true
  t : PySem.W.typeIn K (.ref CB) = some (.type "type")
section
variable {P : Program} {w : World} {K : PySem.W.Frag} {mg : Str → Option Value} {base : Heap}
theorem scACut : FnScope ["self", "at"] ["self", "at"] (defScope sACut) := ⟨rfl, rfl, rfl, by decide +kernel, rfl, by decide +kernel, by decide +kernel⟩
theorem ok_cut {f fH C CB CN : Addr} {fd fdH : FuncData} (F : Fun K "cut" "Area.cut" sACut f fd) (TA : ArT K C) (mC : mg "Area" = some (.ref C)) (mH : Meth K C "has" fH) (GH : FnOk P w K mg base CX0 2 fH fdH ["self", "place"] (spHas C)) (bH : Binds K fdH ["self", "place"] []) (Np : SupE P w K mg base "NoPlace" "place" CN)
    (MA : MakeA P w K mg base C CB) (HE : HasP P w K mg base 1 C "end" (spEnd C)) :
    FnOk P w K mg base (L2.CX P w) 7 f fd ["self", "at"] (spCut C CN) := by
  obtain ⟨gN, TN, fN, fdN, iN, tN, GN, bN⟩ := Np
  obtain ⟨fI, fdI, MI, GI, bI⟩ := MA
  obtain ⟨pE, gE, dE, PE_, GE, BE⟩ := HE
  refine F.okX scACut (fun vs H Q E h => ?_) (fun cdv A outer s H vs Q E hr h => ?_)
  · obtain ⟨p, dx, b, m, z, y, rfl, _⟩ := h
    rfl
  · obtain ⟨p, dx, b, m, z, y, rfl, hp, hst, hy, k1, k2⟩ := h
    have hr1 := hr.mono (show 1 ≤ 6 by decide)
    have hr2 := hr.mono (show 2 ≤ 6 by decide)
    refine ⟨_, pss_cons (ps_if (PW.pt (pw_or (pt_not (pt_val (pe_meth (pv 0) TA.cl mH GH hr2 bH .nil pass0 (pa_cons (pv 1) pa_nil)))) (pw_or1 (pt_cmpR (op_eqD hr.units) (pv 1) (pe_fld (pv 0) rfl) (nomark _)))))
        (pss_one (ps_raise rfl (takes_of rfl rfl rfl rfl) (pmk_oex TN iN tN GN hr2 bN .nil pass0 rfl gN (pa_cons (pv 1) pa_nil)))) pss_nil)
      (pss_one (ps_ret (pe_tup (pa_cons (pe_make MI GI hr rfl mC bI .nil (passL) (pa_cons (pe_fld (pv 0) rfl) (pa_cons (pe_op op_sub (pv 1) (pe_fld (pv 0) rfl)) (pa_cons (pe_fld (pv 0) rfl) pa_nil))))
        (pa_cons (pe_make MI GI hr rfl mC bI .nil (passL) (pa_cons (pv 1) (pa_cons (pe_op op_sub (pe_prop (pv 0) TA.cl PE_ GE hr2 BE .nil pass0 rfl) (pv 1)) (pa_cons (pe_fld (pv 0) rfl) pa_nil)))) pa_nil))))), ?_⟩
    have st := isS_iff.mp hst
    refine ⟨_, rfl, p, dx, _, rfl, hp, ArF_no _ _ _, _, rfl, ⟨p, dx, b, m, z, y, rfl, hp, hy, _, rfl, ?_⟩⟩
    cases e : inA b m y with
    | false => exact iteT (iteT ⟨y, rfl, by show 1 ≤ 1000; decide, mk_sup (k2 (.inl e))⟩)
    | true =>
      obtain ⟨i, rfl⟩ : ∃ i, y = .int i := by cases y <;> simp [inA] at e <;> exact ⟨_, rfl⟩
      have e' : b ≤ i ∧ i < b + m := by simpa [inA] using e
      refine iteF ⟨_, rfl, _, rfl, p, C, dx, _, _, rfl, hp, TA.cl, TA.n1, ArF_1 _ _ _, .int i, .int b, .int _, .int _, rfl, rfl, _, rfl, ?_⟩
      rw [show PyData.eqv (.int i) (.int b) = decide (i = b) from by by_cases z : i = b <;> simp [PyData.eqv, z]]
      by_cases ib : i = b
      · subst ib
        rw [decide_eq_true rfl]
        exact iteT ⟨.int i, rfl, by show 1 ≤ 1000; decide, mk_sup (k2 (.inr rfl))⟩
      · rw [decide_eq_false ib]
        refine iteF ?_
        refine ⟨_, rfl, p, C, dx, _, _, rfl, hp, TA.cl, TA.n1, ArF_1 _ _ _, _, rfl, _, rfl, p, C, dx, _, _, rfl, hp, TA.cl, TA.n1, ArF_1 _ _ _, _, _, rfl, rfl, _, rfl, p, C, dx, _, _, rfl, hp, TA.cl, TA.n3, ArF_3 _ _ _, ?_⟩
        refine fun q1 d1 nq nd ne => mk_one nq nd ne (.int _) (.int _) (.int _) (okA_ints (isS_iff.mpr ⟨st.1, by omega, by omega⟩)) fun H1 s1 h1 => ⟨rfl, ?_⟩
        have hp1 := s1 _ _ hp
        refine ⟨_, rfl, _, rfl, p, dx, _, rfl, hp1, ⟨p, dx, b, m, _, rfl, hp1, ?_⟩⟩
        refine ⟨_, rfl, _, _, rfl, rfl, _, rfl, p, C, dx, _, _, rfl, hp1, TA.cl, TA.n3, ArF_3 _ _ _, ?_⟩
        refine fun q2 d2 nq2 nd2 ne2 => mk_one nq2 nd2 ne2 (.int _) (.int _) (.int _) (okA_ints (isS_iff.mpr ⟨by omega, by omega, by omega⟩)) fun H2 s2 h2 => ⟨rfl, ?_⟩
        refine ⟨by show 2 ≤ sizeLine; decide, fun t nt => ?_⟩
        generalize eH3 : upd H2 t _ = H3
        have s3 : Same H2 H3 := by rw [← eH3]; exact sameNew nt
        have a3 : H3 t = some (HO.tup [V.ref q1, V.ref q2] : HO) := by rw [← eH3]; exact upd_same
        clear eH3
        exact k1 i rfl (by omega) (by omega) t q1 d1 q2 d2 H3 (s1.trans (s2.trans s3)) a3 (s3 _ _ (s2 _ _ h1)) (s3 _ _ h2)
theorem scAMove : FnScope ["self", "to"] ["self", "to"] (defScope sAMove) := ⟨rfl, rfl, rfl, by decide +kernel, rfl, by decide +kernel, by decide +kernel⟩
theorem ok_move {f C CB : Addr} {fd : FuncData} (F : Fun K "moved" "Area.moved" sAMove f fd) (TA : ArT K C) (mC : mg "Area" = some (.ref C)) (MA : MakeA P w K mg base C CB) (HN : Has P w K mg base (L2.CX P w) 4 "need_stretch" ["begin", "many"] (spNeed CB)) :
    FnOk P w K mg base (L2.CX P w) 7 f fd ["self", "to"] (spMove C CB) := by
  obtain ⟨fI, fdI, MI, GI, bI⟩ := MA
  obtain ⟨fN, fdN, GN, mN, kN, bN⟩ := HN
  refine F.okX scAMove (fun vs H Q E h => ?_) (fun cdv A outer s H vs Q E hr h => ?_)
  · obtain ⟨p, dx, b, m, z, y, rfl, _⟩ := h
    rfl
  · obtain ⟨p, dx, b, m, z, y, rfl, hp, hy, k1, k2⟩ := h
    have hr4 := hr.mono (show 4 ≤ 6 by decide)
    refine ⟨_, pss_cons (ps_expr (pe_call GN hr4 rfl mN kN bN .nil (passes_call (takes_of rfl rfl rfl rfl) (fun _ _ _ _ h => h)) (pa_cons (pv 1) (pa_cons (pe_fld (pv 0) rfl) pa_nil))))
      (pss_one (ps_ret (pe_make MI GI hr rfl mC bI .nil (passes_call (takes_of rfl rfl rfl rfl) (fun _ _ _ _ h => h)) (pa_cons (pv 1) (pa_cons (pe_fld (pv 0) rfl) (pa_cons (pe_op op_sub (pe_op op_add (pe_fld (pv 0) rfl) (pe_fld (pv 0) rfl)) (pv 1)) pa_nil)))))), ?_⟩
    refine ⟨_, rfl, _, rfl, p, C, dx, _, _, rfl, hp, TA.cl, TA.n2, ArF_2 _ _ _, y, .int m, rfl, hy, .int m, fun e => ?_, fun e => k2 e⟩
    obtain ⟨i, rfl⟩ : ∃ i, y = .int i := by cases y <;> simp [isS] at e <;> exact ⟨_, rfl⟩
    refine ⟨_, rfl, _, rfl, p, C, dx, _, _, rfl, hp, TA.cl, TA.n2, ArF_2 _ _ _, _, rfl, p, C, dx, _, _, rfl, hp, TA.cl, TA.n3, ArF_3 _ _ _, _, rfl, p, C, dx, _, _, rfl, hp, TA.cl, TA.n1, ArF_1 _ _ _, _, _, rfl, rfl, _, rfl, _, _, rfl, rfl, ?_⟩
    exact fun q dq nq nd ne => mk_one nq nd ne (.int _) (.int _) (.int _) (okA_ints e) fun H1 s1 h1 => ⟨rfl, k1 i rfl e q dq H1 s1 h1⟩
/-- what isinstance says of the builtin kinds and the class -/
structure NotA (K : PySem.W.Frag) (C : Addr) : Prop where
  k : ∀ t ∈ ["NoneType", "bool", "int", "str", "list", "tuple", "dict"], PySem.W.kitOne K (.type t) (.ref C) = some false
theorem AnyV.no {C : Addr} {H : Hp} {v : V} (N : NotA K C) (h : AnyV H v) : ∃ t : String, TyX K H v (.type t) ∧ PySem.W.kitOne K (.type t) (.ref C) = some false := by
  cases h with
  | non => exact ⟨_, .base .non, N.k _ (by decide)⟩
  | bl b => exact ⟨_, .base (.bl b), N.k _ (by decide)⟩
  | int i => exact ⟨_, .base (.int i), N.k _ (by decide)⟩
  | str x => exact ⟨_, .base (.str x), N.k _ (by decide)⟩
  | lst e => exact ⟨_, .base (.lst e), N.k _ (by decide)⟩
  | tup e => exact ⟨_, .base (.tup e), N.k _ (by decide)⟩
  | dK e => exact ⟨_, .base (.dK e), N.k _ (by decide)⟩
theorem scAJoin : FnScope ["self", "other"] ["self", "other"] (defScope sAJoin) := ⟨rfl, rfl, rfl, by decide +kernel, rfl, by decide +kernel, by decide +kernel⟩
theorem eqv_int (i j : Int) : PyData.eqv (.int i) (.int j) = decide (i = j) := by by_cases z : i = j <;> simp [PyData.eqv, z]
theorem ok_join {f C CB CJ : Addr} {fd : FuncData} (F : Fun K "joined" "Area.joined" sAJoin f fd) (T : TC K mg) (TA : ArT K C) (TI : InT K C) (NA : NotA K C) (mC : mg "Area" = some (.ref C)) (BJ : PlainE K mg "NoJoin" CJ)
    (MA : MakeA P w K mg base C CB) (HE : HasP P w K mg base 1 C "end" (spEnd C)) :
    FnOk P w K mg base (L2.CX P w) 7 f fd ["self", "other"] (spJoin C CJ) := by
  obtain ⟨fI, fdI, MI, GI, bI⟩ := MA
  obtain ⟨pE, gE, dE, PE_, GE, BE⟩ := HE
  refine F.okX scAJoin (fun vs H Q E h => ?_) (fun cdv A outer s H vs Q E hr h => ?_)
  · obtain ⟨p, dx, b, m, z, y, rfl, _⟩ := h
    rfl
  · obtain ⟨p, dx, b, m, z, y, rfl, hp, hst, h⟩ := h
    have hr2 := hr.mono (show 2 ≤ 6 by decide)
    refine ⟨_, pss_cons (ps_if (PW.pt (pw_or (pt_not (pt_val (pe_callB call_isV (by rfl) T.isinstance_ PyProof.Rows.boot_isinstance (pa_cons (pv 1) (pa_cons (pe_glob (v := .ref C) rfl mC rfl) pa_nil)))))
          (pw_or (pt_cmpR (op_neD hr.units) (pe_fld (pv 1) rfl) (pe_prop (pv 0) TA.cl PE_ GE hr2 BE .nil pass0 rfl) (nomark _)) (pw_or1 (pt_cmpR (op_neD hr.units) (pe_fld (pv 1) rfl) (pe_fld (pv 0) rfl) (nomark _))))))
        (pss_one (ps_raise rfl (takes_of rfl rfl rfl rfl) (pmk_own PySem.F.excBase_ValueError BJ.x BJ.g BJ.k (raises_own BJ.b BJ.t) (by exact rfl)))) pss_nil)
      (pss_one (ps_ret (pe_make MI GI hr rfl mC bI .nil (passL) (pa_cons (pe_fld (pv 0) rfl) (pa_cons (pe_op op_add (pe_fld (pv 0) rfl) (pe_fld (pv 1) rfl)) (pa_cons (pe_fld (pv 0) rfl) pa_nil)))))), ?_⟩
    rcases h with ⟨q, dy, b', m', z', rfl, hq, hst', k1, k2⟩ | ⟨hy, k⟩
    · refine ⟨_, rfl, _, _, _, _, _, rfl, .own C, TI.ty hq, kit_self, _, rfl, iteF ?_⟩
      refine ⟨_, rfl, q, C, dy, _, _, rfl, hq, TA.cl, TA.n1, ArF_1 _ _ _, _, rfl, p, dx, _, rfl, hp, ⟨p, dx, b, m, _, rfl, hp, ?_⟩⟩
      refine ⟨.int b', .int (b + m), .int _, .int _, rfl, rfl, _, rfl, ?_⟩
      rw [eqv_int]
      by_cases e1 : b' = b + m
      · rw [decide_eq_true e1]
        refine iteF ⟨_, rfl, q, C, dy, _, _, rfl, hq, TA.cl, TA.n3, ArF_3 _ _ _, _, rfl, p, C, dx, _, _, rfl, hp, TA.cl, TA.n3, ArF_3 _ _ _, .int z', .int z, .int _, .int _, rfl, rfl, _, rfl, ?_⟩
        rw [eqv_int]
        by_cases e2 : z' = z
        · rw [decide_eq_true e2]
          refine iteF ?_
          have st := isS_iff.mp hst
          have st' := isS_iff.mp hst'
          refine ⟨_, rfl, p, C, dx, _, _, rfl, hp, TA.cl, TA.n1, ArF_1 _ _ _, _, rfl, p, C, dx, _, _, rfl, hp, TA.cl, TA.n2, ArF_2 _ _ _, _, rfl, q, C, dy, _, _, rfl, hq, TA.cl, TA.n2, ArF_2 _ _ _, _, _, rfl, rfl, _, rfl, p, C, dx, _, _, rfl, hp, TA.cl, TA.n3, ArF_3 _ _ _, ?_⟩
          exact fun r dr nq nd ne => mk_one nq nd ne (.int _) (.int _) (.int _) (okA_ints (isS_iff.mpr ⟨st.1, by omega, by omega⟩)) fun H1 s1 h1 => ⟨rfl, k1 e1 e2 r dr H1 s1 h1⟩
        · rw [decide_eq_false e2]
          exact iteT (k2 fun z => e2 z.2)
      · rw [decide_eq_false e1]
        exact iteT (iteT (k2 fun z => e1 z.1))
    · obtain ⟨t, ty, hk⟩ := hy.no (K := K) NA
      exact ⟨_, rfl, _, _, _, _, _, rfl, .own C, .base ty, hk, _, rfl, iteT (iteT k)⟩
end
end Bm
set_option maxRecDepth 100000
set_option maxHeartbeats 4000000
namespace Bm
open PySem L2 L3 LamX
abbrev sTold : Stmt := top 20
/-- the errors' classes as they are asked -/
structure ErK (K : PySem.W.Frag) (mg : Str → Option Value) (CN CJ CB CM : Addr) : Prop where
  gN : mg "NoPlace" = some (.ref CN)
  gJ : mg "NoJoin" = some (.ref CJ)
  gB : mg "BadArea" = some (.ref CB)
  gM : mg "MapError" = some (.ref CM)
  eN : L2.ExcC K CN
  eJ : L2.ExcC K CJ
  eB : L2.ExcC K CB
  mN : PySem.W.exmOne K (.ref CN) (.ref CM) = some true
  mJ : PySem.W.exmOne K (.ref CJ) (.ref CM) = some true
  mB : PySem.W.exmOne K (.ref CB) (.ref CM) = some true
  NJ : PySem.W.kitOne K (.ref CN) (.ref CJ) = some false
  NB : PySem.W.kitOne K (.ref CN) (.ref CB) = some false
  JN : PySem.W.kitOne K (.ref CJ) (.ref CN) = some false
  JB : PySem.W.kitOne K (.ref CJ) (.ref CB) = some false
  BN : PySem.W.kitOne K (.ref CB) (.ref CN) = some false
  BJ : PySem.W.kitOne K (.ref CB) (.ref CJ) = some false
  xf : XfC K CN
  no : PySem.W.findIn K (.ref CN) "place" = some none
/-- what is wished of an exception of the lambda -/
def XTold (CN CJ CB : Addr) (Q : VK) : XK := fun cls d H =>
  (cls = .ref CN ∧ ∃ dd v p, d = some dd ∧ H dd = some (.xd [("place", v)]) ∧ ThV H v p ∧ Fits p ∧ ∀ H', Same H H' → Q (.str (("place" : Str) ++ (" " ++ p.shown))) H') ∨
  (cls = .ref CJ ∧ d = none ∧ ∀ H', Same H H' → Q (.str "join") H') ∨ (cls = .ref CB ∧ d = none ∧ ∀ H', Same H H' → Q (.str "area") H')
/-- what _law_told makes of a lambda's reading -/
def TTTold (CN CJ CB : Addr) : (XK → Hp → VK → Prop) → Hp → VK → Prop := fun tl H Q =>
  ∀ (H1 : Hp) (E' : XK) (Q' : VK), Same H H1 → (∀ v H', Q v H' → Q' v H') → (∀ cls d H', XTold CN CJ CB Q cls d H' → E' cls d H') → tl E' H1 Q'
abbrev NT : List Str := ["_law_work", "_law_found", "_law_caught", "error", "_law_marks"]
theorem scTold : FnScope NT ["_law_work"] (defScope sTold) := ⟨rfl, rfl, rfl, by decide +kernel, rfl, by decide +kernel, by decide +kernel⟩
theorem told_marks {K : PySem.W.Frag} {mg : Str → Option Value} {CN CJ CB CM : Addr} (Er : ErK K mg CN CJ CB CM) {cls : Value} {d : Option Addr} {H : Hp} {a : Addr} {Q : VK} (h : XTold CN CJ CB Q cls d H) (na : H a = none) :
    ∃ (D : Addr) (i : Nat) (b1 b2 b3 : Bool) (w : Str), cls = .ref D ∧ TyV K (upd H a (ExV cls d a)) (.ref a) (.ref D) ∧ (∀ H', Same (upd H a (ExV cls d a)) H' → TyV K H' (.ref a) (.ref D)) ∧ PySem.W.kitOne K (.ref D) (.ref CN) = some b1 ∧ PySem.W.kitOne K (.ref D) (.ref CJ) = some b2 ∧ PySem.W.kitOne K (.ref D) (.ref CB) = some b3 ∧
      [b1, b2, b3].count true = 1 ∧ [b1, b2, b3][i]? = some true ∧ (∀ m, m < i → [b1, b2, b3][m]? = some false) ∧ [(("place" : Str)), "join", "area"][i]? = some w ∧
      ((b1 = true ∧ w = "place" ∧ D = CN ∧ ∃ dd v p, d = some dd ∧ H dd = some (.xd [("place", v)]) ∧ ThV H v p ∧ Fits p ∧ ∀ H', Same H H' → Q (.str (("place" : Str) ++ (" " ++ p.shown))) H') ∨ (b1 = false ∧ w.length ≤ 5 ∧ ∀ H', Same H H' → Q (.str (w ++ "")) H')) := by
  rcases h with ⟨rfl, dd, v, p, rfl, hd, ht, hf, k⟩ | ⟨rfl, rfl, k⟩ | ⟨rfl, rfl, k⟩
  · have ty : ∀ H', Same (upd H a (ExV (.ref CN) (some dd) a)) H' → TyV K H' (.ref a) (.ref CN) := fun H' s => .excd (fs := [("place", v)]) (s _ _ upd_same) (s _ _ (by rw [upd_ne (ne_of_none hd na)]; exact hd)) Er.eN (by show ¬ ("__class__" : Str) ∈ [("place" : Str)]; decide +kernel)
    exact ⟨CN, 0, true, false, false, "place", rfl, ty _ (Same.refl _), ty, kit_self, Er.NJ, Er.NB, by decide, rfl, fun m hm => absurd hm (Nat.not_lt_zero _), rfl, .inl ⟨rfl, rfl, rfl, dd, v, p, rfl, hd, ht, hf, k⟩⟩
  · have ty : ∀ H', Same (upd H a (ExV (.ref CJ) none a)) H' → TyV K H' (.ref a) (.ref CJ) := fun H' s => .exc (s _ _ upd_same) Er.eJ
    refine ⟨CJ, 1, false, true, false, "join", rfl, ty _ (Same.refl _), ty, Er.JN, kit_self, Er.JB, by decide, rfl, fun m hm => ?_, rfl, .inr ⟨rfl, by decide, fun H' s => ?_⟩⟩
    · obtain rfl : m = 0 := by omega
      rfl
    · exact k H' s
  · have ty : ∀ H', Same (upd H a (ExV (.ref CB) none a)) H' → TyV K H' (.ref a) (.ref CB) := fun H' s => .exc (s _ _ upd_same) Er.eB
    refine ⟨CB, 2, false, false, true, "area", rfl, ty _ (Same.refl _), ty, Er.BN, Er.BJ, kit_self, by decide, rfl, fun m hm => ?_, rfl, .inr ⟨rfl, by decide, fun H' s => ?_⟩⟩
    · have : m = 0 ∨ m = 1 := by omega
      rcases this with rfl | rfl <;> rfl
    · exact k H' s
theorem told_gives {X : Cx} {g CN CJ CB CM : Addr} {cdg : Value} {q : Str} (gd : X.A.guards = some []) (hr : Room 1 X.A) (T : TC X.K X.mg) (repr_ : X.mg "repr" = none) (Er : ErK X.K X.mg CN CJ CB CM) :
    GivesTo X NT "_law_told" (defScope sTold) g cdg (defBody sTold) "_law_work" q (TTTold CN CJ CB) := by
  intro f c' s H Q tl act hc h
  have hr0 : Room 0 (X.A.deeper (PyProof.Rows.envOfC "_law_told" (defScope sTold) s.heap.objs.size g cdg)) := hr.deeper _
  have isk : ∀ (Y : Cx) (CC : Addr) (n : Str), True := fun _ _ _ => trivial
  refine ⟨_, pss_cons (ps_asg (pe_tup (pa_cons pe_non (pa_cons pe_non pa_nil))) (pg_tup (by rfl) (pgs_cons (pg_name (i := 1) scTold.nd rfl (Or.inl rfl)) (pgs_cons (pg_name (i := 2) scTold.nd rfl (Or.inl rfl)) pgs_nil))))
    (pss_cons (ps_try_trk (c := .ref CM) (i := 3) (ts := fun _ => tAsg (tVar 3) (gName 2))
        (tb := fun W => tAsg (fun σZ HZ Q => σZ[0]? = some (some (.ref f)) ∧ HZ c' = some (CodeO c' q) ∧ ∃ E : XK, (∀ cls d σ' H', E cls d H' → W cls d σ' H') ∧ tl E HZ Q) (gName 1))
        rfl rfl scTold.nd rfl rfl ⟨rfl, by decide, Or.inl Er.gM⟩
        (fun W pn xe tk _ => pss_one (ps_set (i := 1) scTold.nd rfl (Or.inl rfl) ⟨fun pins s1 τ G R I hx => (act W pn xe hx.2.2.choose _ _ tk hx.2.2.choose_spec.1).run pins s1 τ G R I ⟨hx.1, hx.2.1, hx.2.2.choose_spec.2⟩⟩))
        (fun a pn => pss_one (ps_set (i := 2) scTold.nd rfl (Or.inl rfl) (pv 3))))
    (pss_cons (ps_if (pt_cmpR op_isN (pv 2) pe_non (nomark _)) (pss_one (ps_ret (pv 1))) pss_nil)
    (pss_cons (ps_set (i := 4) scTold.nd rfl (Or.inl rfl) (pe_lst (pa_cons (pe_callB (r := rIsV X.K) call_isV (by rfl) T.isinstance_ PyProof.Rows.boot_isinstance (pa_cons (pv 2) (pa_cons (pe_glob (v := .ref CN) rfl Er.gN rfl) pa_nil)))
        (pa_cons (pe_callB (r := rIsV X.K) call_isV (by rfl) T.isinstance_ PyProof.Rows.boot_isinstance (pa_cons (pv 2) (pa_cons (pe_glob (v := .ref CJ) rfl Er.gJ rfl) pa_nil)))
        (pa_cons (pe_callB (r := rIsV X.K) call_isV (by rfl) T.isinstance_ PyProof.Rows.boot_isinstance (pa_cons (pv 2) (pa_cons (pe_glob (v := .ref CB) rfl Er.gB rfl) pa_nil))) pa_nil)))))
    (pss_cons (ps_if (pt_cmpR op_ne (pe_bm PySem.F.plainAttrs_list PySem.F.slot_list_count PySem.F.type_list_count mt_countB (pv 4) (pa_cons pe_bl pa_nil)) pe_int (nomark _)) (pss_one (ps_ret pe_str)) pss_nil)
    (pss_one (ps_ret (pe_op op_add_str (pe_ix ix_list (pe_lst (pa_cons pe_str (pa_cons pe_str (pa_cons pe_str pa_nil)))) (pe_bm PySem.F.plainAttrs_list PySem.F.slot_list_index PySem.F.type_list_index mt_index (pv 4) (pa_cons pe_bl pa_nil)) (fun _ _ => rfl))
      (pe_ifExp (pt_val (pe_ix ix_list (pv 4) pe_int (fun _ _ => rfl))) (pe_op op_add_str pe_str (pe_callB (r := rRepr) (call_repr gd hr0) (by rfl) repr_ PyProof.Rows.boot_repr (pa_cons (pe_exf Er.xf Er.no (pv 2)) pa_nil))) pe_str)))))))), ?_⟩
  refine ⟨by show 2 ≤ sizeLine; decide, fun t nt => ?_⟩
  generalize eH1 : upd H t _ = H1
  have s1 : Same H H1 := by rw [← eH1]; exact sameNew nt
  have a1 : H1 t = some (HO.tup [V.non, V.non] : HO) := by rw [← eH1]; exact upd_same
  clear eH1
  refine ⟨t, _, rfl, SqT.of a1, rfl, _, _, rfl, _, _, rfl, rfl, ?_⟩
  refine ⟨rfl, s1 _ _ hc, XTold CN CJ CB Q, fun cls d σ' H' hE hl => ⟨?_, fun a na => ?_⟩, ?_⟩
  · rcases hE with ⟨rfl, _⟩ | ⟨rfl, _⟩ | ⟨rfl, _⟩
    · exact Er.mN
    · exact Er.mJ
    · exact Er.mB
  · obtain ⟨D, i, b1, b2, b3, wd, rfl, ty0, ty, k1, k2, k3, cnt, at_, before, word, fin⟩ := told_marks Er hE na
    match σ', hl with
    | [v0, v1, v2, v3, v4], _ =>
      refine ⟨_, rfl, _, rfl, rfl, _, rfl, iteF ?_⟩
      have sa := sameNew (o := ExV (.ref D) d a) na
      have ea : upd H' a (ExV (.ref D) d a) a = some (ExV (.ref D) d a) := upd_same
      generalize upd H' a (ExV (.ref D) d a) = H2 at ty0 ty sa ea ⊢
      refine ⟨_, rfl, _, _, _, _, _, rfl, .own CN, ty0, k1, ?_⟩
      refine ⟨_, rfl, _, _, _, _, _, rfl, .own CJ, ty0, k2, ?_⟩
      refine ⟨_, rfl, _, _, _, _, _, rfl, .own CB, ty0, k3, ?_⟩
      refine ⟨by show 3 ≤ sizeLine; decide, fun L nL => ?_⟩
      generalize eH3 : upd H2 L _ = H3
      have s3 : Same H2 H3 := by rw [← eH3]; exact sameNew nL
      have a3 : H3 L = some (HO.lst [V.bl b1, V.bl b2, V.bl b3] : HO) := by rw [← eH3]; exact upd_same
      clear eH3
      refine ⟨_, rfl, .inl ⟨rfl, _, SqL.of a3⟩, L, [b1, b2, b3], true, rfl, rfl, SqL.of a3, ?_⟩
      rw [cnt]
      refine ⟨rfl, _, rfl, iteF ?_⟩
      refine ⟨by show 3 ≤ sizeLine; decide, fun M nM => ?_⟩
      generalize eH4 : upd H3 M _ = H4
      have s4 : Same H3 H4 := by rw [← eH4]; exact sameNew nM
      have a4 : H4 M = some (HO.lst [V.str "place", V.str "join", V.str "area"] : HO) := by rw [← eH4]; exact upd_same
      clear eH4
      have look : ([b1, b2, b3].map V.bl)[i]? = some (.bl true) := by rw [List.getElem?_map, at_]; rfl
      have early : ∀ (m : Nat) (z' : V), m < i → ([b1, b2, b3].map V.bl)[m]? = some z' → eqV z' (.bl true) = false := fun m z' hm hz => by
        rw [List.getElem?_map, before m hm] at hz
        cases hz
        rfl
      have a34 : H4 L = some (.lst ([b1, b2, b3].map V.bl)) := s4 _ _ a3
      refine ⟨_, rfl, .inl ⟨rfl, _, SqL.of a34⟩, L, [b1, b2, b3].map V.bl, .bl true, i, .bl true, rfl, rfl, SqL.of a34, rfl, rfl, look, rfl, early, ?_⟩
      have word' : atI [V.str "place", V.str "join", V.str "area"] (i : Nat) = some (.str wd) := atI_nat (by
        rw [show [V.str "place", V.str "join", V.str "area"] = [("place" : Str), "join", "area"].map V.str from rfl, List.getElem?_map, word]
        rfl)
      refine ⟨M, _, _, _, rfl, rfl, SqL.of a4, word', ?_⟩
      have s24 := s3.trans s4
      have s04 := sa.trans s24
      refine ⟨_, rfl, _, _, _, _, rfl, rfl, SqL.of a34, rfl, _, rfl, ?_⟩
      rcases fin with ⟨rfl, rfl, rfl, dd, v, p, rfl, hd, ht, hf, k⟩ | ⟨rfl, hw, k⟩
      · refine iteT ?_
        have hp : p.shown.length ≤ 10000 := hf.2.1
        refine ⟨_, rfl, a, dd, _, v, rfl, s24 _ _ ea, s04 _ _ hd, rfl, v, p, rfl, ht.mono (fun b o _ e _ => s04 _ _ e), hf, ?_⟩
        refine ⟨" ", p.shown, rfl, rfl, ?_, "place", _, rfl, rfl, ?_, k _ s04⟩
        · rw [sizeLine_eq, show (" " : Str).length = 1 from by decide +kernel]
          omega
        · rw [sizeLine_eq, Str.length_append, show (" " : Str).length = 1 from by decide +kernel, show ("place" : Str).length = 5 from by decide +kernel]
          omega
      · refine iteF ⟨wd, "", rfl, rfl, ?_, k _ s04⟩
        rw [sizeLine_eq, show ("" : Str).length = 0 from by decide +kernel]
        omega
  · refine h H1 _ _ s1 (fun v H' hv => ?_) (fun cls d H' hx => hx)
    exact ⟨_, rfl, rfl, _, rfl, iteT ⟨_, rfl, hv⟩⟩
end Bm
set_option maxRecDepth 100000
set_option maxHeartbeats 4000000
namespace Bm
open PySem L2 L3 LamX
abbrev sNear : Stmt := top 22
/-- a value drawn, new if it is an object -/
def NewV (H H' : Hp) (v : V) : Prop := (∃ p, ThV H' v p ∧ Fits p) ∧ ∀ a, v = .ref a → H a = none
def spNear : Sp := fun vs H Q _ => ∃ (d st : Addr) (b m : Int), vs = [.ref d, .int b, .int m] ∧ Dr d st H ∧ isS (.int b) (.int m) = true ∧ ∀ (v : V) (p : PyData) (H' : Hp), ThV H' v p → Fits p → (∀ a, v = .ref a → H a = none) → Dr d st H' → Kp d st H H' → Q v H'
section
variable {P : Program} {w : World} {K : PySem.W.Frag} {mg : Str → Option Value} {base : Heap}
theorem scNear : FnScope ["_law_draw_here", "_law_first", "_law_size", "_law_some"] ["_law_draw_here", "_law_first", "_law_size"] (defScope sNear) := ⟨rfl, rfl, rfl, by decide +kernel, rfl, by decide +kernel, by decide +kernel⟩
theorem ok_near {f : Addr} {fd : FuncData} (F : Fun K "_law_near" "_law_near" sNear f fd) (HD : Has P w K mg base CX0 1 "_law_draw" ["_law_draw_here", "_law_below"] spDraw) (HP : Has P w K mg base CX0 2 "_law_pick" ["_law_draw_here", "_law_some"] spPick) (HT : Has P w K mg base CX0 3 "_law_thing" ["_law_draw_here"] spThing) :
    FnOk P w K mg base CX0 4 f fd ["_law_draw_here", "_law_first", "_law_size"] spNear := by
  obtain ⟨fD, fdD, GD, mD, kD, bD⟩ := HD
  obtain ⟨fP, fdP, GP, mP, kP, bP⟩ := HP
  obtain ⟨fT, fdT, GT, mT, kT, bT⟩ := HT
  refine F.ok scNear (fun vs H Q E h => ?_) (fun cdv A outer s H vs Q E hr h => ?_)
  · obtain ⟨d, st, b, m, rfl, _⟩ := h
    rfl
  · obtain ⟨d, st, b, m, rfl, D, hs, k⟩ := h
    have st' := isS_iff.mp hs
    have hr1 := hr.mono (show 1 ≤ 3 by decide)
    have hr2 := hr.mono (show 2 ≤ 3 by decide)
    refine ⟨_, pss_cons (ps_set (i := 3) scNear.nd rfl (Or.inl rfl) (pe_lst (pa_cons (pv 1) (pa_cons (pe_op op_sub (pe_op op_add (pv 1) (pv 2)) pe_int) (pa_cons (pe_op op_add (pv 1) (pv 2)) (pa_cons (pe_op op_sub (pv 1) pe_int) (pa_cons (pe_op op_add (pv 1) pe_int)
        (pa_cons (pe_op op_add (pv 1) (pe_call GD hr1 rfl mD kD bD .nil pass0 (pa_cons (pv 0) (pa_cons (pv 2) pa_nil)))) pa_nil))))))))
      (pss_one (ps_ret (pe_call GP hr2 rfl mP kP bP .nil pass0 (pa_cons (pv 0) (pa_cons (pe_op op_cat (pv 3) (pe_lst (pa_cons (pe_call GT hr rfl mT kT bT .nil pass0 (pa_cons (pv 0) pa_nil)) pa_nil))) pa_nil))))), ?_⟩
    refine ⟨_, rfl, _, rfl, _, rfl, _, _, rfl, rfl, _, _, rfl, rfl, _, rfl, _, rfl, _, _, rfl, rfl, _, rfl, _, _, rfl, rfl, _, rfl, _, _, rfl, rfl, _, rfl, _, rfl, _, rfl, d, st, m, rfl, D, by omega, by omega, fun r H1 r0 r1 D1 K1 => ?_⟩
    refine ⟨_, _, rfl, rfl, by show 6 ≤ sizeLine; decide, fun L nL => ?_⟩
    obtain ⟨nLd, nLs⟩ := D1.ne (Same.refl _) nL
    generalize eH2 : upd H1 L _ = H2
    have s2 : Same H1 H2 := by rw [← eH2]; exact sameNew nL
    have a2 : H2 L = some (HO.lst [V.int b, V.int (b + m - 1), V.int (b + m), V.int (b - 1), V.int (b + 1), V.int (b + r)] : HO) := by rw [← eH2]; exact upd_same
    clear eH2
    refine ⟨_, rfl, _, rfl, _, rfl, d, st, rfl, D1.same s2, fun v p H3 hv hf nv D3 K3 => ⟨by show 1 ≤ sizeLine; decide, fun M nM => ?_⟩⟩
    obtain ⟨nMd, nMs⟩ := D3.ne (Same.refl _) nM
    generalize eH4 : upd H3 M _ = H4
    have s4 : Same H3 H4 := by rw [← eH4]; exact sameNew nM
    have a4 : H4 M = some (HO.lst [v] : HO) := by rw [← eH4]; exact upd_same
    clear eH4
    refine ⟨L, M, _, _, rfl, rfl, s4 _ _ (K3 _ _ a2 nLd nLs), a4, by show 7 ≤ sizeLine; decide, fun R nR => ?_⟩
    obtain ⟨nRd, nRs⟩ := D3.ne s4 nR
    generalize eH5 : upd H4 R _ = H5
    have s5 : Same H4 H5 := by rw [← eH5]; exact sameNew nR
    have a5 : H5 R = some (HO.lst ([V.int b, V.int (b + m - 1), V.int (b + m), V.int (b - 1), V.int (b + 1), V.int (b + r)] ++ [v]) : HO) := by rw [← eH5]; exact upd_same
    clear eH5
    have s35 := s4.trans s5
    have K5 : Kp d st H H5 := ((K1.trans (Same.kp s2)).trans K3).trans (Same.kp s35)
    refine ⟨d, st, R, _, rfl, D3.same s35, a5, nRd, nRs, by show 0 < 7; decide, by show 7 < 1000000; decide, fun u H6 hu D6 K6 => ?_⟩
    have ne : ∀ a o, v = .ref a → H3 a = some o → a ≠ d ∧ a ≠ st := fun a o e _ => by
      have z := nv a e
      obtain ⟨ms, sp, mx, hd, hs, _⟩ := D1.same s2
      exact ⟨(fun q => by rw [q, hd] at z; cases z), (fun q => by rw [q, hs] at z; cases z)⟩
    have nw : ∀ a, v = .ref a → H a = none := fun a e => by
      cases q : H a with
      | none => rfl
      | some o =>
        have z := nv a e
        obtain ⟨ms, sp, mx, hd, hs, _⟩ := D1.same s2
        have n1 : a ≠ d := fun q => by rw [q, hd] at z; cases z
        have n2 : a ≠ st := fun q => by rw [q, hs] at z; cases z
        rw [s2 _ _ (K1 _ _ q n1 n2)] at z
        cases z
    rcases List.mem_append.mp hu with h | h
    · simp only [List.mem_cons, List.not_mem_nil, or_false] at h
      rcases h with rfl | rfl | rfl | rfl | rfl | rfl
      all_goals exact k _ _ H6 (.int _) (fits_small (by omega)) (fun a e => nomatch e) D6 (K5.trans K6)
    · obtain rfl := List.mem_singleton.mp h
      exact k _ p H6 (hv.mono fun a o e ho _ => K6 _ _ (s35 _ _ ho) (ne a o e ho).1 (ne a o e ho).2) hf nw D6 (K5.trans K6)
end
end Bm
set_option maxRecDepth 100000
set_option maxHeartbeats 4000000
namespace Bm
open PySem L2 L3 LamX
abbrev sPR : Stmt := top 23
abbrev sJR : Stmt := top 24
abbrev sMR : Stmt := top 25
/-- all but lists are kept -/
def ExtL (H H' : Hp) : Prop := ∀ b o, H b = some o → (∀ xs, o ≠ .lst xs) → H' b = some o
theorem codeO_nl {c : Addr} {q : Str} (xs : List V) : CodeO c q ≠ .lst xs := fun z => by
  unfold CodeO at z
  cases z
theorem tabs_extL {T : List (Addr × Str)} {H H' : Hp} (t : Tabs T H) (e : ExtL H H') : Tabs T H' := fun p hp => by
  obtain ⟨ps, h1, h2, h3⟩ := t p hp
  refine ⟨ps, e _ _ h1 (fun xs z => by cases z), h2, fun pos cv hc => ?_⟩
  obtain ⟨c, e1, e2⟩ := h3 pos cv hc
  exact ⟨c, e1, e _ _ e2 codeO_nl⟩
theorem Dr.extN {d st : Addr} {H H' : Hp} (D : Dr d st H) (e : ExtN H H') : Dr d st H' := by
  obtain ⟨ms, sp, mx, hd, hs, h⟩ := D
  exact ⟨ms, sp, mx, e _ _ hd (fun ps z => by cases z), e _ _ hs (fun ps z => by cases z), h⟩
theorem Dr.kpL {d st : Addr} {H H' : Hp} (D : Dr d st H) (k : Kp d st H H') : ExtL H H' := fun b o e n => by
  obtain ⟨ms, sp, mx, hd, hs, _⟩ := D
  refine k b o e (fun z => ?_) (fun z => ?_)
  · rw [z, hd] at e
    exact n _ (Option.some.inj e).symm
  · rw [z, hs] at e
    exact n _ (Option.some.inj e).symm
theorem ThV.extN {H H' : Hp} {v : V} {p : PyData} (h : ThV H v p) (e : ExtN H H') : ThV H' v p := h.mono fun a o _ ha hn => e a o ha hn
theorem ThV.same {H H' : Hp} {v : V} {p : PyData} (h : ThV H v p) (e : Same H H') : ThV H' v p := h.mono fun a o _ ha _ => e a o ha
theorem ArO_nt {C dx : Addr} {b m s : Int} (ps : Array Value) : ArO C dx b m s ≠ .tbl ps := fun z => by
  unfold ArO at z
  cases z
/-- the state: the draws, the tables, an area -/
structure Pk (T : List (Addr × Str)) (d st C ar dx : Addr) (b m s : Int) (H : Hp) : Prop where
  D : Dr d st H
  t : Tabs T H
  a : H ar = some (ArO C dx b m s)
section
variable {T : List (Addr × Str)} {d st C ar dx CN CJ CB : Addr} {b m s : Int} {v : V} {p : PyData} {H H' : Hp}
theorem Pk.go (h : Pk T d st C ar dx b m s H) (e : ExtN H H') (t : Tabs T H') : Pk T d st C ar dx b m s H' := ⟨h.D.extN e, t, e _ _ h.a ArO_nt⟩
theorem Pk.same (h : Pk T d st C ar dx b m s H) (e : Same H H') : Pk T d st C ar dx b m s H' := h.go (ExtN.of e) (h.t.ext e)
theorem Pk.kp (h : Pk T d st C ar dx b m s H) (D' : Dr d st H') (k : Kp d st H H') : Pk T d st C ar dx b m s H' :=
  ⟨D', tabs_extL h.t (h.D.kpL k), h.D.kpL k _ _ h.a fun xs z => by unfold ArO at z; cases z⟩
/-- what a refused place is told as -/
def pl (p : PyData) : Str := ("place" : Str) ++ (" " ++ p.shown)
theorem pl_eq (p : PyData) : ("place " : Str) ++ p.shown = pl p := by
  unfold pl
  rw [show ("place " : Str) = ("place" : Str) ++ " " from by decide +kernel, Str.append_assoc]
def dI (b m s : Int) (v : V) (p : PyData) : V := if inA b m v = true then (match v with | .int i => .int (i + s) | _ => .non) else .str (pl p)
theorem noPl_ok (hv : ThV H v p) (hf : Fits p) {Q : VK} {E' : XK} (hE : ∀ cls d H', XTold CN CJ CB Q cls d H' → E' cls d H') (k : ∀ H', Same H H' → Q (.str (pl p)) H') : noPl CN v H E' := fun d nd => by
  have sd := sameNew (o := HO.xd [("place", v)]) nd
  exact hE _ _ _ (.inl ⟨rfl, d, v, p, rfl, upd_same, ThV.same hv sd, hf, fun H' s' => k H' (sd.trans s')⟩)
theorem index_ok (ha : H ar = some (ArO C dx b m s)) (hv : ThV H v p) (hf : Fits p) {Q Q' : VK} {E' : XK} (hQ : ∀ v H', Q v H' → Q' v H') (hE : ∀ cls d H', XTold CN CJ CB Q cls d H' → E' cls d H') (k : ∀ H', Same H H' → Q (dI b m s v p) H') :
    spIndex C CN [.ref ar, v] H Q' E' := by
  refine ⟨ar, dx, b, m, s, v, rfl, ha, ThV.any hv, fun i e1 e2 => hQ _ _ ?_, fun e => noPl_ok hv hf hE fun H' s' => ?_⟩
  · have z := k H (Same.refl _)
    unfold dI at z
    rw [if_pos e2, e1] at z
    exact z
  · have z := k H' s'
    unfold dI at z
    rw [if_neg (by rw [e]; decide)] at z
    exact z
end
end Bm
set_option maxRecDepth 100000
set_option maxHeartbeats 4000000
namespace Bm
open PySem L2 L3 LamX
abbrev rAdd : R2 := rI0 fun i j => .int (i + j)
abbrev rSub : R2 := rI0 fun i j => .int (i - j)
abbrev rAddS : R2 := fun x y H Q => ∃ i j, x = .str i ∧ y = .str j ∧ i.length + j.length ≤ sizeLine ∧ Q (.str (i ++ j)) H
theorem isin_r {σ : L2.St} {H : Hp} {Q : VK} {b m : Int} {v : V} {i j k : Nat} (h1 : σ[i]? = some (some (.int b))) (h2 : σ[j]? = some (some (.int m))) (h3 : σ[k]? = some (some v)) (hv : AnyV H v) (q : Q (.bl (inA b m v)) H) :
    tAndV (tCall spIsInt [] E0 (tCons (tVar k) tNil)) (tChain (rI0 fun i j => .bl (decide (i ≤ j))) (rI0 fun i j => .bl (decide (i < j))) (tVar i) (tVar k) (tOp (rI0 fun i j => .int (i + j)) (tVar i) (tVar j))) σ H Q := by
  refine ⟨v, h3, v, rfl, hv, _, rfl, ?_⟩
  cases hv with
  | int n =>
    refine iteT ⟨_, h1, _, h3, _, _, rfl, rfl, _, rfl, ?_⟩
    refine ite2 (fun c => ?_) (fun c => ?_)
    · refine ⟨_, h1, _, h2, _, _, rfl, rfl, _, _, rfl, rfl, ?_⟩
      simp only [inA, show b ≤ n from of_decide_eq_true c, decide_true, Bool.true_and] at q
      exact q
    · simp only [inA, show ¬ b ≤ n from fun z => c (decide_eq_true z), decide_false, Bool.false_and] at q
      exact q
  | _ => exact iteF q
/-- 'place ' + repr(thing) -/
theorem told_r {σ : L2.St} {H : Hp} {Q : VK} {v : V} {p : PyData} {k : Nat} (h : σ[k]? = some (some v)) (hv : ThV H v p) (hf : Fits p) (q : Q (.str (pl p)) H) : tOp rAddS (tC (.str "place ")) (tCB rRepr (tCons (tVar k) tNil)) σ H Q := by
  have n := hf.2.1
  refine ⟨v, h, v, p, rfl, hv, hf, "place ", p.shown, rfl, rfl, ?_, ?_⟩
  · rw [sizeLine_eq, show ("place " : Str).length = 6 from by decide +kernel]
    omega
  · rw [pl_eq]
    exact q
theorem due_r {σ : L2.St} {H : Hp} {Q : VK} {b m s : Int} {v : V} {p : PyData} {i j k : Nat} (h6 : σ[i]? = some (some (.bl (inA b m v)))) (h5 : σ[j]? = some (some v)) (h3 : σ[k]? = some (some (.int s))) (hv : ThV H v p) (hf : Fits p) (q : Q (dI b m s v p) H) :
    tIf (tB (tVar i)) (tOp rAdd (tVar j) (tVar k)) (tOp rAddS (tC (.str "place ")) (tCB rRepr (tCons (tVar j) tNil))) σ H Q := by
  refine ⟨_, h6, _, rfl, ?_⟩
  unfold dI at q
  cases e : inA b m v with
  | true =>
    rw [e] at q
    obtain ⟨n, rfl⟩ : ∃ n, v = .int n := by cases v <;> simp [inA] at e <;> exact ⟨_, rfl⟩
    exact iteT ⟨_, h5, _, h3, _, _, rfl, rfl, q⟩
  | false =>
    rw [e] at q
    exact iteF (told_r h5 hv hf q)
section
variable {T : List (Addr × Str)} {d st C ar dx CN CJ CB : Addr} {b m s : Int} {v : V} {p : PyData} {H : Hp} {σ : L2.St} {Q : VK} {i j : Nat}
/-- _law_told(lambda: area.index_of(thing)) -/
theorem lam_idx (h : Pk T d st C ar dx b m s H) (hv : ThV H v p) (hf : Fits p) (h1 : σ[i]? = some (some (.ref ar))) (h2 : σ[j]? = some (some v)) (k : ∀ H', Pk T d st C ar dx b m s H' → ThV H' v p → Q (dI b m s v p) H') :
    tLam T (TTTold CN CJ CB) (fun E => tMeth C "index_of" (spIndex C CN) [] E (tVar i) (tCons (tVar j) tNil)) σ H Q := by
  refine ⟨h.t, fun H1 eN T1 H2 E' Q' s2 hQ hE => ?_⟩
  have K2 := (h.go eN T1).same s2
  have hv2 := ThV.same (ThV.extN hv eN) s2
  exact ⟨_, h1, ar, dx, _, rfl, K2.a, ArF_no _ _ _, v, h2, index_ok K2.a hv2 hf hQ hE fun H' s' => k H' (K2.same s') (ThV.same hv2 s')⟩
/-- _law_told(lambda: area.index_of(place=thing)) -/
theorem lam_idxK {gV : List V → List V → List V} (hg : ∀ x y, gV [x] [y] = [x, y]) (h : Pk T d st C ar dx b m s H) (hv : ThV H v p) (hf : Fits p) (h1 : σ[i]? = some (some (.ref ar))) (h2 : σ[j]? = some (some v)) (k : ∀ H', Pk T d st C ar dx b m s H' → ThV H' v p → Q (dI b m s v p) H') :
    tLam T (TTTold CN CJ CB) (fun E => tMethK C "index_of" 0 1 (spIndex C CN) gV E (tVar i) tNil (tCons (tVar j) tNil)) σ H Q := by
  refine ⟨h.t, fun H1 eN T1 H2 E' Q' s2 hQ hE => ?_⟩
  have K2 := (h.go eN T1).same s2
  have hv2 := ThV.same (ThV.extN hv eN) s2
  refine ⟨_, h1, ar, dx, _, rfl, K2.a, ArF_no _ _ _, v, h2, rfl, rfl, ?_⟩
  rw [hg]
  exact index_ok K2.a hv2 hf hQ hE fun H' s' => k H' (K2.same s') (ThV.same hv2 s')
/-- _law_told(lambda: area.cut(thing)), refused -/
theorem lam_cut (hs : isS (.int b) (.int m) = true) (no : inA b m v = false ∨ v = .int b) (h : Pk T d st C ar dx b m s H) (hv : ThV H v p) (hf : Fits p) (h1 : σ[i]? = some (some (.ref ar))) (h2 : σ[j]? = some (some v)) (k : ∀ H', Pk T d st C ar dx b m s H' → ThV H' v p → Q (.str (pl p)) H') :
    tLam T (TTTold CN CJ CB) (fun E => tMeth C "cut" (spCut C CN) [] E (tVar i) (tCons (tVar j) tNil)) σ H Q := by
  refine ⟨h.t, fun H1 eN T1 H2 E' Q' s2 hQ hE => ?_⟩
  have K2 := (h.go eN T1).same s2
  have hv2 := ThV.same (ThV.extN hv eN) s2
  refine ⟨_, h1, ar, dx, _, rfl, K2.a, ArF_no _ _ _, v, h2, ar, dx, b, m, s, v, rfl, K2.a, hs, ThV.any hv2, fun n e l1 l2 => ?_, fun _ => noPl_ok hv2 hf hE fun H' s' => k H' (K2.same s') (ThV.same hv2 s')⟩
  subst e
  rcases no with z | z
  · simp [inA] at z
    omega
  · cases z
    omega
end
theorem dI_scal {b m s : Int} {v : V} {p : PyData} : scal (dI b m s v p) (dI b m s v p) = true := by
  unfold dI
  by_cases e : inA b m v = true
  · rw [if_pos e]
    cases v <;> rfl
  · rw [if_neg e]
    rfl
/-- the data of the place of an index -/
def plD (b m s : Int) (v : V) : PyData := match v with | .int i => if inA b m (.int (i - s)) = true then .int (i - s) else .none | _ => .none
theorem plV_th {H : Hp} {b m s : Int} {v : V} (hs : isS (.int b) (.int m) = true) : ThV H (plV b m s v) (plD b m s v) ∧ Fits (plD b m s v) := by
  have none_ : Fits .none := ⟨by decide +kernel, by decide +kernel, fun i z => by cases z⟩
  have st := isS_iff.mp hs
  cases v with
  | int i =>
    unfold plV plD
    by_cases e : inA b m (.int (i - s)) = true
    · simp only [if_pos e]
      have e' : b ≤ i - s ∧ i - s < b + m := by simpa [inA] using e
      exact ⟨.int _, fits_small (by omega)⟩
    · simp only [if_neg e]
      exact ⟨.non, none_⟩
  | _ => exact ⟨.non, none_⟩
section
variable {T : List (Addr × Str)} {d st C ar dx : Addr} {b m s : Int} {u v : V} {H : Hp} {σ : L2.St} {Q : VK} {i j k l : Nat}
theorem near_r (h5 : σ[i]? = some (some v)) (h3 : σ[j]? = some (some (.int s))) (hv : AnyV H v) (q : ∀ u, AnyV H u → (∀ a, u = .ref a → v = .ref a) → Q u H) :
    tIf (tB (tCall spIsInt [] E0 (tCons (tVar i) tNil))) (tOp rAdd (tVar i) (tVar j)) (tVar i) σ H Q := by
  refine ⟨v, h5, v, rfl, hv, _, rfl, ?_⟩
  cases e : isI v with
  | true =>
    obtain ⟨n, rfl⟩ : ∃ n, v = .int n := by cases v <;> simp [isI] at e <;> exact ⟨_, rfl⟩
    exact iteT ⟨_, h5, _, h3, _, _, rfl, rfl, q _ (.int _) fun a z => nomatch z⟩
  | false => exact iteF ⟨_, h5, q v hv fun a z => z⟩
theorem due2_r (h8 : σ[i]? = some (some u)) (h3 : σ[j]? = some (some (.int s))) (h1 : σ[k]? = some (some (.int b))) (h2 : σ[l]? = some (some (.int m))) (hu : AnyV H u) (q : Q (plV b m s u) H) :
    tIf (tAnd (tB (tCall spIsInt [] E0 (tCons (tVar i) tNil))) (tTest (tChain (rI0 fun i j => .bl (decide (i ≤ j))) (rI0 fun i j => .bl (decide (i < j))) (tVar k) (tOp rSub (tVar i) (tVar j)) (tOp rAdd (tVar k) (tVar l))))) (tOp rSub (tVar i) (tVar j)) (tC .non) σ H Q := by
  refine ⟨u, h8, u, rfl, hu, _, rfl, ?_⟩
  cases hu with
  | int n =>
    refine iteT ⟨_, h1, _, h8, _, h3, _, _, rfl, rfl, _, _, rfl, rfl, _, rfl, ?_⟩
    unfold plV at q
    by_cases c1 : b ≤ n - s
    · rw [decide_eq_true c1]
      refine iteT ⟨_, h1, _, h2, _, _, rfl, rfl, _, _, rfl, rfl, _, rfl, ?_⟩
      by_cases c2 : n - s < b + m
      · rw [decide_eq_true c2]
        simp only [inA, decide_eq_true c1, decide_eq_true c2, Bool.and_self, if_true] at q
        exact iteT ⟨_, h8, _, h3, _, _, rfl, rfl, q⟩
      · rw [decide_eq_false c2]
        simp only [inA, decide_eq_true c1, decide_eq_false c2, Bool.and_false, Bool.false_eq_true, if_false] at q
        exact iteF q
    · rw [decide_eq_false c1]
      simp only [inA, decide_eq_false c1, Bool.false_and, Bool.false_eq_true, if_false] at q
      exact iteF ⟨_, rfl, iteF q⟩
  | _ => exact iteF (iteF q)
theorem place_r (hs : isS (.int b) (.int m) = true) (h : Pk T d st C ar dx b m s H) (h1 : σ[i]? = some (some (.ref ar))) (h2 : σ[j]? = some (some u)) (hu : AnyV H u) (q : Q (.str (plD b m s u).shown) H) :
    tCB rRepr (tCons (tMeth C "place_of" (spPlace C) [] E0 (tVar i) (tCons (tVar j) tNil)) tNil) σ H Q :=
  ⟨_, h1, ar, dx, _, rfl, h.a, ArF_no _ _ _, u, h2, ar, dx, b, m, s, u, rfl, h.a, hu, _, _, rfl, (plV_th hs).1, (plV_th (H := H) hs).2, q⟩
theorem place_rK {gV : List V → List V → List V} (hg : ∀ x y, gV [x] [y] = [x, y]) (hs : isS (.int b) (.int m) = true) (h : Pk T d st C ar dx b m s H) (h1 : σ[i]? = some (some (.ref ar))) (h2 : σ[j]? = some (some u)) (hu : AnyV H u) (q : Q (.str (plD b m s u).shown) H) :
    tCB rRepr (tCons (tMethK C "place_of" 0 1 (spPlace C) gV E0 (tVar i) tNil (tCons (tVar j) tNil)) tNil) σ H Q := by
  refine ⟨_, h1, ar, dx, _, rfl, h.a, ArF_no _ _ _, u, h2, rfl, rfl, ?_⟩
  rw [hg]
  exact ⟨ar, dx, b, m, s, u, rfl, h.a, hu, _, _, rfl, (plV_th hs).1, (plV_th (H := H) hs).2, q⟩
end
end Bm
set_option maxRecDepth 100000
set_option maxHeartbeats 4000000
namespace Bm
open PySem L2 L3 LamX
/-- the class Area, its methods -/
structure ArK (P : Program) (w : World) (K : PySem.W.Frag) (mg : Str → Option Value) (base : Heap) (C CB CN CJ : Addr) : Prop where
  ar : ArT K C
  it : InT K C
  mC : mg "Area" = some (.ref C)
  make : MakeA P w K mg base C CB
  index : HasM P w K mg base (L2.CX P w) 3 C "index_of" "place" (spIndex C CN)
  place : HasM P w K mg base CX0 3 C "place_of" "index" (spPlace C)
  cut : HasM P w K mg base (L2.CX P w) 7 C "cut" "at" (spCut C CN)
  join : HasM P w K mg base (L2.CX P w) 7 C "joined" "other" (spJoin C CJ)
  move : HasM P w K mg base (L2.CX P w) 7 C "moved" "to" (spMove C CB)
  eq_ : ∃ f fd, FnOk P w K mg base CX0 1 f fd ["self", "other"] (spAEq C) ∧ PySem.W.findIn K (.ref C) "__eq__" = some (some (.ref f)) ∧ PySem.W.isFn K (.ref f) = true ∧ Binds K fd ["self", "other"] []
  nf1 : PySem.W.notFirst K C (.ref C) = true
/-- the code of _law_told -/
def ToldAt (K : PySem.W.Frag) (mg : Str → Option Value) : Prop := ∃ (g : Addr) (oc dV kV doc pm cdv ct : Value) (od an : Option Addr) (osl : Array (Option Value)),
  mg "_law_told" = some (.ref g) ∧ PySem.W.keepIn K (.ref g) = true ∧ K.lookup g = some ⟨oc, od, .func (PySem.W.fnOf "_law_told" "_law_told" (defArgs sTold) (defBody sTold) (defScope sTold) dV kV doc pm an cdv ct), osl⟩ ∧ PySem.W.codeIn K cdv "_law_told" = true ∧
  L2.Binds K (PySem.W.fnOf "_law_told" "_law_told" (defArgs sTold) (defBody sTold) (defScope sTold) dV kV doc pm an cdv ct) ["_law_work"] []
/-- what the checks of an area promise -/
def spChk (T : List (Addr × Str)) : Sp := fun vs H Q _ => ∃ (d st : Addr) (b m s : Int), vs = [.ref d, .int b, .int m, .int s] ∧ Dr d st H ∧ isS (.int b) (.int m) = true ∧ s.natAbs < 2 ^ 70 ∧ Tabs T H ∧ ∀ H', Dr d st H' → Tabs T H' → Q (.bl true) H'
section
variable {P : Program} {w : World} {K : PySem.W.Frag} {mg : Str → Option Value} {base : Heap}
abbrev NP : List Str := ["_law_draw_here", "_law_first", "_law_size", "_law_line", "_law_area", "_law_thing_here", "_law_is_in", "_law_due", "_law_near_here", "_law_parts"]
abbrev PP : List Str := ["_law_draw_here", "_law_first", "_law_size", "_law_line"]
theorem scPR : FnScope NP PP (defScope sPR) := ⟨rfl, rfl, rfl, by decide +kernel, rfl, by decide +kernel, by decide +kernel⟩
theorem ok_places {f C CB CN CJ CM c Pc : Addr} {T : List (Addr × Str)} {oc kV doc pm ct : Value} {od an : Option Addr} {osl : Array (Option Value)} (lk : K.lookup f = some ⟨oc, od, .func (PySem.W.fnOf "_law_places_right" "_law_places_right" (defArgs sPR) (defBody sPR) (defScope sPR) .none kV doc pm an (.ref c) ct), osl⟩) (hcd : PySem.W.codeIn K (.ref c) "_law_places_right" = true)
    (TCm : TC K mg) (repr_ : mg "repr" = none) (tuple_ : mg "tuple" = none) (list_ : mg "list" = none) (R : ArK P w K mg base C CB CN CJ) (Er : ErK K mg CN CJ CB CM) (TBc : TabB base mg c Pc) (hmT : (Pc, ("_law_places_right" : Str) ++ ".<locals>." ++ "<lambda>") ∈ T) (hu : ∀ p ∈ T, p.1 = Pc → p.2 = ("_law_places_right" : Str) ++ ".<locals>." ++ "<lambda>")
    (Md : ToldAt K mg) (HP : Has P w K mg base CX0 2 "_law_pick" ["_law_draw_here", "_law_some"] spPick) (HN : Has P w K mg base CX0 4 "_law_near" ["_law_draw_here", "_law_first", "_law_size"] spNear) (HW : Has P w K mg base CX0 1 "_law_is_whole" ["_law_thing_here"] spIsInt) :
    FnG P w K mg base CX0 11 f (PySem.W.fnOf "_law_places_right" "_law_places_right" (defArgs sPR) (defBody sPR) (defScope sPR) .none kV doc pm an (.ref c) ct) PP (spChk T) := by
  refine fn_g lk hcd scPR (fun vs H Q E h => ?_) fun A0 outer s0 H vs Q E gd hr h => ?_
  · obtain ⟨d, st, b, m, s, rfl, _⟩ := h
    rfl
  · obtain ⟨d, st, b, m, s, rfl, D, hst, hs, hT, k⟩ := h
    obtain ⟨g, oc2, dV2, kV2, doc2, pm2, cd2, ct2, od2, an2, osl2, mMd, kMd, lMd, cMd, bMd⟩ := Md
    obtain ⟨fI, fdI, MI, GI, bI⟩ := R.make
    obtain ⟨fN, fdN, GN, mN, kN, bN⟩ := HN
    obtain ⟨fP, fdP, GP, mP, kP, bP⟩ := HP
    obtain ⟨fW, fdW, GW, mW, kW, bW⟩ := HW
    obtain ⟨f1, d1, M1, G1, b1, g1, gV1, kb1, hg1⟩ := R.index
    obtain ⟨f2, d2, M2, G2, b2, g2, gV2, kb2, hg2⟩ := R.place
    obtain ⟨f3, d3, M3, G3, b3, g3, gV3, kb3, hg3⟩ := R.cut
    obtain ⟨f4, d4, M4, G4, b4, g4, gV4, kb4, hg4⟩ := R.join
    obtain ⟨fE, fdE, GE, hE1, hE2, bE⟩ := R.eq_
    have hr1 := hr.mono (show 1 ≤ 10 by decide)
    have hr2 := hr.mono (show 2 ≤ 10 by decide)
    have hr3 := hr.mono (show 3 ≤ 10 by decide)
    have hr4 := hr.mono (show 4 ≤ 10 by decide)
    have hr5 := hr.mono (show 5 ≤ 10 by decide)
    have hr6 := hr.mono (show 6 ≤ 10 by decide)
    have hr7 := hr.mono (show 7 ≤ 10 by decide)
    have hr9 := hr.mono (show 9 ≤ 10 by decide)
    suffices hh : ∃ t, PSs (cxOf CX0 P w K mg base NP "_law_places_right" (defScope sPR) f (.ref c) A0 outer s0 H E).nox (defBody sPR) t ∧ t { nx := fun _ H' => Q .non H', rt := Q } (start NP [.ref d, .int b, .int m, .int s]) H by
      obtain ⟨t, h1, h2⟩ := hh
      exact ⟨t, h1.nox, h2⟩
    refine ⟨_, pss_cons (ps_asg (pe_tup (pa_cons (pe_make MI GI hr6 rfl R.mC bI .nil passL (pa_cons (pv 1) (pa_cons (pv 2) (pa_cons (pv 3) pa_nil)))) (pa_cons (pe_call GN hr4 rfl mN kN bN .nil pass0 (pa_cons (pv 0) (pa_cons (pv 1) (pa_cons (pv 2) pa_nil)))) pa_nil)))
        (pg_tup (by rfl) (pgs_cons (pg_name (i := 4) scPR.nd rfl (Or.inr rfl)) (pgs_cons (pg_name (i := 5) scPR.nd rfl (Or.inr rfl)) pgs_nil))))
      (pss_cons (ps_set (i := 6) scPR.nd rfl (Or.inl rfl) (pe_and (pe_call GW hr1 rfl mW kW bW .nil pass0 (pa_cons (pv 5) pa_nil)) (pe_one (pe_chain op_le op_lt (pv 1) (pv 5) (pe_op op_add (pv 1) (pv 2))))))
      (pss_cons (ps_set (i := 7) scPR.nd rfl (Or.inl rfl) (pe_ifExp (pt_val (pv 6)) (pe_op op_add (pv 5) (pv 3)) (pe_op op_add_str pe_str (pe_callB (r := rRepr) (call_repr gd hr1) (by rfl) repr_ PyProof.Rows.boot_repr (pa_cons (pv 5) pa_nil)))))
      (pss_cons (ps_if (pt_cmpR op_ne
        (pe_lamcall (T := T) (TT := TTTold CN CJ CB) rfl mMd kMd lMd cMd bMd scTold rfl (Or.inl rfl) (told_gives gd hr1 TCm repr_ Er) TBc rfl hmT hu hr5 (lamS_by (by show lamSB (defScope sPR) _ = true; decide +kernel)) rfl (fun _ _ _ _ _ => rfl)
          (fun A outer s H E f c' hr' => pe_meth (pv 4) R.ar.cl M1 G1 hr' b1 .nil (passes_call (takes_of rfl rfl rfl rfl) (fun _ _ _ _ h => h)) (pa_cons (pv 5) pa_nil))) (pv 7) (nomark _)) (pss_one (ps_ret pe_bl)) pss_nil)
      (pss_cons (ps_if (pt_cmpR op_ne
        (pe_lamcall (T := T) (TT := TTTold CN CJ CB) rfl mMd kMd lMd cMd bMd scTold rfl (Or.inl rfl) (told_gives gd hr1 TCm repr_ Er) TBc rfl hmT hu hr5 (lamS_by (by show lamSB (defScope sPR) _ = true; decide +kernel)) rfl (fun _ _ _ _ _ => rfl)
          (fun A outer s H E f c' hr' => pe_methK0 (pv 4) R.ar.cl M1 G1 hr' kb1 (passes_call (takes_of rfl rfl rfl rfl) (fun _ _ _ _ h => h)) (pk_cons (pv 5) pk_nil))) (pv 7) (nomark _)) (pss_one (ps_ret pe_bl)) pss_nil)
      (pss_cons (ps_set (i := 8) scPR.nd rfl (Or.inl rfl) (pe_call GP hr2 rfl mP kP bP .nil pass0 (pa_cons (pv 0) (pa_cons (pe_lst (pa_cons (pe_ifExp (pt_val (pe_call GW hr1 rfl mW kW bW .nil pass0 (pa_cons (pv 5) pa_nil))) (pe_op op_add (pv 5) (pv 3)) (pv 5)) (pa_cons (pv 5) pa_nil))) pa_nil))))
      (pss_cons (ps_set (i := 7) scPR.nd rfl (Or.inl rfl) (pe_ifExp (PW.pt (pw_and (pt_val (pe_call GW hr1 rfl mW kW bW .nil pass0 (pa_cons (pv 8) pa_nil))) (pw_and1 (pt_chain op_le op_lt (pv 1) (pe_op op_sub (pv 8) (pv 3)) (pe_op op_add (pv 1) (pv 2)))))) (pe_op op_sub (pv 8) (pv 3)) pe_non))
      (pss_cons (ps_if (PW.pt (pw_or (pt_cmpR op_ne (pe_callB (r := rRepr) (call_repr gd hr1) (by rfl) repr_ PyProof.Rows.boot_repr (pa_cons (pe_meth (pv 4) R.ar.cl M2 G2 hr3 b2 .nil pass0 (pa_cons (pv 8) pa_nil)) pa_nil)) (pe_callB (r := rRepr) (call_repr gd hr1) (by rfl) repr_ PyProof.Rows.boot_repr (pa_cons (pv 7) pa_nil)) (nomark _))
          (pw_or1 (pt_cmpR op_ne (pe_callB (r := rRepr) (call_repr gd hr1) (by rfl) repr_ PyProof.Rows.boot_repr (pa_cons (pe_methK0 (pv 4) R.ar.cl M2 G2 hr3 kb2 pass0 (pk_cons (pv 8) pk_nil)) pa_nil)) (pe_callB (r := rRepr) (call_repr gd hr1) (by rfl) repr_ PyProof.Rows.boot_repr (pa_cons (pv 7) pa_nil)) (nomark _))))) (pss_one (ps_ret pe_bl)) pss_nil)
      (pss_cons (ps_if (PW.pt (pw_or (pt_not (pt_val (pv 6))) (pw_or1 (pt_cmpR (op_eqD hr.units) (pv 5) (pv 1) (nomark _)))))
        (pss_one (ps_ret (pe_cmpR op_eq
          (pe_lamcall (T := T) (TT := TTTold CN CJ CB) rfl mMd kMd lMd cMd bMd scTold rfl (Or.inl rfl) (told_gives gd hr1 TCm repr_ Er) TBc rfl hmT hu hr9 (lamS_by (by show lamSB (defScope sPR) _ = true; decide +kernel)) rfl (fun _ _ _ _ _ => rfl)
            (fun A outer s H E f c' hr' => pe_meth (pv 4) R.ar.cl M3 G3 hr' b3 .nil (passes_call (takes_of rfl rfl rfl rfl) (fun _ _ _ _ h => h)) (pa_cons (pv 5) pa_nil)))
          (pe_op op_add_str pe_str (pe_callB (r := rRepr) (call_repr gd hr1) (by rfl) repr_ PyProof.Rows.boot_repr (pa_cons (pv 5) pa_nil))) (nomark _)))) pss_nil)
      (pss_cons (ps_par (i := 9) (j := 7) rfl scPR.nd rfl rfl (by decide) rfl rfl (pa_cons (pe_methK0 (pv 4) R.ar.cl M3 G3 hr7 kb3 passL (pk_cons (pv 5) pk_nil)) (pa_cons (pe_lst (pa_cons (pe_make MI GI hr6 rfl R.mC bI .nil passL (pa_cons (pv 1) (pa_cons (pe_op op_sub (pv 5) (pv 1)) (pa_cons (pv 3) pa_nil)))) (pa_cons (pe_make MI GI hr6 rfl R.mC bI .nil passL (pa_cons (pv 5) (pa_cons (pe_op op_sub (pe_op op_add (pv 1) (pv 2)) (pv 5)) (pa_cons (pv 3) pa_nil)))) pa_nil))) pa_nil)) rfl)
      (pss_cons (ps_if (PW.pt (pw_or (pt_not (pt_val (pe_callB (r := rIsV K) call_isV (by rfl) TCm.isinstance_ PyProof.Rows.boot_isinstance (pa_cons (pv 9) (pa_cons (pe_bltn (v := .ty "tuple") rfl tuple_ (by decide +kernel) rfl) pa_nil)))))
          (pw_or1 (pt_cmpR (op_neList (D := DIns C (fun a b H => ∃ da db x y z, H a = some (ArO C da x y z) ∧ H b = some (ArO C db x y z))) (mon_ins fun a b H H' e ⟨da, db, x, y, z, h1, h2⟩ => ⟨da, db, x, y, z, e _ _ h1, e _ _ h2⟩)
            (eqG_ins (n := 1) (E := E0) (GE.imp fun vs H Q E ⟨a, b, e, ⟨da, db, x, y, z, h1, h2⟩, q⟩ => ⟨a, da, x, y, z, .ref b, e, h1, .inl ⟨b, db, x, y, z, rfl, h2, fun H' s' => by rw [show decide (x = x ∧ y = y ∧ z = z) = true from by simp]; exact q H' s'⟩⟩) hE1 hE2 bE pass0) hr3)
            (pe_callTy (r := fun xs H Q => ∃ p ys, xs = [.ref p] ∧ (SqL K H p ys ∨ SqT K H p ys) ∧ ∀ l, H l = none → Q (.ref l) (upd H l (.lst ys))) call_list_of (by rfl) list_ (by decide +kernel) (pa_cons (pv 9) pa_nil)) (pv 7) (nomark _))))) (pss_one (ps_ret pe_bl)) pss_nil)
      (pss_cons (ps_if (PW.pt (pw_or (pt_not (pt_cmpR (op_eqOwn (C := C) (E := E0) GE hE1 hE2 bE pass0 hr1) (pe_meth (pe_ix ix_tup (pv 9) pe_int (fun _ _ => rfl)) R.ar.cl M4 G4 hr7 b4 .nil passL (pa_cons (pe_ix ix_tup (pv 9) pe_int (fun _ _ => rfl)) pa_nil)) (pv 4) (nomark _)))
          (pw_or1 (pt_not (pt_cmpR (op_eqOwn (C := C) (E := E0) GE hE1 hE2 bE pass0 hr1) (pe_methK0 (pe_ix ix_tup (pv 9) pe_int (fun _ _ => rfl)) R.ar.cl M4 G4 hr7 kb4 passL (pk_cons (pe_ix ix_tup (pv 9) pe_int (fun _ _ => rfl)) pk_nil)) (pv 4) (nomark _)))))) (pss_one (ps_ret pe_bl)) pss_nil)
      (pss_one (ps_ret (pe_cmpR (op_eqOwn (C := C) (E := E0) GE hE1 hE2 bE pass0 hr1) (pv 4) (pe_make MI GI hr6 rfl R.mC bI .nil passL (pa_cons (pv 1) (pa_cons (pv 2) (pa_cons (pv 3) pa_nil)))) (nomark _))))))))))))))), ?_⟩
    -- area, thing = Area(..), near(..)
    refine ⟨_, rfl, _, rfl, _, rfl, ?_⟩
    refine fun ar dx nx ndx ne => mk_one nx ndx ne (.int _) (.int _) (.int _) (okA_ints hst) fun H1 s1 ha1 => ⟨rfl, ?_⟩
    refine ⟨_, rfl, _, rfl, _, rfl, d, st, b, m, rfl, D.same s1, hst, fun v p H2 hv hf nv D2 K2 => ?_⟩
    refine ⟨by show 2 ≤ sizeLine; decide, fun t nt => ?_⟩
    generalize eH3 : upd H2 t _ = H3
    have s3 : Same H2 H3 := by rw [← eH3]; exact sameNew nt
    have a3 : H3 t = some (HO.tup [V.ref ar, v] : HO) := by rw [← eH3]; exact upd_same
    clear eH3
    refine ⟨t, _, rfl, SqT.of a3, rfl, _, _, rfl, _, _, rfl, rfl, ?_⟩
    have K0 : Pk T d st C ar dx b m s H3 := (((⟨D.same s1, hT.ext s1, ha1⟩ : Pk T d st C ar dx b m s H1)).kp D2 K2).same s3
    have hv3 : ThV H3 v p := ThV.same hv s3
    have vd : ∀ a, v = .ref a → a ≠ d ∧ a ≠ st := fun a e => by
      have z := nv a e
      obtain ⟨ms, sp, mx, hd, hs', _⟩ := D.same s1
      exact ⟨(fun q => by rw [q, hd] at z; cases z), (fun q => by rw [q, hs'] at z; cases z)⟩
    -- is_in = ..
    refine isin_r (i := 1) (j := 2) (k := 5) rfl rfl rfl (ThV.any hv3) ?_
    -- due
    refine due_r (i := 6) (j := 5) (k := 3) rfl rfl rfl hv3 hf ?_
    -- told(index_of) != due, twice
    refine lam_idx K0 hv3 hf rfl rfl fun H4 K4 hv4 => ⟨_, rfl, dI_scal, _, rfl, ?_⟩
    rw [decide_eq_true rfl]
    refine iteF ?_
    refine lam_idxK hg1 K4 hv4 hf rfl rfl fun H5 K5 hv5 => ⟨_, rfl, dI_scal, _, rfl, ?_⟩
    rw [decide_eq_true rfl]
    refine iteF ?_
    -- near = ..
    refine ⟨_, rfl, ?_⟩
    refine near_r (i := 5) (j := 3) rfl rfl (ThV.any hv5) fun u0 hu0 ru0 => ?_
    refine ⟨_, rfl, by show 2 ≤ sizeLine; decide, fun L nL => ?_⟩
    obtain ⟨nLd, nLs⟩ := K5.D.ne (Same.refl _) nL
    generalize eH6 : upd H5 L _ = H6
    have s6 : Same H5 H6 := by rw [← eH6]; exact sameNew nL
    have a6 : H6 L = some (HO.lst [u0, v] : HO) := by rw [← eH6]; exact upd_same
    clear eH6
    have K6 := K5.same s6
    refine ⟨d, st, L, _, rfl, K6.D, a6, nLd, nLs, by show 0 < 2; decide, by show 2 < 1000000; decide, fun u H7 mu D7 kp7 => ?_⟩
    have K7 := K6.kp D7 kp7
    have kv : ∀ {x : V}, AnyV H5 x → (∀ a, x = .ref a → v = .ref a) → AnyV H7 x := fun hx rx => hx.mono fun a o e ho _ => kp7 _ _ (s6 _ _ ho) (vd a (rx a e)).1 (vd a (rx a e)).2
    have hv7 : ThV H7 v p := hv5.mono fun a o e ho _ => kp7 _ _ (s6 _ _ ho) (vd a e).1 (vd a e).2
    have hu7 : AnyV H7 u := by
      rcases List.mem_cons.mp mu with rfl | mu
      · exact kv hu0 ru0
      · rw [List.mem_singleton.mp mu]
        exact ThV.any hv7
    -- due = ..
    refine due2_r (i := 8) (j := 3) (k := 1) (l := 2) rfl rfl rfl rfl hu7 ?_
    -- repr(place_of) != repr(due), twice
    refine place_r hst K7 rfl rfl hu7 ⟨_, rfl, _, _, rfl, (plV_th hst).1, (plV_th (H := H7) hst).2, rfl, _, rfl, ?_⟩
    rw [decide_eq_true rfl]
    refine iteF ?_
    refine place_rK hg2 hst K7 rfl rfl hu7 ⟨_, rfl, _, _, rfl, (plV_th hst).1, (plV_th (H := H7) hst).2, rfl, _, rfl, ?_⟩
    rw [decide_eq_true rfl]
    refine iteF ?_
    -- not in, or at the begin: refused
    refine ⟨_, rfl, _, rfl, ?_⟩
    cases e : inA b m v with
    | false => exact iteT (iteT (lam_cut hst (.inl e) K7 hv7 hf rfl rfl fun H8 K8 hv8 => told_r rfl hv8 hf ⟨rfl, by rw [decide_eq_true rfl]; exact k H8 K8.D K8.t⟩))
    | true =>
      obtain ⟨i, rfl⟩ : ∃ i, v = .int i := by cases v <;> simp [inA] at e <;> exact ⟨_, rfl⟩
      have e' : b ≤ i ∧ i < b + m := by simpa [inA] using e
      have st' := isS_iff.mp hst
      refine iteF ⟨_, rfl, _, rfl, .int i, .int b, .int _, .int _, rfl, rfl, _, rfl, ?_⟩
      rw [eqv_int]
      by_cases ib : i = b
      · rw [decide_eq_true ib]
        exact iteT (lam_cut hst (.inr (by rw [ib])) K7 hv7 hf rfl rfl fun H8 K8 hv8 => told_r rfl hv8 hf ⟨rfl, by rw [decide_eq_true rfl]; exact k H8 K8.D K8.t⟩)
      · rw [decide_eq_false ib]
        refine iteF ?_
        -- parts, due = area.cut(at=thing), [..]
        refine ⟨_, rfl, ar, dx, _, rfl, K7.a, ArF_no _ _ _, _, rfl, rfl, rfl, ?_⟩
        rw [hg3]
        refine ⟨ar, dx, b, m, s, .int i, rfl, K7.a, hst, .int _, fun n en l1 l2 t q1 d1 q2 d2 H8 s8 t8 a1 a2 => ?_, fun z => ?_⟩
        case refine_2 =>
          exfalso
          rcases z with z | z
          · rw [e] at z; cases z
          · cases z; exact ib rfl
        cases en
        have K8 := K7.same s8
        have i1 : isS (.int b) (.int (i - b)) = true := isS_iff.mpr ⟨st'.1, by omega, by omega⟩
        have i2 : isS (.int i) (.int (b + m - i)) = true := isS_iff.mpr ⟨by omega, by omega, by omega⟩
        refine ⟨_, rfl, _, rfl, _, rfl, _, _, rfl, rfl, _, rfl, ?_⟩
        refine fun q3 d3 nq nd ne3 => mk_one nq nd ne3 (.int _) (.int _) (.int _) (okA_ints i1) fun H9 s9 a3 => ⟨rfl, ?_⟩
        refine ⟨_, rfl, _, rfl, _, rfl, _, _, rfl, rfl, _, rfl, _, _, rfl, rfl, _, rfl, ?_⟩
        refine fun q4 d4 nq nd ne4 => mk_one nq nd ne4 (.int _) (.int _) (.int _) (okA_ints i2) fun H10 s10 a4 => ⟨rfl, ?_⟩
        refine ⟨by show 2 ≤ sizeLine; decide, fun M nM => ?_⟩
        generalize eH11 : upd H10 M _ = H11
        have s11 : Same H10 H11 := by rw [← eH11]; exact sameNew nM
        have a11 : H11 M = some (HO.lst [V.ref q3, V.ref q4] : HO) := by rw [← eH11]; exact upd_same
        clear eH11
        have s811 : Same H8 H11 := s9.trans (s10.trans s11)
        refine ⟨_, _, rfl, ?_⟩
        -- isinstance(parts, tuple), list(parts) != due
        refine ⟨_, rfl, _, _, _, _, _, rfl, .ty _, .base (.base (.tup (s811 _ _ t8))), kit_self, _, rfl, iteF ?_⟩
        refine ⟨_, rfl, t, _, rfl, .inr (SqT.of (s811 _ _ t8)), fun N nN => ?_⟩
        generalize eH12 : upd H11 N _ = H12
        have s12 : Same H11 H12 := by rw [← eH12]; exact sameNew nN
        have a12 : H12 N = some (HO.lst [V.ref q1, V.ref q2] : HO) := by rw [← eH12]; exact upd_same
        clear eH12
        have s812 := s811.trans s12
        have b3 : H12 q3 = some (ArO C d3 b (i - b) s) := s12 _ _ (s11 _ _ (s10 _ _ a3))
        have b4 : H12 q4 = some (ArO C d4 i (b + m - i) s) := s12 _ _ (s11 _ _ a4)
        refine ⟨_, rfl, ⟨N, M, _, _, rfl, rfl, a12, s12 _ _ a11, .cons ⟨q1, q3, d1, d3, _, _, rfl, rfl, s812 _ _ a1, b3, d1, d3, b, i - b, s, s812 _ _ a1, b3⟩ (.cons ⟨q2, q4, d2, d4, _, _, rfl, rfl, s812 _ _ a2, b4, d2, d4, i, b + m - i, s, s812 _ _ a2, b4⟩ .nil)⟩, fun H13 e13 => ⟨_, rfl, iteF ?_⟩⟩
        have s813 : Same H8 H13 := s812.trans e13
        have K13 := K8.same s813
        have t13 := s813 _ _ t8
        -- parts[0].joined(parts[1]) == area, twice
        refine ⟨_, rfl, t, _, _, _, rfl, rfl, SqT.of t13, rfl, q1, d1, _, rfl, s813 _ _ a1, ArF_no _ _ _, _, rfl, t, _, _, _, rfl, rfl, SqT.of t13, rfl, q1, d1, b, i - b, s, .ref q2, rfl, s813 _ _ a1, i1, .inl ⟨q2, d2, i, b + m - i, s, rfl, s813 _ _ a2, i2, fun _ _ r dr H14 s14 a14 => ?_, fun z => (z ⟨by omega, rfl⟩).elim⟩⟩
        have K14 := K13.same s14
        refine ⟨_, rfl, r, dr, _, _, rfl, a14, R.it.ty K14.a, R.nf1, ⟨r, dr, _, _, _, _, rfl, a14, .inl ⟨ar, dx, _, _, _, rfl, K14.a, fun H15 s15 => ⟨_, rfl, _, rfl, ?_⟩⟩⟩⟩
        rw [show decide (b = b ∧ (i - b) + (b + m - i) = m ∧ s = s) = true from decide_eq_true ⟨rfl, by omega, rfl⟩]
        refine iteF ?_
        have s815 := s813.trans (s14.trans s15)
        have t15 := s815 _ _ t8
        have K15 := K14.same s15
        refine ⟨_, rfl, t, _, _, _, rfl, rfl, SqT.of t15, rfl, q1, d1, _, rfl, s815 _ _ a1, ArF_no _ _ _, _, rfl, t, _, _, _, rfl, rfl, SqT.of t15, rfl, rfl, rfl, ?_⟩
        rw [hg4]
        refine ⟨q1, d1, b, i - b, s, .ref q2, rfl, s815 _ _ a1, i1, .inl ⟨q2, d2, i, b + m - i, s, rfl, s815 _ _ a2, i2, fun _ _ r dr H16 s16 a16 => ?_, fun z => (z ⟨by omega, rfl⟩).elim⟩⟩
        have K16 := K15.same s16
        refine ⟨_, rfl, r, dr, _, _, rfl, a16, R.it.ty K16.a, R.nf1, ⟨r, dr, _, _, _, _, rfl, a16, .inl ⟨ar, dx, _, _, _, rfl, K16.a, fun H17 s17 => ⟨_, rfl, _, rfl, ?_⟩⟩⟩⟩
        rw [show decide (b = b ∧ (i - b) + (b + m - i) = m ∧ s = s) = true from decide_eq_true ⟨rfl, by omega, rfl⟩]
        refine iteF ?_
        have K17 := K16.same s17
        -- area == Area(first, size, line)
        refine ⟨_, rfl, _, rfl, _, rfl, _, rfl, ?_⟩
        refine fun q5 d5 nq nd ne5 => mk_one nq nd ne5 (.int _) (.int _) (.int _) (okA_ints hst) fun H18 s18 a18 => ⟨rfl, ?_⟩
        have K18 := K17.same s18
        refine ⟨ar, dx, _, _, rfl, K18.a, R.it.ty a18, R.nf1, ⟨ar, dx, _, _, _, _, rfl, K18.a, .inl ⟨q5, d5, _, _, _, rfl, a18, fun H19 s19 => ⟨_, rfl, ?_⟩⟩⟩⟩
        rw [show decide (b = b ∧ m = m ∧ s = s) = true from by simp]
        exact k H19 (K18.same s19).D (K18.same s19).t
end
end Bm
set_option maxRecDepth 100000
set_option maxHeartbeats 4000000
namespace Bm
open PySem L2 L3 LamX
section
variable {P : Program} {w : World} {K : PySem.W.Frag} {mg : Str → Option Value} {base : Heap}
abbrev NM : List Str := ["_law_draw_here", "_law_first", "_law_size", "_law_line", "_law_area", "_law_target", "_law_found"]
theorem scMR : FnScope NM PP (defScope sMR) := ⟨rfl, rfl, rfl, by decide +kernel, rfl, by decide +kernel, by decide +kernel⟩
theorem ok_moves {f C CB CN CJ CM c Pc : Addr} {T : List (Addr × Str)} {oc kV doc pm ct : Value} {od an : Option Addr} {osl : Array (Option Value)} (lk : K.lookup f = some ⟨oc, od, .func (PySem.W.fnOf "_law_moves_right" "_law_moves_right" (defArgs sMR) (defBody sMR) (defScope sMR) .none kV doc pm an (.ref c) ct), osl⟩) (hcd : PySem.W.codeIn K (.ref c) "_law_moves_right" = true)
    (TCm : TC K mg) (repr_ : mg "repr" = none) (R : ArK P w K mg base C CB CN CJ) (Er : ErK K mg CN CJ CB CM) (TBc : TabB base mg c Pc) (hmT : (Pc, ("_law_moves_right" : Str) ++ ".<locals>." ++ "<lambda>") ∈ T) (hu : ∀ p ∈ T, p.1 = Pc → p.2 = ("_law_moves_right" : Str) ++ ".<locals>." ++ "<lambda>")
    (Md : ToldAt K mg) (HP : Has P w K mg base CX0 2 "_law_pick" ["_law_draw_here", "_law_some"] spPick) (HT : Has P w K mg base CX0 3 "_law_thing" ["_law_draw_here"] spThing) (HS : Has P w K mg base CX0 2 "_law_is_stretch" ["_law_first", "_law_size"] spLS) :
    FnG P w K mg base CX0 11 f (PySem.W.fnOf "_law_moves_right" "_law_moves_right" (defArgs sMR) (defBody sMR) (defScope sMR) .none kV doc pm an (.ref c) ct) PP (spChk T) := by
  refine fn_g lk hcd scMR (fun vs H Q E h => ?_) fun A0 outer s0 H vs Q E gd hr h => ?_
  · obtain ⟨d, st, b, m, s, rfl, _⟩ := h
    rfl
  · obtain ⟨d, st, b, m, s, rfl, D, hst, hs, hT, k⟩ := h
    obtain ⟨g, oc2, dV2, kV2, doc2, pm2, cd2, ct2, od2, an2, osl2, mMd, kMd, lMd, cMd, bMd⟩ := Md
    obtain ⟨fI, fdI, MI, GI, bI⟩ := R.make
    obtain ⟨fP, fdP, GP, mP, kP, bP⟩ := HP
    obtain ⟨fT, fdT, GT, mT, kT, bT⟩ := HT
    obtain ⟨fS, fdS, GS, mS, kS, bS⟩ := HS
    obtain ⟨f1, d1, M1, G1, b1, g1, gV1, kb1, hg1⟩ := R.index
    obtain ⟨f5, d5, M5, G5, b5, g5, gV5, kb5, hg5⟩ := R.move
    obtain ⟨fE, fdE, GE, hE1, hE2, bE⟩ := R.eq_
    have hr1 := hr.mono (show 1 ≤ 10 by decide)
    have hr2 := hr.mono (show 2 ≤ 10 by decide)
    have hr3 := hr.mono (show 3 ≤ 10 by decide)
    have hr6 := hr.mono (show 6 ≤ 10 by decide)
    have hr7 := hr.mono (show 7 ≤ 10 by decide)
    have hr9 := hr.mono (show 9 ≤ 10 by decide)
    suffices hh : ∃ t, PSs (cxOf CX0 P w K mg base NM "_law_moves_right" (defScope sMR) f (.ref c) A0 outer s0 H E).nox (defBody sMR) t ∧ t { nx := fun _ H' => Q .non H', rt := Q } (start NM [.ref d, .int b, .int m, .int s]) H by
      obtain ⟨t, h1, h2⟩ := hh
      exact ⟨t, h1.nox, h2⟩
    refine ⟨_, pss_cons (ps_asg (pe_tup (pa_cons (pe_make MI GI hr6 rfl R.mC bI .nil passL (pa_cons (pv 1) (pa_cons (pv 2) (pa_cons (pv 3) pa_nil)))) (pa_cons (pe_call GP hr2 rfl mP kP bP .nil pass0 (pa_cons (pv 0) (pa_cons (pe_lst (pa_cons pe_int (pa_cons (pe_op op_sub pe_int (pv 2)) (pa_cons (pe_op op_sub pe_int (pv 2)) (pa_cons (pe_call GT hr3 rfl mT kT bT .nil pass0 (pa_cons (pv 0) pa_nil)) pa_nil))))) pa_nil))) pa_nil)))
        (pg_tup (by rfl) (pgs_cons (pg_name (i := 4) scMR.nd rfl (Or.inr rfl)) (pgs_cons (pg_name (i := 5) scMR.nd rfl (Or.inr rfl)) pgs_nil))))
      (pss_cons (ps_if (pt_not (pt_val (pe_call GS hr2 rfl mS kS bS .nil pass0 (pa_cons (pv 5) (pa_cons (pv 2) pa_nil)))))
        (pss_one (ps_ret (pe_cmpR op_eq
          (pe_lamcall (T := T) (TT := TTTold CN CJ CB) rfl mMd kMd lMd cMd bMd scTold rfl (Or.inl rfl) (told_gives gd hr1 TCm repr_ Er) TBc rfl hmT hu hr9 (lamS_by (by show lamSB (defScope sMR) _ = true; decide +kernel)) rfl (fun _ _ _ _ _ => rfl)
            (fun A outer s H E f c' hr' => pe_meth (pv 4) R.ar.cl M5 G5 hr' b5 .nil (passes_call (takes_of rfl rfl rfl rfl) (fun _ _ _ _ h => h)) (pa_cons (pv 5) pa_nil))) pe_str (nomark _)))) pss_nil)
      (pss_cons (ps_set (i := 6) scMR.nd rfl (Or.inl rfl) (pe_methK0 (pv 4) R.ar.cl M5 G5 hr7 kb5 passL (pk_cons (pv 5) pk_nil)))
      (pss_cons (ps_if (PW.pt (pw_or (pt_not (pt_cmpR (op_eqOwn (C := C) (E := E0) GE hE1 hE2 bE pass0 hr1) (pv 6) (pe_make MI GI hr6 rfl R.mC bI .nil passL (pa_cons (pv 5) (pa_cons (pv 2) (pa_cons (pe_op op_sub (pe_op op_add (pv 3) (pv 1)) (pv 5)) pa_nil)))) (nomark _)))
          (pw_or1 (pt_not (pt_cmpR (op_eqOwn (C := C) (E := E0) GE hE1 hE2 bE pass0 hr1) (pe_meth (pe_meth (pv 4) R.ar.cl M5 G5 hr7 b5 .nil passL (pa_cons (pv 5) pa_nil)) R.ar.cl M5 G5 hr7 b5 .nil passL (pa_cons (pv 1) pa_nil)) (pv 4) (nomark _)))))) (pss_one (ps_ret pe_bl)) pss_nil)
      (pss_one (ps_ret (pe_cmpR op_eq (pe_meth (pv 6) R.ar.cl M1 G1 hr3 b1 .nil passL (pa_cons (pe_op op_sub (pe_op op_add (pv 5) (pv 2)) pe_int) pa_nil)) (pe_meth (pv 4) R.ar.cl M1 G1 hr3 b1 .nil passL (pa_cons (pe_op op_sub (pe_op op_add (pv 1) (pv 2)) pe_int) pa_nil)) (nomark _))))))), ?_⟩
    have st' := isS_iff.mp hst
    refine ⟨_, rfl, _, rfl, _, rfl, ?_⟩
    refine fun ar dx nx ndx ne => mk_one nx ndx ne (.int _) (.int _) (.int _) (okA_ints hst) fun H1 s1 ha1 => ⟨rfl, ?_⟩
    have D1 := D.same s1
    refine ⟨_, rfl, _, rfl, _, _, rfl, rfl, _, rfl, _, _, rfl, rfl, _, rfl, d, st, rfl, D1, fun v p H2 hv hf nv D2 kp2 => ?_⟩
    refine ⟨by show 4 ≤ sizeLine; decide, fun L nL => ?_⟩
    obtain ⟨nLd, nLs⟩ := D2.ne (Same.refl _) nL
    generalize eH3 : upd H2 L _ = H3
    have s3 : Same H2 H3 := by rw [← eH3]; exact sameNew nL
    have a3 : H3 L = some (HO.lst [V.int 0, V.int (10000 - m), V.int (10001 - m), v] : HO) := by rw [← eH3]; exact upd_same
    clear eH3
    refine ⟨d, st, L, _, rfl, D2.same s3, a3, nLd, nLs, by show 0 < 4; decide, by show 4 < 1000000; decide, fun u H4 mu D4 kp4 => ?_⟩
    have vd : ∀ a, v = .ref a → a ≠ d ∧ a ≠ st := fun a e => by
      have z := nv a e
      obtain ⟨ms, sp, mx, hd, hs', _⟩ := D1
      exact ⟨(fun q => by rw [q, hd] at z; cases z), (fun q => by rw [q, hs'] at z; cases z)⟩
    have hu4 : AnyV H4 u := by
      simp only [List.mem_cons, List.not_mem_nil, or_false] at mu
      rcases mu with rfl | rfl | rfl | rfl
      · exact .int _
      · exact .int _
      · exact .int _
      · exact ThV.any (hv.mono fun a o e ho _ => kp4 _ _ (s3 _ _ ho) (vd a e).1 (vd a e).2)
    refine ⟨by show 2 ≤ sizeLine; decide, fun t nt => ?_⟩
    generalize eH5 : upd H4 t _ = H5
    have s5 : Same H4 H5 := by rw [← eH5]; exact sameNew nt
    have a5 : H5 t = some (HO.tup [V.ref ar, u] : HO) := by rw [← eH5]; exact upd_same
    clear eH5
    refine ⟨t, _, rfl, SqT.of a5, rfl, _, _, rfl, _, _, rfl, rfl, ?_⟩
    have K5 : Pk T d st C ar dx b m s H5 := ((((⟨D1, hT.ext s1, ha1⟩ : Pk T d st C ar dx b m s H1)).kp D2 kp2).same s3 |>.kp D4 kp4).same s5
    have hu5 : AnyV H5 u := AnyV.same hu4 s5
    refine ⟨_, rfl, _, rfl, u, .int m, rfl, hu5, .int _, _, rfl, ?_⟩
    cases e : isS u (.int m) with
    | false =>
      refine iteT ⟨K5.t, fun H6 eN T6 H7 E' Q' s7 hQ hE => ?_⟩
      have K7 := (K5.go eN T6).same s7
      refine ⟨_, rfl, ar, dx, _, rfl, K7.a, ArF_no _ _ _, _, rfl, ar, dx, b, m, s, u, rfl, K7.a, ?_, fun i z1 z2 => ?_, fun _ => hE _ _ _ (.inr (.inr ⟨rfl, rfl, fun H' s' => ⟨rfl, ?_⟩⟩))⟩
      · exact AnyV.same (hu5.mono fun a o _ ho hn => eN _ _ ho hn) s7
      · rw [e] at z2; cases z2
      · rw [decide_eq_true rfl]
        exact k H' (K7.same s').D (K7.same s').t
    | true =>
      refine iteF ?_
      obtain ⟨i, rfl⟩ : ∃ i, u = .int i := by cases u <;> simp [isS] at e <;> exact ⟨_, rfl⟩
      -- found = area.moved(to=target)
      refine ⟨_, rfl, ar, dx, _, rfl, K5.a, ArF_no _ _ _, _, rfl, rfl, rfl, ?_⟩
      rw [hg5]
      refine ⟨ar, dx, b, m, s, .int i, rfl, K5.a, .int _, fun n en z r dr H6 s6 a6 => ?_, fun z => by rw [e] at z; cases z⟩
      cases en
      have K6 := K5.same s6
      -- found == Area(..)
      refine ⟨_, rfl, _, rfl, _, rfl, _, rfl, _, rfl, _, _, rfl, rfl, _, rfl, _, _, rfl, rfl, ?_⟩
      refine fun q5 d5 nq nd ne5 => mk_one nq nd ne5 (.int _) (.int _) (.int _) (okA_ints e) fun H7 s7 a7 => ⟨rfl, ?_⟩
      refine ⟨r, dr, _, _, rfl, s7 _ _ a6, R.it.ty a7, R.nf1, ⟨r, dr, _, _, _, _, rfl, s7 _ _ a6, .inl ⟨q5, d5, _, _, _, rfl, a7, fun H8 s8 => ⟨_, rfl, _, rfl, ?_⟩⟩⟩⟩
      rw [show decide (i = i ∧ m = m ∧ s + b - i = s + b - i) = true from by simp]
      refine iteF ?_
      have s68 := s7.trans s8
      have K8 := K6.same s68
      -- area.moved(target).moved(first) == area
      refine ⟨_, rfl, ar, dx, _, rfl, K8.a, ArF_no _ _ _, _, rfl, ar, dx, b, m, s, .int i, rfl, K8.a, .int _, fun n en z r2 dr2 H9 s9 a9 => ?_, fun z => by rw [e] at z; cases z⟩
      cases en
      refine ⟨r2, dr2, _, rfl, a9, ArF_no _ _ _, _, rfl, r2, dr2, i, m, s + b - i, .int b, rfl, a9, .int _, fun n en z r3 dr3 H10 s10 a10 => ?_, fun z => by rw [hst] at z; cases z⟩
      cases en
      have K10 := (K8.same s9).same s10
      refine ⟨_, rfl, r3, dr3, _, _, rfl, a10, R.it.ty K10.a, R.nf1, ⟨r3, dr3, _, _, _, _, rfl, a10, .inl ⟨ar, dx, _, _, _, rfl, K10.a, fun H11 s11 => ⟨_, rfl, _, rfl, ?_⟩⟩⟩⟩
      rw [show decide (b = b ∧ m = m ∧ s + b - i + i - b = s) = true from decide_eq_true ⟨rfl, rfl, by omega⟩]
      refine iteF ?_
      have K11 := K10.same s11
      have a11 := s11 _ _ (s10 _ _ (s9 _ _ (s68 _ _ a6)))
      -- found.index_of(..) == area.index_of(..)
      refine ⟨_, rfl, r, dr, _, rfl, a11, ArF_no _ _ _, _, rfl, _, rfl, _, _, rfl, rfl, _, _, rfl, rfl, r, dr, i, m, s + b - i, .int (i + m - 1), rfl, a11, .int _, fun n en z => ?_, fun z => ?_⟩
      case refine_2 =>
        simp [inA] at z
        omega
      cases en
      refine ⟨_, rfl, ar, dx, _, rfl, K11.a, ArF_no _ _ _, _, rfl, _, rfl, _, _, rfl, rfl, _, _, rfl, rfl, ar, dx, b, m, s, .int (b + m - 1), rfl, K11.a, .int _, fun n en z => ?_, fun z => ?_⟩
      case refine_2 =>
        simp [inA] at z
        omega
      cases en
      refine ⟨rfl, ?_⟩
      rw [show (decide (V.int (i + m - 1 + (s + b - i)) = V.int (b + m - 1 + s))) = true from decide_eq_true (congrArg V.int (by omega))]
      exact k H11 K11.D K11.t
end
end Bm
set_option maxRecDepth 100000
set_option maxHeartbeats 4000000
namespace Bm
open PySem L2 L3 LamX
section
variable {P : Program} {w : World} {K : PySem.W.Frag} {mg : Str → Option Value} {base : Heap}
abbrev NJ : List Str := ["_law_draw_here", "_law_first", "_law_size", "_law_line", "_law_area", "_law_after", "_law_room", "_law_more"]
theorem scJR : FnScope NJ PP (defScope sJR) := ⟨rfl, rfl, rfl, by decide +kernel, rfl, by decide +kernel, by decide +kernel⟩
theorem ok_joins {f C CB CN CJ CM c Pc : Addr} {T : List (Addr × Str)} {oc kV doc pm ct : Value} {od an : Option Addr} {osl : Array (Option Value)} (lk : K.lookup f = some ⟨oc, od, .func (PySem.W.fnOf "_law_joins_right" "_law_joins_right" (defArgs sJR) (defBody sJR) (defScope sJR) .none kV doc pm an (.ref c) ct), osl⟩) (hcd : PySem.W.codeIn K (.ref c) "_law_joins_right" = true)
    (TCm : TC K mg) (repr_ : mg "repr" = none) (R : ArK P w K mg base C CB CN CJ) (Er : ErK K mg CN CJ CB CM) (TBc : TabB base mg c Pc) (hmT : (Pc, ("_law_joins_right" : Str) ++ ".<locals>." ++ "<lambda>") ∈ T) (hu : ∀ p ∈ T, p.1 = Pc → p.2 = ("_law_joins_right" : Str) ++ ".<locals>." ++ "<lambda>")
    (Md : ToldAt K mg) (HP : Has P w K mg base CX0 2 "_law_pick" ["_law_draw_here", "_law_some"] spPick) (HD : Has P w K mg base CX0 1 "_law_draw" ["_law_draw_here", "_law_below"] spDraw) :
    FnG P w K mg base CX0 11 f (PySem.W.fnOf "_law_joins_right" "_law_joins_right" (defArgs sJR) (defBody sJR) (defScope sJR) .none kV doc pm an (.ref c) ct) PP (spChk T) := by
  refine fn_g lk hcd scJR (fun vs H Q E h => ?_) fun A0 outer s0 H vs Q E gd hr h => ?_
  · obtain ⟨d, st, b, m, s, rfl, _⟩ := h
    rfl
  · obtain ⟨d, st, b, m, s, rfl, D, hst, hs, hT, k⟩ := h
    obtain ⟨g, oc2, dV2, kV2, doc2, pm2, cd2, ct2, od2, an2, osl2, mMd, kMd, lMd, cMd, bMd⟩ := Md
    obtain ⟨fI, fdI, MI, GI, bI⟩ := R.make
    obtain ⟨fP, fdP, GP, mP, kP, bP⟩ := HP
    obtain ⟨fD, fdD, GD, mD, kD, bD⟩ := HD
    obtain ⟨f4, d4, M4, G4, b4, g4, gV4, kb4, hg4⟩ := R.join
    obtain ⟨fE, fdE, GE, hE1, hE2, bE⟩ := R.eq_
    have hr1 := hr.mono (show 1 ≤ 10 by decide)
    have hr2 := hr.mono (show 2 ≤ 10 by decide)
    have hr3 := hr.mono (show 3 ≤ 10 by decide)
    have hr6 := hr.mono (show 6 ≤ 10 by decide)
    have hr7 := hr.mono (show 7 ≤ 10 by decide)
    have hr9 := hr.mono (show 9 ≤ 10 by decide)
    suffices hh : ∃ t, PSs (cxOf CX0 P w K mg base NJ "_law_joins_right" (defScope sJR) f (.ref c) A0 outer s0 H E).nox (defBody sJR) t ∧ t { nx := fun _ H' => Q .non H', rt := Q } (start NJ [.ref d, .int b, .int m, .int s]) H by
      obtain ⟨t, h1, h2⟩ := hh
      exact ⟨t, h1.nox, h2⟩
    refine ⟨_, (pss_cons (ps_asg (pe_tup (pa_cons (pe_make MI GI hr6 rfl R.mC bI .nil passL (pa_cons (pv 1) (pa_cons (pv 2) (pa_cons (pv 3) pa_nil)))) (pa_cons (pe_op op_add (pv 1) (pv 2)) (pa_cons (pe_op op_sub (pe_op op_sub pe_int (pv 1)) (pv 2)) pa_nil)))) (pg_tup (by rfl) (pgs_cons (pg_name (i := 4) scJR.nd rfl (Or.inr rfl)) (pgs_cons (pg_name (i := 5) scJR.nd rfl (Or.inr rfl)) (pgs_cons (pg_name (i := 6) scJR.nd rfl (Or.inr rfl)) pgs_nil)))))
      (pss_cons (ps_if (pt_cmpR op_ne (pe_lamcall (T := T) (TT := TTTold CN CJ CB) rfl mMd kMd lMd cMd bMd scTold rfl (Or.inl rfl) (told_gives gd hr1 TCm repr_ Er) TBc rfl hmT hu hr9 (lamS_by (by show lamSB (defScope sJR) _ = true; decide +kernel)) rfl (fun _ _ _ _ _ => rfl)
          (fun A outer s H E f c' hr' => pe_meth (pv 4) R.ar.cl M4 G4 hr' b4 .nil (passes_call (takes_of rfl rfl rfl rfl) (fun _ _ _ _ h => h)) (pa_cons (pe_call GP (hr'.mono (by decide)) rfl mP kP bP .nil pass0 (pa_cons (pv 0) (pa_cons (pe_lst (pa_cons pe_non (pa_cons pe_int (pa_cons (pv 4) (pa_cons (pe_tup (pa_cons (pv 5) (pa_cons pe_int (pa_cons (pv 3) pa_nil)))) (pa_cons (pe_lst pa_nil) (pa_cons pe_str pa_nil))))))) pa_nil))) pa_nil))) pe_str (nomark _)) (pss_one (ps_ret pe_bl)) pss_nil)
      (pss_cons (ps_if (pt_cmpR op_eq (pv 6) pe_int (nomark _)) (pss_one (ps_ret pe_bl)) pss_nil)
      (pss_cons (ps_set (i := 7) scJR.nd rfl (Or.inr rfl) (pe_op op_add pe_int (pe_call GD hr1 rfl mD kD bD .nil pass0 (pa_cons (pv 0) (pa_cons (pv 6) pa_nil)))))
      (pss_cons (ps_if (pt_not (pt_cmpR (op_eqOwn (C := C) (E := E0) GE hE1 hE2 bE pass0 hr1) (pe_meth (pv 4) R.ar.cl M4 G4 hr7 b4 .nil passL (pa_cons (pe_make MI GI hr6 rfl R.mC bI .nil passL (pa_cons (pv 5) (pa_cons (pv 7) (pa_cons (pv 3) pa_nil)))) pa_nil)) (pe_make MI GI hr6 rfl R.mC bI .nil passL (pa_cons (pv 1) (pa_cons (pe_op op_add (pv 2) (pv 7)) (pa_cons (pv 3) pa_nil)))) (nomark _))) (pss_one (ps_ret pe_bl)) pss_nil)
      (pss_cons (ps_if (pt_cmpR op_ne (pe_lamcall (T := T) (TT := TTTold CN CJ CB) rfl mMd kMd lMd cMd bMd scTold rfl (Or.inl rfl) (told_gives gd hr1 TCm repr_ Er) TBc rfl hmT hu hr9 (lamS_by (by show lamSB (defScope sJR) _ = true; decide +kernel)) rfl (fun _ _ _ _ _ => rfl)
          (fun A outer s H E f c' hr' => pe_meth (pv 4) R.ar.cl M4 G4 hr' b4 .nil (passes_call (takes_of rfl rfl rfl rfl) (fun _ _ _ _ h => h)) (pa_cons (pe_make MI GI (hr'.mono (by decide)) rfl R.mC bI .nil passL (pa_cons (pv 5) (pa_cons (pv 7) (pa_cons (pe_op op_add (pv 3) (pe_call GP (hr'.mono (by decide)) rfl mP kP bP .nil pass0 (pa_cons (pv 0) (pa_cons (pe_lst (pa_cons pe_int (pa_cons (pe_un un_neg pe_int) (pa_cons (pe_op op_pow pe_int pe_int) pa_nil)))) pa_nil)))) pa_nil)))) pa_nil))) pe_str (nomark _)) (pss_one (ps_ret pe_bl)) pss_nil)
      (pss_cons (ps_if (pt_cmpR op_ne (pe_lamcall (T := T) (TT := TTTold CN CJ CB) rfl mMd kMd lMd cMd bMd scTold rfl (Or.inl rfl) (told_gives gd hr1 TCm repr_ Er) TBc rfl hmT hu hr9 (lamS_by (by show lamSB (defScope sJR) _ = true; decide +kernel)) rfl (fun _ _ _ _ _ => rfl)
          (fun A outer s H E f c' hr' => pe_meth (pe_make MI GI (hr'.mono (by decide)) rfl R.mC bI .nil passL (pa_cons (pv 5) (pa_cons (pv 7) (pa_cons (pv 3) pa_nil)))) R.ar.cl M4 G4 hr' b4 .nil (passes_call (takes_of rfl rfl rfl rfl) (fun _ _ _ _ h => h)) (pa_cons (pv 4) pa_nil))) pe_str (nomark _)) (pss_one (ps_ret pe_bl)) pss_nil)
      (pss_one (ps_ret (pe_or (pe_cmpR op_eq (pv 6) (pv 7) (nomark _)) (pe_one (pe_cmpR op_eq (pe_lamcall (T := T) (TT := TTTold CN CJ CB) rfl mMd kMd lMd cMd bMd scTold rfl (Or.inl rfl) (told_gives gd hr1 TCm repr_ Er) TBc rfl hmT hu hr9 (lamS_by (by show lamSB (defScope sJR) _ = true; decide +kernel)) rfl (fun _ _ _ _ _ => rfl)
          (fun A outer s H E f c' hr' => pe_meth (pv 4) R.ar.cl M4 G4 hr' b4 .nil (passes_call (takes_of rfl rfl rfl rfl) (fun _ _ _ _ h => h)) (pa_cons (pe_make MI GI (hr'.mono (by decide)) rfl R.mC bI .nil passL (pa_cons (pe_op op_add (pv 5) pe_int) (pa_cons (pe_op op_sub (pv 6) (pv 7)) (pa_cons (pv 3) pa_nil)))) pa_nil))) pe_str (nomark _))))))))))))), ?_⟩
    have st' := isS_iff.mp hst
    -- area, after, room = ..
    refine ⟨_, rfl, _, rfl, _, rfl, ?_⟩
    refine fun ar dx nx ndx ne => mk_one nx ndx ne (.int _) (.int _) (.int _) (okA_ints hst) fun H1 s1 ha1 => ⟨rfl, ?_⟩
    refine ⟨_, rfl, _, rfl, _, _, rfl, rfl, _, rfl, _, _, rfl, rfl, _, rfl, _, _, rfl, rfl, by show 3 ≤ sizeLine; decide, fun t nt => ?_⟩
    generalize eH2 : upd H1 t _ = H2
    have s2 : Same H1 H2 := by rw [← eH2]; exact sameNew nt
    have a2 : H2 t = some (HO.tup [V.ref ar, V.int (b + m), V.int (10000 - b - m)] : HO) := by rw [← eH2]; exact upd_same
    clear eH2
    refine ⟨t, _, rfl, SqT.of a2, rfl, _, _, rfl, _, _, rfl, _, _, rfl, rfl, ?_⟩
    have K2 : Pk T d st C ar dx b m s H2 := (⟨D.same s1, hT.ext s1, ha1⟩ : Pk T d st C ar dx b m s H1).same s2
    -- told(area.joined(pick(..))) != 'join'
    refine ⟨K2.t, fun H3 eN T3 H4 E' Q' s4 hQ hE => ?_⟩
    have K4 := (K2.go eN T3).same s4
    refine ⟨_, rfl, ar, dx, _, rfl, K4.a, ArF_no _ _ _, _, rfl, _, rfl, _, rfl, _, rfl, by show 3 ≤ sizeLine; decide, fun u1 nu1 => ?_⟩
    generalize eH5 : upd H4 u1 _ = H5
    have s5 : Same H4 H5 := by rw [← eH5]; exact sameNew nu1
    have a5 : H5 u1 = some (HO.tup [V.int (b + m), V.int 1, V.int s] : HO) := by rw [← eH5]; exact upd_same
    clear eH5
    refine ⟨by decide, fun l1 nl1 => ?_⟩
    generalize eH6 : upd H5 l1 _ = H6
    have s6 : Same H5 H6 := by rw [← eH6]; exact sameNew nl1
    have a6 : H6 l1 = some (HO.lst [] : HO) := by rw [← eH6]; exact upd_same
    clear eH6
    refine ⟨by show 6 ≤ sizeLine; decide, fun L nL => ?_⟩
    have K6 := (K4.same s5).same s6
    obtain ⟨nLd, nLs⟩ := K6.D.ne (Same.refl _) nL
    obtain ⟨nld, nls⟩ := (K4.same s5).D.ne (Same.refl _) nl1
    obtain ⟨nud, nus⟩ := K4.D.ne (Same.refl _) nu1
    generalize eH7 : upd H6 L _ = H7
    have s7 : Same H6 H7 := by rw [← eH7]; exact sameNew nL
    have a7 : H7 L = some (HO.lst [V.non, V.int 5, V.ref ar, V.ref u1, V.ref l1, V.str "a"] : HO) := by rw [← eH7]; exact upd_same
    clear eH7
    have K7 := K6.same s7
    refine ⟨d, st, L, _, rfl, K7.D, a7, nLd, nLs, by show 0 < 6; decide, by show 6 < 1000000; decide, fun u H8 mu D8 kp8 => ?_⟩
    have K8 := K7.kp D8 kp8
    have no : E' (.ref CJ) none H8 → spJoin C CJ [.ref ar, u] H8 Q' E' := fun z => by
      refine ⟨ar, dx, b, m, s, u, rfl, K8.a, hst, ?_⟩
      simp only [List.mem_cons, List.not_mem_nil, or_false] at mu
      rcases mu with rfl | rfl | rfl | rfl | rfl | rfl
      · exact .inr ⟨.non, z⟩
      · exact .inr ⟨.int _, z⟩
      · exact .inl ⟨ar, dx, b, m, s, rfl, K8.a, hst, fun q => absurd q (by omega), fun _ => z⟩
      · exact .inr ⟨.tup (kp8 _ _ (s7 _ _ (s6 _ _ a5)) nud nus), z⟩
      · exact .inr ⟨.lst (kp8 _ _ (s7 _ _ a6) nld nls), z⟩
      · exact .inr ⟨.str _, z⟩
    refine no (hE _ _ _ (.inr (.inl ⟨rfl, rfl, fun H9 s9 => ⟨rfl, _, rfl, ?_⟩⟩)))
    rw [decide_eq_true rfl]
    refine iteF ?_
    have K9 := K8.same s9
    -- room == 0
    refine ⟨_, rfl, rfl, _, rfl, ?_⟩
    by_cases r0 : (10000 : Int) - b - m = 0
    · rw [show (decide (V.int (10000 - b - m) = V.int 0)) = true from decide_eq_true (by rw [r0])]
      exact iteT (k H9 K9.D K9.t)
    rw [show (decide (V.int (10000 - b - m) = V.int 0)) = false from decide_eq_false fun z => r0 (V.int.inj z)]
    refine iteF ?_
    -- more = 1 + draw
    refine ⟨_, rfl, _, rfl, d, st, _, rfl, K9.D, by omega, by omega, fun r H10 q0 q1 D10 kp10 => ?_⟩
    have K10 := K9.kp D10 kp10
    refine ⟨_, _, rfl, rfl, ?_⟩
    have i1 : isS (.int (b + m)) (.int (1 + r)) = true := isS_iff.mpr ⟨by omega, by omega, by omega⟩
    have i2 : isS (.int b) (.int (m + (1 + r))) = true := isS_iff.mpr ⟨by omega, by omega, by omega⟩
    -- area.joined(Area(after, more, line)) == Area(first, size + more, line)
    refine ⟨_, rfl, ar, dx, _, rfl, K10.a, ArF_no _ _ _, _, rfl, _, rfl, _, rfl, ?_⟩
    refine fun q1 e1 nq nd ne1 => mk_one nq nd ne1 (.int _) (.int _) (.int _) (okA_ints i1) fun H11 s11 a11 => ⟨rfl, ?_⟩
    have K11 := K10.same s11
    refine ⟨ar, dx, b, m, s, .ref q1, rfl, K11.a, hst, .inl ⟨q1, e1, b + m, 1 + r, s, rfl, a11, i1, fun _ _ x ex H12 s12 a12 => ?_, fun z => (z ⟨rfl, rfl⟩).elim⟩⟩
    have K12 := K11.same s12
    refine ⟨_, rfl, _, rfl, _, rfl, _, _, rfl, rfl, _, rfl, ?_⟩
    refine fun q2 e2 nq nd ne2 => mk_one nq nd ne2 (.int _) (.int _) (.int _) (okA_ints i2) fun H13 s13 a13 => ⟨rfl, ?_⟩
    have K13 := K12.same s13
    refine ⟨x, ex, _, _, rfl, s13 _ _ a12, R.it.ty a13, R.nf1, ⟨x, ex, _, _, _, _, rfl, s13 _ _ a12, .inl ⟨q2, e2, _, _, _, rfl, a13, fun H14 s14 => ⟨_, rfl, _, rfl, ?_⟩⟩⟩⟩
    rw [show decide (b = b ∧ m + (1 + r) = m + (1 + r) ∧ s = s) = true from by simp]
    refine iteF ?_
    have K14 := K13.same s14
    -- told(area.joined(Area(after, more, line + pick(..))))
    refine ⟨K14.t, fun H15 eN T15 H16 E' Q' s16 hQ hE => ?_⟩
    have K16 := (K14.go eN T15).same s16
    refine ⟨_, rfl, ar, dx, _, rfl, K16.a, ArF_no _ _ _, _, rfl, _, rfl, _, rfl, _, rfl, _, rfl, _, _, rfl, rfl, ⟨by decide, by decide, by decide⟩, by show 3 ≤ sizeLine; decide, fun L2 nL2 => ?_⟩
    obtain ⟨n2d, n2s⟩ := K16.D.ne (Same.refl _) nL2
    generalize eH17 : upd H16 L2 _ = H17
    have s17 : Same H16 H17 := by rw [← eH17]; exact sameNew nL2
    have a17 : H17 L2 = some (HO.lst [V.int 1, V.int (-1), V.int (10 ^ 9)] : HO) := by rw [← eH17]; exact upd_same
    clear eH17
    have K17 := K16.same s17
    refine ⟨d, st, L2, _, rfl, K17.D, a17, n2d, n2s, by show 0 < 3; decide, by show 3 < 1000000; decide, fun w H18 mw D18 kp18 => ?_⟩
    obtain ⟨w, rfl, w0⟩ : ∃ z, w = .int z ∧ z ≠ 0 := by
      simp only [List.mem_cons, List.not_mem_nil, or_false] at mw
      rcases mw with rfl | rfl | rfl <;> exact ⟨_, rfl, by decide⟩
    have K18 := K17.kp D18 kp18
    refine ⟨_, _, rfl, rfl, ?_⟩
    refine fun q3 e3 nq nd ne3 => mk_one nq nd ne3 (.int _) (.int _) (.int _) (okA_ints i1) fun H19 s19 a19 => ⟨rfl, ?_⟩
    have K19 := K18.same s19
    refine ⟨ar, dx, b, m, s, .ref q3, rfl, K19.a, hst, .inl ⟨q3, e3, b + m, 1 + r, s + w, rfl, a19, i1, fun _ z => absurd z (by omega), fun _ => hE _ _ _ (.inr (.inl ⟨rfl, rfl, fun H20 s20 => ⟨rfl, _, rfl, ?_⟩⟩))⟩⟩
    rw [decide_eq_true rfl]
    refine iteF ?_
    have K20 := K19.same s20
    -- told(Area(after, more, line).joined(area))
    refine ⟨K20.t, fun H21 eN T21 H22 E' Q' s22 hQ hE => ?_⟩
    have K22 := (K20.go eN T21).same s22
    refine ⟨_, rfl, _, rfl, _, rfl, ?_⟩
    refine fun q4 e4 nq nd ne4 => mk_one nq nd ne4 (.int _) (.int _) (.int _) (okA_ints i1) fun H23 s23 a23 => ⟨rfl, ?_⟩
    have K23 := K22.same s23
    refine ⟨q4, e4, _, rfl, a23, ArF_no _ _ _, _, rfl, q4, e4, b + m, 1 + r, s, .ref ar, rfl, a23, i1, .inl ⟨ar, dx, b, m, s, rfl, K23.a, hst, fun z => absurd z (by omega), fun _ => hE _ _ _ (.inr (.inl ⟨rfl, rfl, fun H24 s24 => ⟨rfl, _, rfl, ?_⟩⟩))⟩⟩
    rw [decide_eq_true rfl]
    refine iteF ?_
    have K24 := K23.same s24
    -- room == more or told(area.joined(Area(after + 1, room - more, line))) == 'join'
    refine ⟨_, rfl, _, rfl, rfl, _, rfl, ?_⟩
    by_cases rm : (10000 : Int) - b - m = 1 + r
    · rw [show (decide (V.int (10000 - b - m) = V.int (1 + r))) = true from decide_eq_true (by rw [rm])]
      exact iteT (k H24 K24.D K24.t)
    rw [show (decide (V.int (10000 - b - m) = V.int (1 + r))) = false from decide_eq_false fun z => rm (V.int.inj z)]
    refine iteF ⟨K24.t, fun H25 eN T25 H26 E' Q' s26 hQ hE => ?_⟩
    have K26 := (K24.go eN T25).same s26
    have i3 : isS (.int (b + m + 1)) (.int (10000 - b - m - (1 + r))) = true := isS_iff.mpr ⟨by omega, by omega, by omega⟩
    refine ⟨_, rfl, ar, dx, _, rfl, K26.a, ArF_no _ _ _, _, rfl, _, _, rfl, rfl, _, rfl, _, rfl, _, _, rfl, rfl, _, rfl, ?_⟩
    refine fun q5 e5 nq nd ne5 => mk_one nq nd ne5 (.int _) (.int _) (.int _) (okA_ints i3) fun H27 s27 a27 => ⟨rfl, ?_⟩
    have K27 := K26.same s27
    refine ⟨ar, dx, b, m, s, .ref q5, rfl, K27.a, hst, .inl ⟨q5, e5, b + m + 1, 10000 - b - m - (1 + r), s, rfl, a27, i3, fun z => absurd z (by omega), fun _ => hE _ _ _ (.inr (.inl ⟨rfl, rfl, fun H28 s28 => ⟨rfl, ?_⟩⟩))⟩⟩
    rw [decide_eq_true rfl]
    exact k H28 (K27.same s28).D (K27.same s28).t
end
end Bm
set_option maxRecDepth 100000
set_option maxHeartbeats 4000000
namespace Bm
open PySem L2 L3 LamX
def spLaw (K : PySem.W.Frag) (T : List (Addr × Str)) : Sp := fun vs H Q _ => ∃ (a : Addr) (ns : List Int), vs = [.ref a] ∧ SqL K H a (ns.map V.int) ∧ ns.length ≤ 63 ∧ Tabs T H ∧ ∀ H', Q (.bl true) H'
abbrev NLw : List Str := ["_law_script", "_law_draw_here", "_law_turn", "_law_first", "_law_size", "_law_line"]
section
variable {P : Program} {w : World} {K : PySem.W.Frag} {mg : Str → Option Value} {base : Heap}
/-- a def of the module, with its promise under no guards -/
def HasG (P : Program) (w : World) (K : PySem.W.Frag) (mg : Str → Option Value) (base : Heap) (CX : CXT) (k : Nat) (x : Str) (ps : List Str) (sp : Sp) : Prop :=
  ∃ f fd, FnG P w K mg base CX k f fd ps sp ∧ mg x = some (.ref f) ∧ PySem.W.keepIn K (.ref f) = true ∧ Binds K fd ps []
theorem scLaw : FnScope NLw ["_law_script"] (defScope sLaw) := ⟨rfl, rfl, rfl, by decide +kernel, rfl, by decide +kernel, by decide +kernel⟩
theorem ok_law {f : Addr} {T : List (Addr × Str)} {oc kV doc pm cdv ct : Value} {od an : Option Addr} {osl : Array (Option Value)} (lk : K.lookup f = some ⟨oc, od, .func (PySem.W.fnOf "law" "law" (defArgs sLaw) (defBody sLaw) (defScope sLaw) .none kV doc pm an cdv ct), osl⟩) (hcd : PySem.W.codeIn K cdv "law" = true) (range_ : mg "range" = none)
    (HState : Has P w K mg base CX0 1 "_law_state" ["_law_script"] (spState K)) (HD : Has P w K mg base CX0 1 "_law_draw" ["_law_draw_here", "_law_below"] spDraw) (HP : Has P w K mg base CX0 2 "_law_pick" ["_law_draw_here", "_law_some"] spPick) (HStretch : Has P w K mg base CX0 3 "_law_stretch" ["_law_draw_here"] spStretch)
    (HPR : HasG P w K mg base CX0 11 "_law_places_right" PP (spChk T)) (HJR : HasG P w K mg base CX0 11 "_law_joins_right" PP (spChk T)) (HMR : HasG P w K mg base CX0 11 "_law_moves_right" PP (spChk T)) :
    FnG P w K mg base CX0 12 f (PySem.W.fnOf "law" "law" (defArgs sLaw) (defBody sLaw) (defScope sLaw) .none kV doc pm an cdv ct) ["_law_script"] (spLaw K T) := by
  refine fn_g lk hcd scLaw (fun vs H Q E h => ?_) fun A0 outer s0 H vs Q E gd hr h => ?_
  · obtain ⟨a, ns, rfl, _⟩ := h
    rfl
  · obtain ⟨a, ns, rfl, hS, hlen, hT, k⟩ := h
    obtain ⟨f1, e1, GS, mS, kS, bS⟩ := HState
    obtain ⟨fD, fdD, GD, mD, kD, bD⟩ := HD
    obtain ⟨fP, fdP, GP, mP, kP, bP⟩ := HP
    obtain ⟨f5, e5, GSt, mSt, kSt, bSt⟩ := HStretch
    obtain ⟨f6, e6, G6, m6, k6, b6⟩ := HPR
    obtain ⟨f7, e7, G7, m7, k7, b7⟩ := HJR
    obtain ⟨f8, e8, G8, m8, k8, b8⟩ := HMR
    have hr1 := hr.mono (show 1 ≤ 11 by decide)
    have hr2 := hr.mono (show 2 ≤ 11 by decide)
    have hr3 := hr.mono (show 3 ≤ 11 by decide)
    suffices hh : ∃ t, PSs (cxOf CX0 P w K mg base NLw "law" (defScope sLaw) f cdv A0 outer s0 H E).nox (defBody sLaw) t ∧ t { nx := fun _ H' => Q .non H', rt := Q } (start NLw [.ref a]) H by
      obtain ⟨t, h1, h2⟩ := hh
      exact ⟨t, h1.nox, h2⟩
    refine ⟨_, pss_cons (ps_set (i := 1) scLaw.nd rfl (Or.inl rfl) (pe_call GS hr1 rfl mS kS bS .nil pass0 (pa_cons (pv 0) pa_nil)))
      (pss_cons (ps_for PassesOwn.never rfl (pi_range1 rfl range_ (pa_cons pe_int pa_nil)) (pg_name (i := 2) scLaw.nd rfl (Or.inl rfl))
        (pss_cons (ps_asg (pe_call GSt hr3 rfl mSt kSt bSt .nil pass0 (pa_cons (pv 1) pa_nil)) (pg_tup (by rfl) (pgs_cons (pg_name (i := 3) scLaw.nd rfl (Or.inl rfl)) (pgs_cons (pg_name (i := 4) scLaw.nd rfl (Or.inl rfl)) pgs_nil))))
        (pss_cons (ps_set (i := 5) scLaw.nd rfl (Or.inl rfl) (pe_call GP hr2 rfl mP kP bP .nil pass0 (pa_cons (pv 1) (pa_cons (pe_lst (pa_cons pe_int (pa_cons pe_int (pa_cons (pe_un un_neg (pv 3)) (pa_cons (pe_op op_pow pe_int pe_int) (pa_cons (pe_un un_neg (pe_op op_pow pe_int pe_int)) (pa_cons (pe_call GD hr1 rfl mD kD bD .nil pass0 (pa_cons (pv 1) (pa_cons pe_int pa_nil))) pa_nil))))))) pa_nil))))
        (pss_cons (ps_if (PW.pt (pw_or (pt_not (pt_val (pe_callG G6 gd hr rfl m6 k6 b6 .nil pass0 (pa_cons (pv 1) (pa_cons (pv 3) (pa_cons (pv 4) (pa_cons (pv 5) pa_nil))))))) (pw_or1 (pt_not (pt_val (pe_callG G7 gd hr rfl m7 k7 b7 .nil pass0 (pa_cons (pv 1) (pa_cons (pv 3) (pa_cons (pv 4) (pa_cons (pv 5) pa_nil)))))))))) (pss_one (ps_ret pe_bl)) pss_nil)
        (pss_one (ps_if (pt_not (pt_val (pe_callG G8 gd hr rfl m8 k8 b8 .nil pass0 (pa_cons (pv 1) (pa_cons (pv 3) (pa_cons (pv 4) (pa_cons (pv 5) pa_nil))))))) (pss_one (ps_ret pe_bl)) pss_nil))))))
      (pss_one (ps_ret pe_bl))), ?_⟩
    refine ⟨_, rfl, a, ns, rfl, hS, hlen, fun d st H0 s0 _ _ D0 => ?_⟩
    have T0 := hT.ext s0
    refine ⟨12, rfl, by decide, by decide, for_range (n := 12) (fun n σ H' => ∃ v2 v3 v4 v5 : Option V, σ = [some (.ref a), some (.ref d), v2, v3, v4, v5] ∧ Dr d st H' ∧ Tabs T H') ⟨none, none, none, none, rfl, D0, T0⟩ ?_ ?_⟩
    · rintro n σ H' hn ⟨v2, v3, v4, v5, rfl, D, Tb⟩
      refine ⟨_, rfl, d, st, rfl, D, fun b m t H1 hst ht D1 K1 => ⟨t, _, rfl, SqT.of ht, rfl, _, _, rfl, _, _, rfl, rfl, ?_⟩⟩
      have T1 := tabs_extL Tb (D.kpL K1)
      have st' := isS_iff.mp hst
      refine ⟨_, rfl, _, rfl, _, rfl, _, _, rfl, rfl, ⟨by decide, by decide, by decide⟩, _, _, rfl, rfl, ⟨by decide, by decide, by decide⟩, _, rfl, _, rfl, d, st, _, rfl, D1, by decide, by decide, fun r H2 r0 r1 D2 K2 => ⟨by show 6 ≤ sizeLine; decide, fun L nL => ?_⟩⟩
      obtain ⟨nLd, nLs⟩ := D2.ne (Same.refl _) nL
      generalize eH3 : upd H2 L _ = H3
      have s3 : Same H2 H3 := by rw [← eH3]; exact sameNew nL
      have a3 : H3 L = some (HO.lst [V.int 0, V.int 1, V.int (-b), V.int (10 ^ 17), V.int (-(10 ^ 17)), V.int r] : HO) := by rw [← eH3]; exact upd_same
      clear eH3
      have T3 := (tabs_extL T1 (D1.kpL K2)).ext s3
      have D3 := D2.same s3
      refine ⟨d, st, L, _, rfl, D3, a3, nLd, nLs, by show 0 < 6; decide, by show 6 < 1000000; decide, fun v H4 hv D4 K4 => ?_⟩
      have T4 := tabs_extL T3 (D3.kpL K4)
      obtain ⟨l, rfl, hl⟩ : ∃ l, v = V.int l ∧ l.natAbs < 2 ^ 70 := by
        simp only [List.mem_cons, List.not_mem_nil, or_false] at hv
        rcases hv with rfl | rfl | rfl | rfl | rfl | rfl
        · exact ⟨_, rfl, by decide⟩
        · exact ⟨_, rfl, by decide⟩
        · exact ⟨_, rfl, by omega⟩
        · exact ⟨_, rfl, by decide⟩
        · exact ⟨_, rfl, by decide⟩
        · exact ⟨_, rfl, by omega⟩
      refine ⟨_, rfl, _, rfl, _, rfl, _, rfl, d, st, b, m, l, rfl, D4, hst, hl, T4, fun H5 D5 T5 => ⟨_, rfl, iteF ?_⟩⟩
      refine ⟨_, rfl, _, rfl, _, rfl, _, rfl, d, st, b, m, l, rfl, D5, hst, hl, T5, fun H6 D6 T6 => ⟨_, rfl, iteF ?_⟩⟩
      refine ⟨_, rfl, _, rfl, _, rfl, _, rfl, d, st, b, m, l, rfl, D6, hst, hl, T6, fun H7 D7 T7 => ⟨_, rfl, iteF ?_⟩⟩
      exact ⟨_, _, _, _, rfl, D7, T7⟩
    · rintro σ H' ⟨v2, v3, v4, v5, rfl, D, Tb⟩
      exact k H'
end
end Bm
set_option maxRecDepth 100000
set_option maxHeartbeats 4000000
namespace Bm
open PySem L2 L3 LamX
abbrev sNI : Stmt := inClass (top 3) 0
section
variable {P : Program} {w : World} {K : PySem.W.Frag} {mg : Str → Option Value} {base : Heap}
theorem ok_noplace {CN cc cda f : Addr} {dV kV doc pm ct oc : Value} {od an : Option Addr} {osl : Array (Option Value)} (S : SupT P K mg CN cc cda "NoPlace.__init__") (hno : PySem.W.findIn K (.ref CN) "place" = some none)
    (lk : K.lookup f = some ⟨oc, od, .func (PySem.W.ksFn "__init__" "NoPlace.__init__" (defArgs sNI) (defBody sNI) (defScope sNI) dV kV doc pm an (.ref cda) ct cc), osl⟩) :
    FnOk P w K mg base CX0 1 f (PySem.W.ksFn "__init__" "NoPlace.__init__" (defArgs sNI) (defBody sNI) (defScope sNI) dV kV doc pm an (.ref cda) ct cc) ["self", "place"] (spSup CN "place") :=
  ok_sup (x := "place") S hno lk rfl rfl (by decide +kernel) (by decide +kernel) rfl rfl rfl rfl rfl (by decide +kernel) rfl rfl (fun _ => rfl) (fun _ => rfl) (fun _ => rfl) (fun _ => rfl)
/-- methods of one argument, by position and by name -/
theorem kb1 {x q : Str} {st : Stmt} {a : Str} {kV doc pm cdv ct : Value} {an : Option Addr}
    (h : ∀ u v : Value, bindArgs (PySem.W.fnOf x q (defArgs st) (defBody st) (defScope st) .none kV doc pm an cdv ct) ⟨[u], [(a, v)]⟩ = pure [(("self" : Str), u), (a, v)]) :
    KBn K (PySem.W.fnOf x q (defArgs st) (defBody st) (defScope st) .none kV doc pm an cdv ct) ["self", a] 1 [a] (fun us ws => us ++ ws) (fun us ws => us ++ ws) :=
  ⟨fun s us ws _ hu hw => match us, ws, hu, hw with | [u], [v], _, _ => .of_eq (h u v), fun r z => r.append z⟩
end
end Bm
set_option maxRecDepth 100000
set_option maxHeartbeats 4000000
namespace Bm
open PySem L2 L3 LamX
abbrev E4 : List Value := [.type "ValueError", .type "Exception", .type "BaseException", .type "object"]
theorem b1 {K : PySem.W.Frag} {x q : Str} {st : Stmt} {f : Addr} {fd : FuncData} {a : Str} (F : Fun K x q st f fd)
    (h : ∀ (kV doc pm : Value) (an : Option Addr) (cdv ct : Value) (us : List Value), us.length = [a].length → bindArgs (PySem.W.fnOf x q (defArgs st) (defBody st) (defScope st) .none kV doc pm an cdv ct) ⟨us, []⟩ = pure ([a].zip us)) : L2.Binds K fd [a] [] := F.binds h
theorem vals_rev : ∀ {xs : List V} {us : List Value}, Vals xs us → Vals xs.reverse us.reverse
  | _, _, .nil => .nil
  | _, _, .cons r t => by
    rw [List.reverse_cons, List.reverse_cons]
    exact (vals_rev t).append (.cons r .nil)
theorem all_mk {l : PySem.W.OpenLaw} {w : World} {K : PySem.W.Frag} {h : Heap} {mg : Str → Option Value} {fa : Addr} (X : K.In h) (G : h.Ns mainGlobals mg) (hfa : mg "law" = some (.ref fa))
    {C CB CM CN CJ T0 p3 c1 P1 c2 P2 c3 P3 ccN cdN : Addr} {tP : Tok} {fII : Addr} {odII anII : Option Addr} {slII : Array (Option Value)} {ocII kVII dcII pmII ctII : Value} {cdII : Value} {fIP : Addr} {odIP anIP : Option Addr} {slIP : Array (Option Value)} {ocIP kVIP dcIP pmIP ctIP : Value} {cdIP : Value} {fIS : Addr} {odIS anIS : Option Addr} {slIS : Array (Option Value)} {ocIS kVIS dcIS pmIS ctIS : Value} {cdIS : Value} {fNS : Addr} {odNS anNS : Option Addr} {slNS : Array (Option Value)} {ocNS kVNS dcNS pmNS ctNS : Value} {cdNS : Value} {fSt : Addr} {odSt anSt : Option Addr} {slSt : Array (Option Value)} {ocSt kVSt dcSt pmSt ctSt : Value} {cdSt : Value} {fDr : Addr} {odDr anDr : Option Addr} {slDr : Array (Option Value)} {ocDr kVDr dcDr pmDr ctDr : Value} {cdDr : Value} {fPi : Addr} {odPi anPi : Option Addr} {slPi : Array (Option Value)} {ocPi kVPi dcPi pmPi ctPi : Value} {cdPi : Value} {fTh : Addr} {odTh anTh : Option Addr} {slTh : Array (Option Value)} {ocTh kVTh dcTh pmTh ctTh : Value} {cdTh : Value} {fWh : Addr} {odWh anWh : Option Addr} {slWh : Array (Option Value)} {ocWh kVWh dcWh pmWh ctWh : Value} {cdWh : Value} {fLS : Addr} {odLS anLS : Option Addr} {slLS : Array (Option Value)} {ocLS kVLS dcLS pmLS ctLS : Value} {cdLS : Value} {fTo : Addr} {odTo anTo : Option Addr} {slTo : Array (Option Value)} {ocTo kVTo dcTo pmTo ctTo : Value} {cdTo : Value} {fSh : Addr} {odSh anSh : Option Addr} {slSh : Array (Option Value)} {ocSh kVSh dcSh pmSh ctSh : Value} {cdSh : Value} {fNe : Addr} {odNe anNe : Option Addr} {slNe : Array (Option Value)} {ocNe kVNe dcNe pmNe ctNe : Value} {cdNe : Value} {fPR : Addr} {odPR anPR : Option Addr} {slPR : Array (Option Value)} {ocPR kVPR dcPR pmPR ctPR : Value} {fJR : Addr} {odJR anJR : Option Addr} {slJR : Array (Option Value)} {ocJR kVJR dcJR pmJR ctJR : Value} {fMR : Addr} {odMR anMR : Option Addr} {slMR : Array (Option Value)} {ocMR kVMR dcMR pmMR ctMR : Value} {fLa : Addr} {odLa anLa : Option Addr} {slLa : Array (Option Value)} {ocLa kVLa dcLa pmLa ctLa : Value} {cdLa : Value} {dd0 : Option Addr} {sl0 : Array (Option Value)} {oc0 : Value} {n0 : Nat} {t0 : Tok} {fIn : Addr} {odIn anIn : Option Addr} {slIn : Array (Option Value)} {ocIn kVIn dcIn pmIn ctIn : Value} {cdIn : Value} {r3 : List Value} {fP3 : Addr} {odP3 anP3 : Option Addr} {slP3 : Array (Option Value)} {ocP3 kVP3 dcP3 pmP3 ctP3 : Value} {cdP3 : Value} {fHa : Addr} {odHa anHa : Option Addr} {slHa : Array (Option Value)} {ocHa kVHa dcHa pmHa ctHa : Value} {cdHa : Value} {fIx : Addr} {odIx anIx : Option Addr} {slIx : Array (Option Value)} {ocIx kVIx dcIx pmIx ctIx : Value} {cdIx : Value} {fPl : Addr} {odPl anPl : Option Addr} {slPl : Array (Option Value)} {ocPl kVPl dcPl pmPl ctPl : Value} {cdPl : Value} {fCu : Addr} {odCu anCu : Option Addr} {slCu : Array (Option Value)} {ocCu kVCu dcCu pmCu ctCu : Value} {cdCu : Value} {fJo : Addr} {odJo anJo : Option Addr} {slJo : Array (Option Value)} {ocJo kVJo dcJo pmJo ctJo : Value} {cdJo : Value} {fMo : Addr} {odMo anMo : Option Addr} {slMo : Array (Option Value)} {ocMo kVMo dcMo pmMo ctMo : Value} {cdMo : Value} {fEq : Addr} {odEq anEq : Option Addr} {slEq : Array (Option Value)} {ocEq kVEq dcEq pmEq ctEq : Value} {cdEq : Value} {nmN qnN : Str} {NN : Addr} {bsN bmN : List Value} {snN : List Str} {subN : List Value} {abN : Bool} {colN : Option Bool} {ddN : Option Addr} {k0N k1N k2N k3N k5N : Option Value} {fNI : Addr} {ocNI kVN dcN pmN ctN : Value} {odNI anN : Option Addr} {slNI : Array (Option Value)} {occN : Value} {odcN : Option Addr} {vsN : Array Value} {slcN : Array (Option Value)} {fileN : Str} {tfN : Tok} {clN : Value} {cldN : Option Addr} {cslN : Array (Option Value)} {cdCN : ClassData} {oc_1 : Value} {od_1 : Option Addr} {vs_1 : Array Value} {sl_1 : Array (Option Value)} {oc_2 : Value} {od_2 : Option Addr} {vs_2 : Array Value} {sl_2 : Array (Option Value)} {oc_3 : Value} {od_3 : Option Addr} {vs_3 : Array Value} {sl_3 : Array (Option Value)}
    (aC : PySem.W.nsIn K mainGlobals "Area" = some (some (.ref C)))
    (aCB : PySem.W.nsIn K mainGlobals "BadArea" = some (some (.ref CB)))
    (aCM : PySem.W.nsIn K mainGlobals "MapError" = some (some (.ref CM)))
    (aCN : PySem.W.nsIn K mainGlobals "NoPlace" = some (some (.ref CN)))
    (aCJ : PySem.W.nsIn K mainGlobals "NoJoin" = some (some (.ref CJ)))
    (aPlaces : PySem.W.nsIn K mainGlobals "PLACES" = some (some (.int 10000 tP)))
    (zint : PySem.W.nsIn K mainGlobals "int" = some none)
    (zlen : PySem.W.nsIn K mainGlobals "len" = some none)
    (zabs : PySem.W.nsIn K mainGlobals "abs" = some none)
    (zisinstance : PySem.W.nsIn K mainGlobals "isinstance" = some none)
    (zbool : PySem.W.nsIn K mainGlobals "bool" = some none)
    (zrange : PySem.W.nsIn K mainGlobals "range" = some none)
    (ztuple : PySem.W.nsIn K mainGlobals "tuple" = some none)
    (zlist : PySem.W.nsIn K mainGlobals "list" = some none)
    (zrepr : PySem.W.nsIn K mainGlobals "repr" = some none)
    (zsuper : PySem.W.nsIn K mainGlobals "super" = some none)
    (aII : PySem.W.nsIn K mainGlobals "is_integer" = some (some (.ref fII)))
    (lII : K.lookup fII = some ⟨ocII, odII, .func (PySem.W.fnOf "is_integer" "is_integer" (defArgs sIsInt) (defBody sIsInt) (defScope sIsInt) .none kVII dcII pmII anII cdII ctII), slII⟩)
    (cII : PySem.W.codeIn K cdII "is_integer" = true)
    (kII : PySem.W.keepIn K (.ref fII) = true)
    (aIP : PySem.W.nsIn K mainGlobals "is_place" = some (some (.ref fIP)))
    (lIP : K.lookup fIP = some ⟨ocIP, odIP, .func (PySem.W.fnOf "is_place" "is_place" (defArgs sIsPlace) (defBody sIsPlace) (defScope sIsPlace) .none kVIP dcIP pmIP anIP cdIP ctIP), slIP⟩)
    (cIP : PySem.W.codeIn K cdIP "is_place" = true)
    (kIP : PySem.W.keepIn K (.ref fIP) = true)
    (aIS : PySem.W.nsIn K mainGlobals "is_stretch" = some (some (.ref fIS)))
    (lIS : K.lookup fIS = some ⟨ocIS, odIS, .func (PySem.W.fnOf "is_stretch" "is_stretch" (defArgs sIsStretch) (defBody sIsStretch) (defScope sIsStretch) .none kVIS dcIS pmIS anIS cdIS ctIS), slIS⟩)
    (cIS : PySem.W.codeIn K cdIS "is_stretch" = true)
    (kIS : PySem.W.keepIn K (.ref fIS) = true)
    (aNS : PySem.W.nsIn K mainGlobals "need_stretch" = some (some (.ref fNS)))
    (lNS : K.lookup fNS = some ⟨ocNS, odNS, .func (PySem.W.fnOf "need_stretch" "need_stretch" (defArgs sNeed) (defBody sNeed) (defScope sNeed) .none kVNS dcNS pmNS anNS cdNS ctNS), slNS⟩)
    (cNS : PySem.W.codeIn K cdNS "need_stretch" = true)
    (kNS : PySem.W.keepIn K (.ref fNS) = true)
    (aSt : PySem.W.nsIn K mainGlobals "_law_state" = some (some (.ref fSt)))
    (lSt : K.lookup fSt = some ⟨ocSt, odSt, .func (PySem.W.fnOf "_law_state" "_law_state" (defArgs sState) (defBody sState) (defScope sState) .none kVSt dcSt pmSt anSt cdSt ctSt), slSt⟩)
    (cSt : PySem.W.codeIn K cdSt "_law_state" = true)
    (kSt : PySem.W.keepIn K (.ref fSt) = true)
    (aDr : PySem.W.nsIn K mainGlobals "_law_draw" = some (some (.ref fDr)))
    (lDr : K.lookup fDr = some ⟨ocDr, odDr, .func (PySem.W.fnOf "_law_draw" "_law_draw" (defArgs sDraw) (defBody sDraw) (defScope sDraw) .none kVDr dcDr pmDr anDr cdDr ctDr), slDr⟩)
    (cDr : PySem.W.codeIn K cdDr "_law_draw" = true)
    (kDr : PySem.W.keepIn K (.ref fDr) = true)
    (aPi : PySem.W.nsIn K mainGlobals "_law_pick" = some (some (.ref fPi)))
    (lPi : K.lookup fPi = some ⟨ocPi, odPi, .func (PySem.W.fnOf "_law_pick" "_law_pick" (defArgs sPick) (defBody sPick) (defScope sPick) .none kVPi dcPi pmPi anPi cdPi ctPi), slPi⟩)
    (cPi : PySem.W.codeIn K cdPi "_law_pick" = true)
    (kPi : PySem.W.keepIn K (.ref fPi) = true)
    (aTh : PySem.W.nsIn K mainGlobals "_law_thing" = some (some (.ref fTh)))
    (lTh : K.lookup fTh = some ⟨ocTh, odTh, .func (PySem.W.fnOf "_law_thing" "_law_thing" (defArgs sThing) (defBody sThing) (defScope sThing) .none kVTh dcTh pmTh anTh cdTh ctTh), slTh⟩)
    (cTh : PySem.W.codeIn K cdTh "_law_thing" = true)
    (kTh : PySem.W.keepIn K (.ref fTh) = true)
    (aWh : PySem.W.nsIn K mainGlobals "_law_is_whole" = some (some (.ref fWh)))
    (lWh : K.lookup fWh = some ⟨ocWh, odWh, .func (PySem.W.fnOf "_law_is_whole" "_law_is_whole" (defArgs sWhole) (defBody sWhole) (defScope sWhole) .none kVWh dcWh pmWh anWh cdWh ctWh), slWh⟩)
    (cWh : PySem.W.codeIn K cdWh "_law_is_whole" = true)
    (kWh : PySem.W.keepIn K (.ref fWh) = true)
    (aLS : PySem.W.nsIn K mainGlobals "_law_is_stretch" = some (some (.ref fLS)))
    (lLS : K.lookup fLS = some ⟨ocLS, odLS, .func (PySem.W.fnOf "_law_is_stretch" "_law_is_stretch" (defArgs sLStretch) (defBody sLStretch) (defScope sLStretch) .none kVLS dcLS pmLS anLS cdLS ctLS), slLS⟩)
    (cLS : PySem.W.codeIn K cdLS "_law_is_stretch" = true)
    (kLS : PySem.W.keepIn K (.ref fLS) = true)
    (aTo : PySem.W.nsIn K mainGlobals "_law_told" = some (some (.ref fTo)))
    (lTo : K.lookup fTo = some ⟨ocTo, odTo, .func (PySem.W.fnOf "_law_told" "_law_told" (defArgs sTold) (defBody sTold) (defScope sTold) .none kVTo dcTo pmTo anTo cdTo ctTo), slTo⟩)
    (cTo : PySem.W.codeIn K cdTo "_law_told" = true)
    (kTo : PySem.W.keepIn K (.ref fTo) = true)
    (aSh : PySem.W.nsIn K mainGlobals "_law_stretch" = some (some (.ref fSh)))
    (lSh : K.lookup fSh = some ⟨ocSh, odSh, .func (PySem.W.fnOf "_law_stretch" "_law_stretch" (defArgs sStretch) (defBody sStretch) (defScope sStretch) .none kVSh dcSh pmSh anSh cdSh ctSh), slSh⟩)
    (cSh : PySem.W.codeIn K cdSh "_law_stretch" = true)
    (kSh : PySem.W.keepIn K (.ref fSh) = true)
    (aNe : PySem.W.nsIn K mainGlobals "_law_near" = some (some (.ref fNe)))
    (lNe : K.lookup fNe = some ⟨ocNe, odNe, .func (PySem.W.fnOf "_law_near" "_law_near" (defArgs sNear) (defBody sNear) (defScope sNear) .none kVNe dcNe pmNe anNe cdNe ctNe), slNe⟩)
    (cNe : PySem.W.codeIn K cdNe "_law_near" = true)
    (kNe : PySem.W.keepIn K (.ref fNe) = true)
    (aPR : PySem.W.nsIn K mainGlobals "_law_places_right" = some (some (.ref fPR)))
    (lPR : K.lookup fPR = some ⟨ocPR, odPR, .func (PySem.W.fnOf "_law_places_right" "_law_places_right" (defArgs sPR) (defBody sPR) (defScope sPR) .none kVPR dcPR pmPR anPR (.ref c1) ctPR), slPR⟩)
    (cPR : PySem.W.codeIn K (.ref c1) "_law_places_right" = true)
    (kPR : PySem.W.keepIn K (.ref fPR) = true)
    (aJR : PySem.W.nsIn K mainGlobals "_law_joins_right" = some (some (.ref fJR)))
    (lJR : K.lookup fJR = some ⟨ocJR, odJR, .func (PySem.W.fnOf "_law_joins_right" "_law_joins_right" (defArgs sJR) (defBody sJR) (defScope sJR) .none kVJR dcJR pmJR anJR (.ref c2) ctJR), slJR⟩)
    (cJR : PySem.W.codeIn K (.ref c2) "_law_joins_right" = true)
    (kJR : PySem.W.keepIn K (.ref fJR) = true)
    (aMR : PySem.W.nsIn K mainGlobals "_law_moves_right" = some (some (.ref fMR)))
    (lMR : K.lookup fMR = some ⟨ocMR, odMR, .func (PySem.W.fnOf "_law_moves_right" "_law_moves_right" (defArgs sMR) (defBody sMR) (defScope sMR) .none kVMR dcMR pmMR anMR (.ref c3) ctMR), slMR⟩)
    (cMR : PySem.W.codeIn K (.ref c3) "_law_moves_right" = true)
    (kMR : PySem.W.keepIn K (.ref fMR) = true)
    (aLa : PySem.W.nsIn K mainGlobals "law" = some (some (.ref fLa)))
    (lLa : K.lookup fLa = some ⟨ocLa, odLa, .func (PySem.W.fnOf "law" "law" (defArgs sLaw) (defBody sLaw) (defScope sLaw) .none kVLa dcLa pmLa anLa cdLa ctLa), slLa⟩)
    (cLa : PySem.W.codeIn K cdLa "law" = true)
    (kLa : PySem.W.keepIn K (.ref fLa) = true)
    (aIn : PySem.W.findIn K (.ref C) "__init__" = some (some (.ref fIn)))
    (iIn : PySem.W.isFn K (.ref fIn) = true)
    (lIn : K.lookup fIn = some ⟨ocIn, odIn, .func (PySem.W.fnOf "__init__" "Area.__init__" (defArgs sAInit) (defBody sAInit) (defScope sAInit) (.ref T0) kVIn dcIn pmIn anIn cdIn ctIn), slIn⟩)
    (cIn : PySem.W.codeIn K cdIn "Area.__init__" = true)
    (kIn : PySem.W.keepIn K (.ref fIn) = true)
    (lT0 : K.lookup T0 = some ⟨oc0, dd0, .seq #[.int 0 t0] n0, sl0⟩)
    (pg : PySem.W.plainGet K C Str.empty = true)
    (hd : PySem.W.hasDictIn K C = true)
    (po : PySem.W.plainOver K C = true)
    (sa : PySem.W.findIn K (.ref C) "__setattr__" = some (some (.builtin "object.__setattr__")))
    (mk : PySem.W.makesIn K C = true)
    (kc : PySem.W.keepIn K (.ref C) = true)
    (n1 : PySem.W.findIn K (.ref C) "first_place" = some none)
    (n2 : PySem.W.findIn K (.ref C) "size" = some none)
    (n3 : PySem.W.findIn K (.ref C) "line" = some none)
    (pap3 : PySem.W.findIn K (.ref C) "end" = some (some (.ref p3)))
    (pbp3 : PySem.W.specialIn K (.ref p3) "__get__" = some (some (.builtin "property.__get__")))
    (pcp3 : PySem.W.takesIn K (.ref p3) = some true)
    (pdp3 : PySem.W.recIn K p3 "property" = some (.ref fP3 :: r3))
    (lP3 : K.lookup fP3 = some ⟨ocP3, odP3, .func (PySem.W.fnOf "end" "Area.end" (defArgs sAEnd) (defBody sAEnd) (defScope sAEnd) .none kVP3 dcP3 pmP3 anP3 cdP3 ctP3), slP3⟩)
    (cP3 : PySem.W.codeIn K cdP3 "Area.end" = true)
    (kP3 : PySem.W.keepIn K (.ref fP3) = true)
    (aHa : PySem.W.findIn K (.ref C) "has" = some (some (.ref fHa)))
    (iHa : PySem.W.isFn K (.ref fHa) = true)
    (lHa : K.lookup fHa = some ⟨ocHa, odHa, .func (PySem.W.fnOf "has" "Area.has" (defArgs sAHas) (defBody sAHas) (defScope sAHas) .none kVHa dcHa pmHa anHa cdHa ctHa), slHa⟩)
    (cHa : PySem.W.codeIn K cdHa "Area.has" = true)
    (kHa : PySem.W.keepIn K (.ref fHa) = true)
    (aIx : PySem.W.findIn K (.ref C) "index_of" = some (some (.ref fIx)))
    (iIx : PySem.W.isFn K (.ref fIx) = true)
    (lIx : K.lookup fIx = some ⟨ocIx, odIx, .func (PySem.W.fnOf "index_of" "Area.index_of" (defArgs sAIndex) (defBody sAIndex) (defScope sAIndex) .none kVIx dcIx pmIx anIx cdIx ctIx), slIx⟩)
    (cIx : PySem.W.codeIn K cdIx "Area.index_of" = true)
    (kIx : PySem.W.keepIn K (.ref fIx) = true)
    (aPl : PySem.W.findIn K (.ref C) "place_of" = some (some (.ref fPl)))
    (iPl : PySem.W.isFn K (.ref fPl) = true)
    (lPl : K.lookup fPl = some ⟨ocPl, odPl, .func (PySem.W.fnOf "place_of" "Area.place_of" (defArgs sAPlace) (defBody sAPlace) (defScope sAPlace) .none kVPl dcPl pmPl anPl cdPl ctPl), slPl⟩)
    (cPl : PySem.W.codeIn K cdPl "Area.place_of" = true)
    (kPl : PySem.W.keepIn K (.ref fPl) = true)
    (aCu : PySem.W.findIn K (.ref C) "cut" = some (some (.ref fCu)))
    (iCu : PySem.W.isFn K (.ref fCu) = true)
    (lCu : K.lookup fCu = some ⟨ocCu, odCu, .func (PySem.W.fnOf "cut" "Area.cut" (defArgs sACut) (defBody sACut) (defScope sACut) .none kVCu dcCu pmCu anCu cdCu ctCu), slCu⟩)
    (cCu : PySem.W.codeIn K cdCu "Area.cut" = true)
    (kCu : PySem.W.keepIn K (.ref fCu) = true)
    (aJo : PySem.W.findIn K (.ref C) "joined" = some (some (.ref fJo)))
    (iJo : PySem.W.isFn K (.ref fJo) = true)
    (lJo : K.lookup fJo = some ⟨ocJo, odJo, .func (PySem.W.fnOf "joined" "Area.joined" (defArgs sAJoin) (defBody sAJoin) (defScope sAJoin) .none kVJo dcJo pmJo anJo cdJo ctJo), slJo⟩)
    (cJo : PySem.W.codeIn K cdJo "Area.joined" = true)
    (kJo : PySem.W.keepIn K (.ref fJo) = true)
    (aMo : PySem.W.findIn K (.ref C) "moved" = some (some (.ref fMo)))
    (iMo : PySem.W.isFn K (.ref fMo) = true)
    (lMo : K.lookup fMo = some ⟨ocMo, odMo, .func (PySem.W.fnOf "moved" "Area.moved" (defArgs sAMove) (defBody sAMove) (defScope sAMove) .none kVMo dcMo pmMo anMo cdMo ctMo), slMo⟩)
    (cMo : PySem.W.codeIn K cdMo "Area.moved" = true)
    (kMo : PySem.W.keepIn K (.ref fMo) = true)
    (aEq : PySem.W.findIn K (.ref C) "__eq__" = some (some (.ref fEq)))
    (iEq : PySem.W.isFn K (.ref fEq) = true)
    (lEq : K.lookup fEq = some ⟨ocEq, odEq, .func (PySem.W.fnOf "__eq__" "Area.__eq__" (defArgs sAEq) (defBody sAEq) (defScope sAEq) .none kVEq dcEq pmEq anEq cdEq ctEq), slEq⟩)
    (cEq : PySem.W.codeIn K cdEq "Area.__eq__" = true)
    (kEq : PySem.W.keepIn K (.ref fEq) = true)
    (cc : PySem.W.findIn K (.ref C) "__class__" = some (some (.builtin "object.__class__")))
    (cn : PySem.W.specialIn K (.builtin "object.__class__") "__get__" = some (some (.builtin "getset_descriptor.__get__")))
    (ct : PySem.W.takesIn K (.builtin "object.__class__") = some true)
    (cm : PySem.W.mroIn K C (.type "object") = some true)
    (ktNoneType : PySem.W.kitOne K (.type "NoneType") (.ref C) = some false)
    (ktbool : PySem.W.kitOne K (.type "bool") (.ref C) = some false)
    (ktint : PySem.W.kitOne K (.type "int") (.ref C) = some false)
    (ktstr : PySem.W.kitOne K (.type "str") (.ref C) = some false)
    (ktlist : PySem.W.kitOne K (.type "list") (.ref C) = some false)
    (kttuple : PySem.W.kitOne K (.type "tuple") (.ref C) = some false)
    (ktdict : PySem.W.kitOne K (.type "dict") (.ref C) = some false)
    (xCB : PySem.W.excIn K CB [.type "ValueError", .type "Exception", .type "BaseException", .type "object"] "ValueError.__new__" = true)
    (xCJ : PySem.W.excIn K CJ [.type "ValueError", .type "Exception", .type "BaseException", .type "object"] "ValueError.__new__" = true)
    (kCB : PySem.W.keepIn K (.ref CB) = true)
    (bCB : PySem.W.subIn K (.ref CB) (.type "BaseException") = some true)
    (tCB : PySem.W.typeIn K (.ref CB) = some (.type "type"))
    (egCB : PySem.W.findIn K (.ref CB) "__getattribute__" = some (some (.builtin "BaseException.__getattribute__")))
    (ehCB : PySem.W.findIn K (.ref CB) "__getattr__" = some none)
    (edCB : PySem.W.hasDictIn K CB = true)
    (ecCB : PySem.W.findIn K (.ref CB) "__class__" = some (some (.builtin "object.__class__")))
    (emCB : PySem.W.mroIn K CB (.type "object") = some true)
    (mSCB : PySem.W.subIn K (.ref CB) (.ref CM) = some true)
    (kCJ : PySem.W.keepIn K (.ref CJ) = true)
    (bCJ : PySem.W.subIn K (.ref CJ) (.type "BaseException") = some true)
    (tCJ : PySem.W.typeIn K (.ref CJ) = some (.type "type"))
    (egCJ : PySem.W.findIn K (.ref CJ) "__getattribute__" = some (some (.builtin "BaseException.__getattribute__")))
    (ehCJ : PySem.W.findIn K (.ref CJ) "__getattr__" = some none)
    (edCJ : PySem.W.hasDictIn K CJ = true)
    (ecCJ : PySem.W.findIn K (.ref CJ) "__class__" = some (some (.builtin "object.__class__")))
    (emCJ : PySem.W.mroIn K CJ (.type "object") = some true)
    (mSCJ : PySem.W.subIn K (.ref CJ) (.ref CM) = some true)
    (kCN : PySem.W.keepIn K (.ref CN) = true)
    (bCN : PySem.W.subIn K (.ref CN) (.type "BaseException") = some true)
    (tCN : PySem.W.typeIn K (.ref CN) = some (.type "type"))
    (egCN : PySem.W.findIn K (.ref CN) "__getattribute__" = some (some (.builtin "BaseException.__getattribute__")))
    (ehCN : PySem.W.findIn K (.ref CN) "__getattr__" = some none)
    (edCN : PySem.W.hasDictIn K CN = true)
    (ecCN : PySem.W.findIn K (.ref CN) "__class__" = some (some (.builtin "object.__class__")))
    (emCN : PySem.W.mroIn K CN (.type "object") = some true)
    (mSCN : PySem.W.subIn K (.ref CN) (.ref CM) = some true)
    (mB : PySem.W.subIn K (.ref CM) (.type "BaseException") = some true)
    (mD : PySem.W.hasDictIn K CM = true)
    (mT : PySem.W.typeIn K (.ref CM) = some (.type "type"))
    (kkCNCJ : PySem.W.kitOne K (.ref CN) (.ref CJ) = some false)
    (kkCNCB : PySem.W.kitOne K (.ref CN) (.ref CB) = some false)
    (kkCJCN : PySem.W.kitOne K (.ref CJ) (.ref CN) = some false)
    (kkCJCB : PySem.W.kitOne K (.ref CJ) (.ref CB) = some false)
    (kkCBCN : PySem.W.kitOne K (.ref CB) (.ref CN) = some false)
    (kkCBCJ : PySem.W.kitOne K (.ref CB) (.ref CJ) = some false)
    (lCN : K.lookup CN = some (excClassObj nmN qnN CN NN bsN bmN true snN subN abN colN ddN k0N k1N k2N k3N k5N "ValueError.__new__"))
    (rvN : PySem.HandSPX.refsVE bmN = true)
    (saN : PySem.W.findIn K (.ref CN) "__setattr__" = some (some (.builtin "object.__setattr__")))
    (iiN : PySem.W.excInitIn K CN [.type "ValueError", .type "Exception", .type "BaseException", .type "object"] "ValueError.__new__" = true)
    (noN : PySem.W.findIn K (.ref CN) "place" = some none)
    (aNI : PySem.W.findIn K (.ref CN) "__init__" = some (some (.ref fNI)))
    (tNI : PySem.W.typeIn K (.ref fNI) = some (.type "function"))
    (lNI : K.lookup fNI = some ⟨ocNI, odNI, .func (PySem.W.ksFn "__init__" "NoPlace.__init__" (defArgs sNI) (defBody sNI) (defScope sNI) .none kVN dcN pmN anN (.ref cdN) ctN ccN), slNI⟩)
    (cNI : PySem.W.codeIn K (.ref cdN) "NoPlace.__init__" = true)
    (lcdN : K.lookup cdN = some ⟨occN, odcN, .fields vsN, slcN⟩)
    (v2N : vsN[2]? = some (.str fileN tfN))
    (fiN : ((l.prog.main.file : Str) == fileN) = true)
    (lccN : K.lookup ccN = some ⟨clN, cldN, .cell (some (.ref CN)), cslN⟩)
    (clsN : PySem.W.clsIn K CN = some cdCN)
    (supN : PySem.W.ks_superIn K CN CN "__init__" = some (some (.builtin "ValueError.__init__")))
    (sveN : PySem.W.subIn K (.ref CN) (.type "ValueError") = some true)
    (opqN : PySem.W.nsIn K cStatics "thirdparty.any" = some none)
    (mroN : PySem.W.mroIn K CN (.ref CN) = some true)
    (topN : (l.prog.main.scope.names.lookup ("super" : Str)).isSome = false)
    (lc1 : K.lookup c1 = some ⟨oc_1, od_1, .fields vs_1, sl_1⟩)
    (h11_1 : vs_1[11]? = some (.ref P1))
    (cT1 : PySem.W.codeHdIn K c1 P1 = true)
    (lP_1 : K.lookup P1 = none)
    (lc2 : K.lookup c2 = some ⟨oc_2, od_2, .fields vs_2, sl_2⟩)
    (h11_2 : vs_2[11]? = some (.ref P2))
    (cT2 : PySem.W.codeHdIn K c2 P2 = true)
    (lP_2 : K.lookup P2 = none)
    (lc3 : K.lookup c3 = some ⟨oc_3, od_3, .fields vs_3, sl_3⟩)
    (h11_3 : vs_3[11]? = some (.ref P3))
    (cT3 : PySem.W.codeHdIn K c3 P3 = true)
    (lP_3 : K.lookup P3 = none)
    (ne12 : P1 ≠ P2)
    (ne13 : P1 ≠ P3)
    (ne23 : P2 ≠ P3)
    (tT1 : h.get? P1 = some { cls := .none, data := .fields #[] }) (tT2 : h.get? P2 = some { cls := .none, data := .fields #[] }) (tT3 : h.get? P3 = some { cls := .none, data := .fields #[] }) : LawG l w K CX0 12 63 "_law_script" mg fa h := by
  have e := hfa.symm.trans (PySem.W.mg_of X G aLa)
  cases e
  have FII := fun_mk (st := sIsInt) lII cII kII
  have FIP := fun_mk (st := sIsPlace) lIP cIP kIP
  have FIS := fun_mk (st := sIsStretch) lIS cIS kIS
  have FNS := fun_mk (st := sNeed) lNS cNS kNS
  have FSt := fun_mk (st := sState) lSt cSt kSt
  have FDr := fun_mk (st := sDraw) lDr cDr kDr
  have FPi := fun_mk (st := sPick) lPi cPi kPi
  have FTh := fun_mk (st := sThing) lTh cTh kTh
  have FWh := fun_mk (st := sWhole) lWh cWh kWh
  have FLS := fun_mk (st := sLStretch) lLS cLS kLS
  have FNe := fun_mk (st := sNear) lNe cNe kNe
  have FSh := fun_mk (st := sStretch) lSh cSh kSh
  have FHa := fun_mk (st := sAHas) lHa cHa kHa
  have FIx := fun_mk (st := sAIndex) lIx cIx kIx
  have FPl := fun_mk (st := sAPlace) lPl cPl kPl
  have FCu := fun_mk (st := sACut) lCu cCu kCu
  have FJo := fun_mk (st := sAJoin) lJo cJo kJo
  have FMo := fun_mk (st := sAMove) lMo cMo kMo
  have FP3 := fun_mk (st := sAEnd) lP3 cP3 kP3
  have FEq := fun_mk (st := sAEq) lEq cEq kEq
  have bII := FII.binds (ps := ["value"]) fun _ _ _ _ _ _ us hl => match us, hl with | [_], _ => rfl
  have bIP := FIP.binds (ps := ["value"]) fun _ _ _ _ _ _ us hl => match us, hl with | [_], _ => rfl
  have bIS := FIS.binds (ps := ["begin", "many"]) fun _ _ _ _ _ _ us hl => match us, hl with | [_, _], _ => rfl
  have bNS := FNS.binds (ps := ["begin", "many"]) fun _ _ _ _ _ _ us hl => match us, hl with | [_, _], _ => rfl
  have bSt := FSt.binds (ps := ["_law_script"]) fun _ _ _ _ _ _ us hl => match us, hl with | [_], _ => rfl
  have bDr := FDr.binds (ps := ["_law_draw_here", "_law_below"]) fun _ _ _ _ _ _ us hl => match us, hl with | [_, _], _ => rfl
  have bPi := FPi.binds (ps := ["_law_draw_here", "_law_some"]) fun _ _ _ _ _ _ us hl => match us, hl with | [_, _], _ => rfl
  have bTh := FTh.binds (ps := ["_law_draw_here"]) fun _ _ _ _ _ _ us hl => match us, hl with | [_], _ => rfl
  have bWh := FWh.binds (ps := ["_law_thing_here"]) fun _ _ _ _ _ _ us hl => match us, hl with | [_], _ => rfl
  have bLS := FLS.binds (ps := ["_law_first", "_law_size"]) fun _ _ _ _ _ _ us hl => match us, hl with | [_, _], _ => rfl
  have bNe := FNe.binds (ps := ["_law_draw_here", "_law_first", "_law_size"]) fun _ _ _ _ _ _ us hl => match us, hl with | [_, _, _], _ => rfl
  have bHa := FHa.binds (ps := ["self", "place"]) fun _ _ _ _ _ _ us hl => match us, hl with | [_, _], _ => rfl
  have bIx := FIx.binds (ps := ["self", "place"]) fun _ _ _ _ _ _ us hl => match us, hl with | [_, _], _ => rfl
  have bPl := FPl.binds (ps := ["self", "index"]) fun _ _ _ _ _ _ us hl => match us, hl with | [_, _], _ => rfl
  have bCu := FCu.binds (ps := ["self", "at"]) fun _ _ _ _ _ _ us hl => match us, hl with | [_, _], _ => rfl
  have bJo := FJo.binds (ps := ["self", "other"]) fun _ _ _ _ _ _ us hl => match us, hl with | [_, _], _ => rfl
  have bMo := FMo.binds (ps := ["self", "to"]) fun _ _ _ _ _ _ us hl => match us, hl with | [_, _], _ => rfl
  have bSh := FSh.binds (ps := ["_law_draw_here"]) fun _ _ _ _ _ _ us hl => match us, hl with | [_], _ => rfl
  have bP3 := FP3.binds (ps := ["self"]) fun _ _ _ _ _ _ us hl => match us, hl with | [_], _ => rfl
  have bEq := FEq.binds (ps := ["self", "other"]) fun _ _ _ _ _ _ us hl => match us, hl with | [_, _], _ => rfl
  have FIn : FunD K "__init__" "Area.__init__" (defArgs sAInit) (defBody sAInit) (defScope sAInit) [.int 0] [] fIn _ :=
    ⟨⟨_, _, _, _, _, _, _, _, _, _, rfl, lIn, cIn, .inr ⟨by simp, T0, _, [.int 0 t0], _, rfl, lT0, rfl, .cons ⟨_, rfl⟩ .nil⟩, .inl rfl⟩, kIn⟩
  have TB0 : TB mg := ⟨PySem.W.mg_none_of X G zint, PySem.W.mg_none_of X G zlen, PySem.W.mg_none_of X G zabs⟩
  have TC0 : TC K mg := ⟨TB0, PySem.W.mg_none_of X G zisinstance, PySem.W.mg_none_of X G zbool, _, PySem.W.mg_of X G aPlaces⟩
  have BT : BadT K mg CB := ⟨PySem.W.mg_of X G aCB, xCB, kCB, bCB, tCB⟩
  have AT : ArT K C := ⟨⟨pg, hd, po, sa⟩, n1, n2, n3⟩
  have NT0 : NotA K C := ⟨fun t ht => by
    simp only [List.mem_cons, List.not_mem_nil, or_false] at ht
    rcases ht with rfl | rfl | rfl | rfl | rfl | rfl | rfl
    · exact ktNoneType
    · exact ktbool
    · exact ktint
    · exact ktstr
    · exact ktlist
    · exact kttuple
    · exact ktdict⟩
  have IT : InT K C := ⟨⟨pg, hd, po, sa⟩, cc, cn, ct, cm⟩
  let T : List (Addr × Str) := [(P1, ("_law_places_right" : Str) ++ ".<locals>." ++ "<lambda>"), (P2, ("_law_joins_right" : Str) ++ ".<locals>." ++ "<lambda>"), (P3, ("_law_moves_right" : Str) ++ ".<locals>." ++ "<lambda>")]
  have hu1 : ∀ p ∈ T, p.1 = P1 → p.2 = ("_law_places_right" : Str) ++ ".<locals>." ++ "<lambda>" := fun p hp e => by
    simp only [T, List.mem_cons, List.not_mem_nil, or_false] at hp
    rcases hp with rfl | rfl | rfl
    · rfl
    · exact absurd e.symm ne12
    · exact absurd e.symm ne13
  have hu2 : ∀ p ∈ T, p.1 = P2 → p.2 = ("_law_joins_right" : Str) ++ ".<locals>." ++ "<lambda>" := fun p hp e => by
    simp only [T, List.mem_cons, List.not_mem_nil, or_false] at hp
    rcases hp with rfl | rfl | rfl
    · exact absurd e ne12
    · rfl
    · exact absurd e.symm ne23
  have hu3 : ∀ p ∈ T, p.1 = P3 → p.2 = ("_law_moves_right" : Str) ++ ".<locals>." ++ "<lambda>" := fun p hp e => by
    simp only [T, List.mem_cons, List.not_mem_nil, or_false] at hp
    rcases hp with rfl | rfl | rfl
    · exact absurd e ne13
    · exact absurd e ne23
    · rfl
  refine ⟨PySem.W.fnOf "law" "law" (defArgs sLaw) (defBody sLaw) (defScope sLaw) .none kVLa dcLa pmLa anLa cdLa ctLa, [(c1, P1), (c2, P2), (c3, P3)], spLaw K T, fun p hp => ?_, fun p hp => ?_, fun p hp => ?_, fun s v => ?_, fun H a ns hl hH hS => ⟨a, ns, rfl, hS, hl, ?_, fun _ => rfl⟩, fun base kb hb hTB => ?_⟩
  · simp only [List.mem_cons, List.not_mem_nil, or_false] at hp
    rcases hp with rfl | rfl | rfl
    · exact tT1
    · exact tT2
    · exact tT3
  · simp only [List.mem_cons, List.not_mem_nil, or_false] at hp
    rcases hp with rfl | rfl | rfl
    · exact lP_1
    · exact lP_2
    · exact lP_3
  · simp only [List.mem_cons, List.not_mem_nil, or_false] at hp
    rcases hp with rfl | rfl | rfl
    · exact PySem.W.codeHd_of_K X cT1
    · exact PySem.W.codeHd_of_K X cT2
    · exact PySem.W.codeHd_of_K X cT3
  · exact .of_eq rfl
  · intro p hp
    simp only [T, List.mem_cons, List.not_mem_nil, or_false] at hp
    rcases hp with rfl | rfl | rfl
    · exact TabS.nil (hH (c1, P1) (by simp))
    · exact TabS.nil (hH (c2, P2) (by simp))
    · exact TabS.nil (hH (c3, P3) (by simp))
  · have GII := ok_is_integer (P := l.prog) (w := w) (base := base) FII TC0
    have mII := PySem.W.mg_of X G aII
    have GIP := ok_is_place (P := l.prog) (w := w) (base := base) FIP TC0 GII mII kII bII
    have mIP := PySem.W.mg_of X G aIP
    have GIS := ok_is_stretch (P := l.prog) (w := w) (base := base) FIS TC0 GII mII kII bII GIP mIP kIP bIP
    have GNS := ok_need (P := l.prog) (w := w) (base := base) FNS BT GIS (PySem.W.mg_of X G aIS) kIS bIS
    have GIn := ok_area_init (P := l.prog) (w := w) (base := base) FIn BT AT GNS (PySem.W.mg_of X G aNS) kNS bNS GII mII kII bII
    have GP3 := ok_area_end (P := l.prog) (w := w) (mg := mg) (base := base) FP3 AT
    have GEq := ok_area_eq (P := l.prog) (w := w) (base := base) FEq TC0 AT IT (PySem.W.mg_of X G aC) kttuple
    have GDr := ok_draw (P := l.prog) (w := w) (base := base) FDr TB0
    have mDr := PySem.W.mg_of X G aDr
    have GSt := ok_state (P := l.prog) (w := w) (base := base) FSt TB0
    have GPi := ok_pick (P := l.prog) (w := w) (base := base) FPi TB0 GDr mDr kDr bDr
    have mPi := PySem.W.mg_of X G aPi
    have GTh := ok_thing (P := l.prog) (w := w) (base := base) FTh TB0 GDr mDr kDr bDr GPi mPi kPi bPi
    have GWh := ok_whole (P := l.prog) (w := w) (base := base) FWh TC0
    have mWh := PySem.W.mg_of X G aWh
    have GLS := ok_lstretch (P := l.prog) (w := w) (base := base) FLS GWh mWh kWh bWh
    have GSh := ok_stretch (P := l.prog) (w := w) (base := base) FSh GDr mDr kDr bDr GPi mPi kPi bPi
    obtain ⟨ds0, hds0, bIn0⟩ := FIn.binds1 (ps := ["self", "begin", "many", "shift"]) 4 1 (by simp) rfl fun T kV doc pm an cdv ct us its hu hi => match us, its, hu, hi with | [_, _, _, _], [_], _, _ => ⟨_, rfl, rfl⟩
    have e0 : ds0 = [] := by
      cases hds0
      rfl
    subst e0
    have GNe := ok_near (P := l.prog) (w := w) (base := base) FNe ⟨_, _, GDr, mDr, kDr, bDr⟩ ⟨_, _, GPi, mPi, kPi, bPi⟩ ⟨_, _, GTh, PySem.W.mg_of X G aTh, kTh, bTh⟩
    have hasDr : Has l.prog w K mg base CX0 1 "_law_draw" ["_law_draw_here", "_law_below"] spDraw := ⟨_, _, GDr, mDr, kDr, bDr⟩
    have hasPi : Has l.prog w K mg base CX0 2 "_law_pick" ["_law_draw_here", "_law_some"] spPick := ⟨_, _, GPi, mPi, kPi, bPi⟩
    have ST : SupT l.prog K mg CN ccN cdN "NoPlace.__init__" := ⟨⟨⟨_, _, _, _, _, _, _, _, _, _, _, _, _, _, _, lCN, rvN⟩, saN, bCN, tCN, kCN⟩, iiN, cNI, ⟨_, _, _, _, _, _, lcdN, v2N, fiN⟩, ⟨_, _, _, lccN⟩, ⟨_, clsN⟩, supN, sveN, opqN, mroN, PySem.W.mg_none_of X G zsuper, topN⟩
    have NP : SupE l.prog w K mg base "NoPlace" "place" CN := ⟨PySem.W.mg_of X G aCN, ST.T, _, _, aNI, tNI, ok_noplace ST noN lNI, fun s us _ hl => match us, hl with | [_, _], _ => .of_eq rfl⟩
    have MA : MakeA l.prog w K mg base C CB := ⟨_, _, ⟨mk, aIn, iIn, kc⟩, GIn, bIn0⟩
    have mC := PySem.W.mg_of X G aC
    have EN : HasP l.prog w K mg base 1 C "end" (spEnd C) := ⟨p3, _, _, ⟨pap3, pbp3, pcp3, _, pdp3⟩, GP3, bP3⟩
    have GHa := ok_has (P := l.prog) (w := w) (base := base) FHa AT GII mII kII bII
    have mHa : Meth K C "has" fHa := ⟨aHa, iHa, kHa⟩
    have GIx := ok_index (P := l.prog) (w := w) (base := base) FIx AT mHa GHa bHa NP
    have GPl := ok_place (P := l.prog) (w := w) (base := base) FPl AT mHa GHa bHa GII mII kII bII
    have GCu := ok_cut (P := l.prog) (w := w) (base := base) FCu AT mC mHa GHa bHa NP MA EN
    have GJo := ok_join (P := l.prog) (w := w) (base := base) FJo TC0 AT IT NT0 mC ⟨PySem.W.mg_of X G aCJ, xCJ, kCJ, bCJ, tCJ⟩ MA EN
    have GMo := ok_move (P := l.prog) (w := w) (base := base) FMo AT mC MA ⟨_, _, GNS, PySem.W.mg_of X G aNS, kNS, bNS⟩
    have gg : ∀ x y : V, (fun us ws : List V => us ++ ws) [x] [y] = [x, y] := fun _ _ => rfl
    have ar : ArK l.prog w K mg base C CB CN CJ := ⟨AT, IT, mC, MA, ⟨_, _, ⟨aIx, iIx, kIx⟩, GIx, bIx, _, _, kb1 fun _ _ => rfl, gg⟩, ⟨_, _, ⟨aPl, iPl, kPl⟩, GPl, bPl, _, _, kb1 fun _ _ => rfl, gg⟩, ⟨_, _, ⟨aCu, iCu, kCu⟩, GCu, bCu, _, _, kb1 fun _ _ => rfl, gg⟩, ⟨_, _, ⟨aJo, iJo, kJo⟩, GJo, bJo, _, _, kb1 fun _ _ => rfl, gg⟩, ⟨_, _, ⟨aMo, iMo, kMo⟩, GMo, bMo, _, _, kb1 fun _ _ => rfl, gg⟩,
      ⟨_, _, GEq, aEq, iEq, bEq⟩, by simp [PySem.W.notFirst]⟩
    have ex : ∀ {D : Addr}, PySem.W.findIn K (.ref D) "__getattribute__" = some (some (.builtin "BaseException.__getattribute__")) → PySem.W.findIn K (.ref D) "__getattr__" = some none → PySem.W.subIn K (.ref D) (.type "BaseException") = some true → PySem.W.hasDictIn K D = true → PySem.W.findIn K (.ref D) "__class__" = some (some (.builtin "object.__class__")) → PySem.W.mroIn K D (.type "object") = some true → L2.ExcC K D :=
      fun a b c d e f => ⟨a, b, c, d, e, cn, ct, f⟩
    have er : ErK K mg CN CJ CB CM := ⟨PySem.W.mg_of X G aCN, PySem.W.mg_of X G aCJ, PySem.W.mg_of X G aCB, PySem.W.mg_of X G aCM, ex egCN ehCN bCN edCN ecCN emCN, ex egCJ ehCJ bCJ edCJ ecCJ emCJ, ex egCB ehCB bCB edCB ecCB emCB,
      PySem.W.exm_ref mB mD mT mSCN, PySem.W.exm_ref mB mD mT mSCJ, PySem.W.exm_ref mB mD mT mSCB, kkCNCJ, kkCNCB, kkCJCN, kkCJCB, kkCBCN, kkCBCJ, ⟨egCN, ehCN, bCN, edCN⟩, noN⟩
    have md : ToldAt K mg := ⟨_, _, _, _, _, _, _, _, _, _, _, PySem.W.mg_of X G aTo, kTo, lTo, cTo, (fun_mk (st := sTold) lTo cTo kTo).binds fun _ _ _ _ _ _ us hl => match us, hl with | [_], _ => rfl⟩
    have zr := PySem.W.mg_none_of X G zrepr
    have GPR := ok_places (T := T) (P := l.prog) (w := w) (base := base) lPR cPR TC0 zr (PySem.W.mg_none_of X G ztuple) (PySem.W.mg_none_of X G zlist) ar er (hTB (c1, P1) (by simp)) (by simp [T]) hu1 md hasPi ⟨_, _, GNe, PySem.W.mg_of X G aNe, kNe, bNe⟩ ⟨_, _, GWh, mWh, kWh, bWh⟩
    have GJR := ok_joins (T := T) (P := l.prog) (w := w) (base := base) lJR cJR TC0 zr ar er (hTB (c2, P2) (by simp)) (by simp [T]) hu2 md hasPi hasDr
    have GMR := ok_moves (T := T) (P := l.prog) (w := w) (base := base) lMR cMR TC0 zr ar er (hTB (c3, P3) (by simp)) (by simp [T]) hu3 md hasPi ⟨_, _, GTh, PySem.W.mg_of X G aTh, kTh, bTh⟩ ⟨_, _, GLS, PySem.W.mg_of X G aLS, kLS, bLS⟩
    have b4 : ∀ {x : Str} {st : Stmt} {f : Addr} {fd : FuncData} (F : Fun K x x st f fd), (∀ (kV doc pm : Value) (an : Option Addr) (cdv ct : Value) (us : List Value), us.length = PP.length → bindArgs (PySem.W.fnOf x x (defArgs st) (defBody st) (defScope st) .none kV doc pm an cdv ct) ⟨us, []⟩ = pure (PP.zip us)) → L2.Binds K fd PP [] := fun F h => F.binds h
    exact ok_law (T := T) lLa cLa (PySem.W.mg_none_of X G zrange) ⟨_, _, GSt, PySem.W.mg_of X G aSt, kSt, bSt⟩ hasDr hasPi ⟨_, _, GSh, PySem.W.mg_of X G aSh, kSh, bSh⟩
      ⟨_, _, GPR, PySem.W.mg_of X G aPR, kPR, (fun_mk (st := sPR) lPR cPR kPR).binds fun _ _ _ _ _ _ us hl => match us, hl with | [_, _, _, _], _ => rfl⟩ ⟨_, _, GJR, PySem.W.mg_of X G aJR, kJR, (fun_mk (st := sJR) lJR cJR kJR).binds fun _ _ _ _ _ _ us hl => match us, hl with | [_, _, _, _], _ => rfl⟩
      ⟨_, _, GMR, PySem.W.mg_of X G aMR, kMR, (fun_mk (st := sMR) lMR cMR kMR).binds fun _ _ _ _ _ _ us hl => match us, hl with | [_, _, _, _], _ => rfl⟩
end Bm
open PySem PySem.W PyProof.Rows
set_option maxRecDepth 100000 in
set_option maxHeartbeats 0 in
theorem PySem.Challenge.cw_backmaps_k02_areas_cut_joined_and_moved_holds : PySem.Challenge.rw_backmaps_k02_areas_cut_joined_and_moved.Holds := by
  w_on; o_law; k_head; (case hw => w_witness2)
  k_fill
  refine L3.walk_g (l := PySem.Challenge.rw_backmaps_k02_areas_cut_joined_and_moved) (n := 63) (k := 12) (CX := fun _ => L2.CX0) (x := "_law_script") rfl (by decide) rfl ⟨rfl, by decide, by decide⟩ (fun w h Y => PySem.W.km_in_of Y) ?F (fun _ _ _ _ _ z => z)
  case F =>
    intro w mg fa h Y KX G hmg
    have hTabs := PySem.W.km_tabs_of Y
    refine' Bm.all_mk KX G hmg ?aC ?aCB ?aCM ?aCN ?aCJ ?aPlaces ?zint ?zlen ?zabs ?zisinstance ?zbool ?zrange ?ztuple ?zlist ?zrepr ?zsuper ?aII ?lII ?cII ?kII ?aIP ?lIP ?cIP ?kIP ?aIS ?lIS ?cIS ?kIS ?aNS ?lNS ?cNS ?kNS ?aSt ?lSt ?cSt ?kSt ?aDr ?lDr ?cDr ?kDr ?aPi ?lPi ?cPi ?kPi ?aTh ?lTh ?cTh ?kTh ?aWh ?lWh ?cWh ?kWh ?aLS ?lLS ?cLS ?kLS ?aTo ?lTo ?cTo ?kTo ?aSh ?lSh ?cSh ?kSh ?aNe ?lNe ?cNe ?kNe ?aPR ?lPR ?cPR ?kPR ?aJR ?lJR ?cJR ?kJR ?aMR ?lMR ?cMR ?kMR ?aLa ?lLa ?cLa ?kLa ?aIn ?iIn ?lIn ?cIn ?kIn ?lT0 ?pg ?hd ?po ?sa ?mk ?kc ?n1 ?n2 ?n3 ?pap3 ?pbp3 ?pcp3 ?pdp3 ?lP3 ?cP3 ?kP3 ?aHa ?iHa ?lHa ?cHa ?kHa ?aIx ?iIx ?lIx ?cIx ?kIx ?aPl ?iPl ?lPl ?cPl ?kPl ?aCu ?iCu ?lCu ?cCu ?kCu ?aJo ?iJo ?lJo ?cJo ?kJo ?aMo ?iMo ?lMo ?cMo ?kMo ?aEq ?iEq ?lEq ?cEq ?kEq ?cc ?cn ?ct ?cm ?ktNoneType ?ktbool ?ktint ?ktstr ?ktlist ?kttuple ?ktdict ?xCB ?xCJ ?kCB ?bCB ?tCB ?egCB ?ehCB ?edCB ?ecCB ?emCB ?mSCB ?kCJ ?bCJ ?tCJ ?egCJ ?ehCJ ?edCJ ?ecCJ ?emCJ ?mSCJ ?kCN ?bCN ?tCN ?egCN ?ehCN ?edCN ?ecCN ?emCN ?mSCN ?mB ?mD ?mT ?kkCNCJ ?kkCNCB ?kkCJCN ?kkCJCB ?kkCBCN ?kkCBCJ ?lCN ?rvN ?saN ?iiN ?noN ?aNI ?tNI ?lNI ?cNI ?lcdN ?v2N ?fiN ?lccN ?clsN ?supN ?sveN ?opqN ?mroN ?topN ?lc1 ?h11_1 ?cT1 ?lP_1 ?lc2 ?h11_2 ?cT2 ?lP_2 ?lc3 ?h11_3 ?cT3 ?lP_3 ?ne12 ?ne13 ?ne23 ?tT1 ?tT2 ?tT3
    (case aC => k_is)
    (case aCB => k_is)
    (case aCM => k_is)
    (case aCN => k_is)
    (case aCJ => k_is)
    (case aPlaces => k_is)
    (case zint => k_is)
    (case zlen => k_is)
    (case zabs => k_is)
    (case zisinstance => k_is)
    (case zbool => k_is)
    (case zrange => k_is)
    (case ztuple => k_is)
    (case zlist => k_is)
    (case zrepr => k_is)
    (case zsuper => k_is)
    (case aII => k_is)
    (case lII => k_is)
    (case cII => k_is)
    (case kII => k_is)
    (case aIP => k_is)
    (case lIP => k_is)
    (case cIP => k_is)
    (case kIP => k_is)
    (case aIS => k_is)
    (case lIS => k_is)
    (case cIS => k_is)
    (case kIS => k_is)
    (case aNS => k_is)
    (case lNS => k_is)
    (case cNS => k_is)
    (case kNS => k_is)
    (case aSt => k_is)
    (case lSt => k_is)
    (case cSt => k_is)
    (case kSt => k_is)
    (case aDr => k_is)
    (case lDr => k_is)
    (case cDr => k_is)
    (case kDr => k_is)
    (case aPi => k_is)
    (case lPi => k_is)
    (case cPi => k_is)
    (case kPi => k_is)
    (case aTh => k_is)
    (case lTh => k_is)
    (case cTh => k_is)
    (case kTh => k_is)
    (case aWh => k_is)
    (case lWh => k_is)
    (case cWh => k_is)
    (case kWh => k_is)
    (case aLS => k_is)
    (case lLS => k_is)
    (case cLS => k_is)
    (case kLS => k_is)
    (case aTo => k_is)
    (case lTo => k_is)
    (case cTo => k_is)
    (case kTo => k_is)
    (case aSh => k_is)
    (case lSh => k_is)
    (case cSh => k_is)
    (case kSh => k_is)
    (case aNe => k_is)
    (case lNe => k_is)
    (case cNe => k_is)
    (case kNe => k_is)
    (case aPR => k_is)
    (case lPR => k_is)
    (case cPR => k_is)
    (case kPR => k_is)
    (case aJR => k_is)
    (case lJR => k_is)
    (case cJR => k_is)
    (case kJR => k_is)
    (case aMR => k_is)
    (case lMR => k_is)
    (case cMR => k_is)
    (case kMR => k_is)
    (case aLa => k_is)
    (case lLa => k_is)
    (case cLa => k_is)
    (case kLa => k_is)
    (case aIn => k_is)
    (case iIn => k_is)
    (case lIn => k_is)
    (case cIn => k_is)
    (case kIn => k_is)
    (case lT0 => k_is)
    (case pg => k_is)
    (case hd => k_is)
    (case po => k_is)
    (case sa => k_is)
    (case mk => k_is)
    (case kc => k_is)
    (case n1 => k_is)
    (case n2 => k_is)
    (case n3 => k_is)
    (case pap3 => k_is)
    (case pbp3 => k_is)
    (case pcp3 => k_is)
    (case pdp3 => k_is)
    (case lP3 => k_is)
    (case cP3 => k_is)
    (case kP3 => k_is)
    (case aHa => k_is)
    (case iHa => k_is)
    (case lHa => k_is)
    (case cHa => k_is)
    (case kHa => k_is)
    (case aIx => k_is)
    (case iIx => k_is)
    (case lIx => k_is)
    (case cIx => k_is)
    (case kIx => k_is)
    (case aPl => k_is)
    (case iPl => k_is)
    (case lPl => k_is)
    (case cPl => k_is)
    (case kPl => k_is)
    (case aCu => k_is)
    (case iCu => k_is)
    (case lCu => k_is)
    (case cCu => k_is)
    (case kCu => k_is)
    (case aJo => k_is)
    (case iJo => k_is)
    (case lJo => k_is)
    (case cJo => k_is)
    (case kJo => k_is)
    (case aMo => k_is)
    (case iMo => k_is)
    (case lMo => k_is)
    (case cMo => k_is)
    (case kMo => k_is)
    (case aEq => k_is)
    (case iEq => k_is)
    (case lEq => k_is)
    (case cEq => k_is)
    (case kEq => k_is)
    (case cc => k_is)
    (case cn => k_is)
    (case ct => k_is)
    (case cm => k_is)
    (case ktNoneType => kit_is)
    (case ktbool => kit_is)
    (case ktint => kit_is)
    (case ktstr => kit_is)
    (case ktlist => kit_is)
    (case kttuple => kit_is)
    (case ktdict => kit_is)
    (case xCB => k_exc)
    (case xCJ => k_exc)
    (case kCB => k_is)
    (case bCB => k_is)
    (case tCB => k_is)
    (case egCB => k_is)
    (case ehCB => k_is)
    (case edCB => k_is)
    (case ecCB => k_is)
    (case emCB => k_is)
    (case mSCB => k_is)
    (case kCJ => k_is)
    (case bCJ => k_is)
    (case tCJ => k_is)
    (case egCJ => k_is)
    (case ehCJ => k_is)
    (case edCJ => k_is)
    (case ecCJ => k_is)
    (case emCJ => k_is)
    (case mSCJ => k_is)
    (case kCN => k_is)
    (case bCN => k_is)
    (case tCN => k_is)
    (case egCN => k_is)
    (case ehCN => k_is)
    (case edCN => k_is)
    (case ecCN => k_is)
    (case emCN => k_is)
    (case mSCN => k_is)
    (case mB => k_is)
    (case mD => k_is)
    (case mT => k_is)
    (case kkCNCJ => kit_is)
    (case kkCNCB => kit_is)
    (case kkCJCN => kit_is)
    (case kkCJCB => kit_is)
    (case kkCBCN => kit_is)
    (case kkCBCJ => kit_is)
    (case lCN => k_is)
    (case rvN => kernel_rfl)
    (case saN => k_is)
    (case iiN => kernel_rfl)
    (case noN => k_is)
    (case aNI => k_is)
    (case tNI => k_is)
    (case lNI => k_is)
    (case cNI => k_is)
    (case lcdN => k_is)
    (case v2N => rfl)
    (case fiN => kernel_rfl)
    (case lccN => k_is)
    (case clsN => k_is)
    (case supN => kernel_rfl)
    (case sveN => k_is)
    (case opqN => k_is)
    (case mroN => k_is)
    (case topN => kernel_rfl)
    (case lc1 => k_is)
    (case h11_1 => rfl)
    (case cT1 => kernel_rfl)
    (case lP_1 => kernel_rfl)
    (case lc2 => k_is)
    (case h11_2 => rfl)
    (case cT2 => kernel_rfl)
    (case lP_2 => kernel_rfl)
    (case lc3 => k_is)
    (case h11_3 => rfl)
    (case cT3 => kernel_rfl)
    (case lP_3 => kernel_rfl)
    (case ne12 => decide)
    (case ne13 => decide)
    (case ne23 => decide)
    (case tT1 => exact hTabs _ (by k_mem)); (case tT2 => exact hTabs _ (by k_mem)); (case tT3 => exact hTabs _ (by k_mem))
