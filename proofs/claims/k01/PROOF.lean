import PyProof.Rows.All
import Wide.All
import OpenK.AllK
import Wide.FinOn
import HandS.ForMost
import HandS.ForExc
import HandS.Lambda
import HandS.EndTab
import HandS.IsInst
import HandS.ExcValue
import HandS.ExcIs
import PyProof.FactsAll.object_2
import PyProof.InstNe
import KE.KExcIs
import HandS.Flow
import HandS.Property
import HandS.OwnEq
import HandS.MakeKw
import HandS.Defaults
import HandS.MakeKwOnly
import PySem.Challenge.RW_backmaps_k01_areas_of_any_value
set_option Elab.async false
set_option linter.all false
set_option maxRecDepth 100000
set_option maxHeartbeats 4000000
/-! further rules: a caught exception kept as a value; isinstance of it; == and != by an own __eq__ with either answer -/
namespace L3
open PySem PySem.Spec PyProof.Rows L2

/-- an exception object of the class cls, its own dict at d, held as a value -/
def ExV (cls : Value) (d : Option Addr) (a : Addr) : HO := .ext fun h => ∃ (oe : Obj) (vs : Array Value), h.get? a = some oe ∧ Zc cls d oe ∧ oe.data = .fields vs
theorem exV_ok {P : Program} {w : World} {H : Hp} {h : Heap} {a : Addr} {cls : Value} {d : Option Addr} {oe : Obj} {vs : Array Value} (e : h.get? a = some oe) (z : Zc cls d oe) (hd : oe.data = .fields vs) : ObjOk P w H h a (ExV cls d a) :=
  ⟨⟨oe, vs, e, z, hd⟩, ⟨oe, e⟩, fun _ _ ⟨o, v, q, r⟩ k => ⟨o, v, k o q, r⟩⟩
section
variable {X : Cx} {pins : List (Addr × Obj)} {σ : L2.St} {H : Hp} {s sI : Shared}
/-- an object that is new since sI is tracked from now on -/
theorem track (J : Inv X pins σ H s) (JI : Inv X pins σ H sI) {a : Addr} {oe : Obj} {vs : Array Value} {cls : Value} {d : Option Addr} (na : H a = none) (new : sI.heap.get? a = none) (he : s.heap.get? a = some oe) (hz : Zc cls d oe) (hd : oe.data = .fields vs) :
    Inv X pins σ (upd H a (ExV cls d a)) s := by
  have nI : ∀ b o, sI.heap.get? b = some o → b ≠ a := fun b o e z => by
    rw [z, new] at e
    cases e
  have nH : ∀ b u, H b = some u → b ≠ a := fun b u e => ne_of_none e na
  refine ⟨J.ok, J.os, J.bare, ⟨J.base.keep, J.base.slot, fun b o e n hx => ?_, J.base.there, fun b xs e => ?_, fun b o u e => ?_, fun b ps e => ?_⟩, J.loc, J.cell, ?_, fun x c e => ?_, fun p hp => ?_, ?_, J.len⟩
  · obtain ⟨o', e'⟩ := JI.base.there b o e hx
    rw [upd_ne (nI b o' e')]
    exact J.base.free b o e n hx
  · have q := J.base.tups b xs e
    rw [upd_ne (nH b _ q)]
    exact q
  · have q := J.base.frzs b o u e
    rw [upd_ne (nH b _ q)]
    exact q
  · obtain ⟨m, q⟩ := J.base.tbls b ps e
    exact ⟨m, by rw [upd_ne (nH b _ q)]; exact q⟩
  · obtain ⟨m, ⟨o, es, ep, ho, r⟩, _⟩ := JI.loc
    rw [upd_ne (nI _ _ ho)]
    exact J.free
  · obtain ⟨v, o, ho, _⟩ := JI.cell x c e
    rw [upd_ne (nI _ _ ho)]
    exact J.freeC x c e
  · obtain ⟨e1, _⟩ := JI.pin p hp
    obtain ⟨g1, g2, g3, g4, g5⟩ := J.pin p hp
    exact ⟨g1, by rw [upd_ne (nI _ _ e1)]; exact g2, g3, g4, g5⟩
  · exact J.hok.laidN (fun _ _ e => e) na (exV_ok he hz hd)
/-- an exception in the air at a, from here on an object of the abstract heap: what an except clause's suite starts from -/
theorem kept_at (hs : X.stack = X.env :: X.outer) {B : Heap} {sI : Shared} {a : Addr} {cls : Value} {d : Option Addr} (I : Inv X pins σ H sI) (old : ∀ b o, sI.heap.get? b = some o → b ∉ frs X.stack → B.get? b = some o)
    (fly : HandSPX.FlyingZ B (X.env :: X.outer) a (Zc cls d) s.heap) (up : sI.heap.UpToSlots s.heap) (ho : s.os = sI.os) (hb : AllBare s.gens) (na : H a = none) :
    Inv (X.suite a (X.pn ++ pins)) [] σ (upd H a (ExV cls d a)) s := by
  obtain ⟨oe, vs, he, hz, hd⟩ := fly.there
  have off : a ∉ frs X.stack := by
    rw [hs]
    intro hm
    obtain ⟨_, o, e, bad⟩ := fly.2.2.1.mem hm
    cases he.symm.trans e
    exact bad vs hd
  have fresh : sI.heap.get? a = none := Option.eq_none_iff_forall_ne_some.mpr fun o e => by
    have z := old a o e off
    rw [fly.2.1] at z
    cases z
  have K := track (I.landed old fly.1 up ho hb) I na fresh he hz hd
  exact { ok := K.ok.suite _ _, os := K.os, bare := K.bare, base := K.base, loc := K.loc, cell := K.cell, free := K.free, freeC := K.freeC, pin := fun p hp => K.pin p (by simpa using hp), hok := K.hok, len := K.len }
/-- behind the suite -/
theorem out_of_suite {a : Addr} {rest : List (Addr × Obj)} (ok : X.Ok) (K : Inv (X.suite a (X.pn ++ pins)) rest σ H s) : Inv X pins σ H s where
  ok := ok
  os := K.os
  bare := K.bare
  base := K.base
  loc := K.loc
  cell := K.cell
  free := K.free
  freeC := K.freeC
  pin := fun p hp => K.pin p (List.mem_append.mpr (.inl hp))
  hok := K.hok
  len := K.len
end
/-- the ends of an except clause's suite: the name at i goes -/
def goes (i : Nat) (D : Ends) : Ends := ⟨fun τ G => D.nx (τ.set i none) G, D.rt, fun τ G => D.bk (τ.set i none) G, fun τ G => D.ct (τ.set i none) G⟩
/-- what 'except x as n' wishes, if it catches all that the body raises, and the exception is held as a value from the suite on; n is at the slot i of m -/
def wTrk (K : PySem.W.Frag) (c : Value) (i m : Nat) (ts : Addr → TS) (D : Ends) : WX := fun cls d τ G => τ.length = m → PySem.W.exmOne K cls c = some true ∧ ∀ a, G a = none → ts a (goes i D) (τ.set i (some (.ref a))) (upd G a (ExV cls d a))
section
variable {X : Cx} {x n : Str} {c : Value} {i : Nat} {body suite : List Stmt} {b₀ : Stmt} {np pos pos' : Pos} {tb : WX → TS} {ts : Addr → TS}
/-- the clause, at an exception that flies -/
theorem clause_trk {pins : List (Addr × Obj)} {D : Ends} {e : Value} {s₁ : Shared} (ok : X.Ok) (hs : X.stack = X.env :: X.outer) (hf : X.env.frame = some X.env.locals) (hN : X.N.Nodup) (hi : X.N[i]? = some n) (hln : X.env.kindOf n = some .local) (hc : Names X x c)
    (hsu : ∀ (a : Addr) (pn : List (Addr × Obj)), PSs (X.suite a pn) (b₀ :: suite) (ts a)) {xe : Value → Shared → Prop} (air : XE (X.tr (X.pn ++ pins) xe) (wTrk X.K c i X.N.length ts D) e s₁) :
    wpAny (model X.prog X.w) X.A (noteFrame e X.env) (fun _ s₂ => wpAny (model X.prog X.w) X.A (setFlight e none) (fun _ s₃ => wpAny (model X.prog X.w) X.A (handleBy e X.env [.ExceptHandler (some (.Name x np)) (some n) (b₀ :: suite) pos']) (SP X pins D) X.xe s₃) X.xe s₂) X.xe s₁ := by
  have off : ∀ {σ₆ : L2.St} {H₆ : Hp} {s₆ : Shared} {Q : Shared → Prop} {a : Addr}, Inv (X.suite a (X.pn ++ pins)) [] σ₆ H₆ s₆ → (∀ s₇, Inv X pins (σ₆.set i none) H₆ s₇ → Q s₇) →
      wpAny (model X.prog X.w) X.A (do bindName X.env n .none; unbindBehindTheSuite X.env n pos') (fun _ s₇ => Q s₇) X.xe s₆ := fun K q => gone_ok (out_of_suite ok K) hN hi hln q
  rcases air with ⟨a, B, sI, rest, τ, G, cls, d, rfl, J', old, up, sky, na, ho, hb, wish⟩
  have J := J'.ofTry ok
  obtain ⟨mt, run⟩ := wish J'.len
  have kept := fun (h : Heap) (fl : HandSPX.FlyingZ B (X.env :: X.outer) a (Zc cls d) h) (u : sI.heap.UpToSlots h) => kept_at (s := { s₁ with heap := h }) hs J old fl u ho hb na
  apply Sky.land Zc.steady (ok.frames.trans (congrArg some hs)) hf (by rw [← hs]; exact sky)
  intro h₃ fly₃ up₃
  have K₃ := kept h₃ fly₃ (up.trans up₃)
  obtain ⟨oe, vs, he, hz, _⟩ := fly₃.there
  apply wpAny_handleBy_cons (codeAny_handlers_test ?_) (by intro q; cases q)
  have ask := PySem.W.exm_one (M := model X.prog X.w) K₃.kIn (e := a) (fun A Q E s k q => wpAny_typeOf_ref (k _ _ he) (hz.1.symm ▸ q)) mt
  have name : ∀ {Q : Value → Shared → Prop} {E : Value → Shared → Prop}, Q c { s₁ with heap := h₃ } → wpAny (model X.prog X.w) (X.A.mark (some (.ref a))) (eval (.Name x np) X.env) Q E { s₁ with heap := h₃ } := by
    intro Q E q
    rcases hc with ⟨hg, nd, own | ⟨no, bb, nn⟩⟩
    · exact ld_glob (X := X.suite a (X.pn ++ pins)) K₃ hg own q nd
    · exact ld_blt (X := X.suite a (X.pn ++ pins)) K₃ hg no bb q nn nd
  apply name
  apply ask.here
  apply codeAny_handlers_suite_as
  apply HandSPX.lands_againZ fly₃
  intro h₄ fly₄ up₄
  apply store_ok (X := X.suite a (X.pn ++ pins)) (v := .ref a) (kept h₄ fly₄ ((up.trans up₃).trans up₄)) hN hi (.inl hln) rfl _ (.inr hln)
  intro s₅ K₅
  apply wpAny_mono ((hsu a (X.pn ++ pins)).run [] s₅ _ _ _ K₅ (run a na)) _ fun _ _ z => z.elim
  intro f s₆ e₆
  cases f with
  | ret u =>
    obtain ⟨v, _, _, K, r, q⟩ := e₆
    exact off K fun _ J₇ => ⟨v, _, _, J₇, r, q⟩
  | next => exact (match e₆ with | ⟨_, _, K, q⟩ => off K fun _ J₇ => ⟨_, _, J₇, q⟩)
  | brk => exact (match e₆ with | ⟨_, _, K, q⟩ => off K fun _ J₇ => ⟨_, _, J₇, q⟩)
  | cont => exact (match e₆ with | ⟨_, _, K, q⟩ => off K fun _ J₇ => ⟨_, _, J₇, q⟩)
/-- try: body / except x as n: suite, where x catches all that the body raises -/
theorem ps_try_trk (hs : X.stack = X.env :: X.outer) (hf : X.env.frame = some X.env.locals) (hN : X.N.Nodup) (hi : X.N[i]? = some n) (hln : X.env.kindOf n = some .local) (hc : Names X x c)
    (hb : ∀ (W : WX) (pn : List (Addr × Obj)) (xe : Value → Shared → Prop), Takes (X.tr pn xe) W → PassesOwn (model X.prog X.w) X.A X.env xe → PSs (X.tr pn xe) body (tb W))
    (hsu : ∀ (a : Addr) (pn : List (Addr × Obj)), PSs (X.suite a pn) (b₀ :: suite) (ts a)) :
    PS X (.Try body [.ExceptHandler (some (.Name x np)) (some n) (b₀ :: suite) pos'] [] [] pos) (fun D τ G => tb (wTrk X.K c i X.N.length ts D) D τ G) where
  run pins s τ G D I h := by
    apply wpAny_Try_except
    refine wpAny_mono ((hb (wTrk X.K c i X.N.length ts D) (X.pn ++ pins) _ (fun _ _ air => clause_trk I.ok hs hf hN hi hln hc hsu air) PassesOwn.looking).run [] s τ G D (I.toTry _) h) ?_ fun _ _ r => r
    intro f s₁ e₁
    cases f with
    | ret u => exact (match e₁ with | ⟨v, _, _, K, r, q⟩ => ⟨v, _, _, K.ofTry I.ok, r, q⟩)
    | next => exact (match e₁ with | ⟨_, _, K, q⟩ => wpAny_execs_nil ⟨_, _, K.ofTry I.ok, q⟩)
    | brk => exact (match e₁ with | ⟨_, _, K, q⟩ => ⟨_, _, K.ofTry I.ok, q⟩)
    | cont => exact (match e₁ with | ⟨_, _, K, q⟩ => ⟨_, _, K.ofTry I.ok, q⟩)
end
end L3
namespace L3
open PySem PySem.Spec PyProof.Rows L2
/-! ### isinstance of any of these -/
/-- what x is: a value of a kind that TyX tells, or a kept exception of an own class -/
inductive TyV (K : PySem.W.Frag) (H : Hp) : V → Value → Prop where
  | base {x : V} {t : Value} (h : TyX K H x t) : TyV K H x t
  | exc {a D : Addr} (h : H a = some (ExV (.ref D) none a)) (c : L2.ExcC K D) : TyV K H (.ref a) (.ref D)
  | excd {a D dd : Addr} {fs : List (Str × V)} (h : H a = some (ExV (.ref D) (some dd) a)) (hd : H dd = some (.xd fs)) (c : L2.ExcC K D) (hno : ¬ ("__class__" : Str) ∈ fs.map (·.1)) : TyV K H (.ref a) (.ref D)
def rIsV (K : PySem.W.Frag) : List V → Hp → VK → Prop := fun xs H Q => ∃ (x c : V) (t u : Value) (b : Bool), xs = [x, c] ∧ ClsV c u ∧ TyV K H x t ∧ PySem.W.kitOne K t u = some b ∧ Q (.bl b) H
theorem excC_kit {K : PySem.W.Frag} {D x : Addr} {ox : Obj} {od : Option Obj} (c : L2.ExcC K D) : PySem.W.KitX K (.ref x) (.ref D) (fun h => PySem.W.InstAt h x ox D od) :=
  PySem.W.kitx_exc (by obtain ⟨cd, hc, _⟩ := PySem.W.any_some c.hd; rw [hc]; rfl) c.hg c.hk c.hs c.ha c.hn c.ht c.hm
section
variable {X : Cx} {pins : List (Addr × Obj)} {σ : L2.St} {H : Hp} {s : Shared}
theorem exv_inst (I : Inv X pins σ H s) {a D : Addr} (h : H a = some (ExV (.ref D) none a)) : ∃ ox, PySem.W.InstAt s.heap a ox D none := by
  obtain ⟨⟨oe, vs, e, z, hd⟩, _, _⟩ := I.hok a _ h
  refine ⟨oe, ?_⟩
  obtain ⟨oc, od, oda, osl⟩ := oe
  obtain ⟨h1, h2⟩ := z
  dsimp only at h1 h2 hd
  subst h1 h2 hd
  exact ⟨e, rfl, rfl, trivial⟩
theorem exv_instd (I : Inv X pins σ H s) {a D dd : Addr} {fs : List (Str × V)} (h : H a = some (ExV (.ref D) (some dd) a)) (hd : H dd = some (.xd fs)) : ∃ ox od, PySem.W.InstAt s.heap a ox D (some od) ∧ s.heap.get? dd = some od := by
  obtain ⟨⟨oe, vs, e, z, hdt⟩, _, _⟩ := I.hok a _ h
  obtain ⟨mA, ⟨od, es, ep, e2, r⟩, _⟩ := (show ObjOk X.prog X.w H s.heap dd (.xd fs) from I.hok dd _ hd)
  refine ⟨oe, od, ?_, e2⟩
  obtain ⟨oc, o2, oda, osl⟩ := oe
  obtain ⟨h1, h2⟩ := z
  dsimp only at h1 h2 hdt
  subst h1 h2 hdt
  exact ⟨e, rfl, rfl, e2⟩
/-- what the library's isinstance rules ask -/
theorem kitV_of {x : V} {u t : Value} (I : Inv X pins σ H s) (rx : RelV x u) (ty : TyV X.K H x t) : ∃ P : Heap → Prop, PySem.W.KitX X.K u t P ∧ P s.heap ∧ u ≠ .builtin "__main__.__loader__#opaque" := by
  cases ty with
  | base h => exact kit_of I rx h
  | @exc a D h c =>
    obtain rfl : u = .ref a := rx
    obtain ⟨ox, J⟩ := exv_inst I h
    exact ⟨_, excC_kit c, J, fun z => nomatch z⟩
  | @excd a D dd fs h hd c hno =>
    obtain rfl : u = .ref a := rx
    obtain ⟨ox, od, J, _⟩ := exv_instd I h hd
    exact ⟨_, excC_kit c, J, fun z => nomatch z⟩
end
theorem call_isV {X : Cx} : CallR X (.builtin "isinstance") (rIsV X.K) := by
  rintro pins s σ H xs us Q I r ⟨x, c, t, u, b, rfl, k, ty, e, q⟩
  obtain ⟨_, _, rfl, r1, r2⟩ := vals2 r
  have e2 := k.eq r2
  subst e2
  obtain ⟨P, Z, p, hx⟩ := kitV_of I r1 ty
  exact PySem.W.kia_one Z I.kIn p e hx fun n => ⟨.bl b, H, I.tok n, rfl, q⟩
/-! ### == and != by an own __eq__ -/
/-- x == y, x an instance of the class at C whose __eq__ is the text's own -/
def rOwnEq (K : PySem.W.Frag) (C : Addr) (sp : Sp) (E : XK) (neg : Bool) : R2 := fun x y H Q => ∃ (a dx : Addr) (fs : List (Str × V)) (tb : Value), x = .ref a ∧ H a = some (.ins C dx fs) ∧ TyV K H y tb ∧ PySem.W.notFirst K C tb = true ∧
  sp [x, y] H (fun v H' => ∃ b, v = .bl b ∧ Q (.bl (if neg then !b else b)) H') E
section
variable {prog : Program} {w : World} {A : Around} {E : Value → Shared → Prop} {s : Shared} {K : PySem.W.Frag} {x C L f : Addr} {h₀ : Heap} {m : Str → Option Value} {ox : Obj} {od : Option Obj} {name : Str} {b tb : Value}
open PySem.W in
/-- a special method that the class has as a builtin is called with the instance ahead -/
theorem ifBound_B {M : Model} {id : String} {args : List Value} {Q : Option Value → Shared → Prop} (X : K.In s.heap) (I : InstAt s.heap x ox C od) (hs : findIn K (.ref C) name = some (some (.builtin id))) (hb : ∀ self, bindSpecial (.builtin id) self = pure (.builtin id, [self]))
    (h : wpAny M A (call (.builtin id) (.ref x :: args)) (fun v => Q (some v)) E s) : wpAny M A (callSpecialIfBound? (.ref x) name args) Q E s := by
  have ended : wpAny M A (call (.builtin id) ([.ref x] ++ args) >>= fun v => pure (some v)) Q E s :=
    wpAny_bind (wpAny_mono h (fun _ _ => wpAny_pure) fun _ _ e => e)
  unfold callSpecialIfBound? bindSpecialIfBound?
  apply wpAny_holding
  iterate 3 apply wpAny_bind
  apply I.type.here
  apply (looks_findIn X hs).here
  apply wpAny_bind
  apply wpAny_askSetting
  apply wpAny_ite
  split <;> rw [hb]
  all_goals repeat (first | exact ended | apply wpAny_tryCatch | apply wpAny_bind | apply wpAny_pure)
open PySem.W in
/-- object.__ne__ of an instance whose __eq__ is the text's own -/
theorem objNe_own {Q : Fin → Shared → Prop} (X : K.In s.heap) (I : InstAt s.heap x ox C od) (hu : A.units < cLine) (hs : findIn K (.ref C) "__eq__" = some (some (.ref f))) (hf : isFn K (.ref f) = true)
    (h : wpAny (model prog w) A (call (.ref f) [.ref x, b]) (fun v s' => ∃ r, v = .bool r ∧ Q (.done (.ret (.bool (!r)))) s') E s) :
    wpAny (model prog w) A (Builtin.«object.__ne__» ⟨[.ref x, b], []⟩) Q E s := by
  have eqd := fun (R : Option Value → Shared → Prop) (z : ∀ r s', Q (.done (.ret (.bool (!r)))) s' → R (some (.bool r)) s') =>
    ifBound_K (args := [b]) (Q := R) X I hs hf (wpAny_mono h (fun _ s' ⟨r, e, q⟩ => e ▸ z r s' q) fun _ _ e => e)
  unfold Builtin.«object.__ne__»
  repeat (first
    | (with_reducible apply wpAny_cRoomFor hu)
    | (apply wpAny_bind (m := callSpecialIfBound? (.ref x) (Str.ofString "__eq__") [b]); apply eqd; intro r s' q)
    | exact q
    | exact wpAny_pure q
    | exact wpAny_truthy_bool q
    | (apply wpAny_bind (m := truthy (.bool _)); apply wpAny_truthy_bool)
    | wp_step)
open PySem.W in
/-- the comparison's own answer, where the left side is asked first and answers -/
theorem asked_first {Q : Value → Shared → Prop} (hu : A.units < cLine) (X : K.In s.heap) (I : InstAt s.heap x ox C od) (hb : Looks (model prog w) s.heap (typeOf b) tb) (hn : notFirst K C tb = true)
    (one : wpAny (model prog w) A (tryCompare (.ref x) (cmpInfo .NotEq).2.1 b) (fun r s' => ∃ v, r = some v ∧ Q v s') E s) : wpAny (model prog w) A (richCompare .NotEq (.ref x) b) Q E s := by
  have no : (tb != .ref C) = true → subIn K tb (.ref C) = some false := fun z => by
    have hn' : (tb == .ref C || subIn K tb (.ref C) == some false) = true := hn
    rw [show (tb == .ref C) = false from by simpa [bne] using z, Bool.false_or] at hn'
    exact beq_iff_eq.mp hn'
  have rest := fun (k : Option Value → Sem Value) (hk : ∀ v, k (some v) = pure v) => wpAny_bind (f := k) (wpAny_mono one (fun r s' ⟨v, e, q⟩ => show wpAny (model prog w) A (k r) Q E s' by rw [e, hk]; exact wpAny_pure q) fun _ _ e => e)
  simp only [richCompare, oneThing_ref]
  apply wpAny_holding
  apply wpAny_bind
  apply wpAny_cRoomFor hu
  apply wpAny_bind
  apply I.type.here
  apply wpAny_bind
  apply hb.here
  by_cases q : (Value.ref C != tb) = true
  · rw [if_pos q]
    apply wpAny_bind
    apply (looks_subIn X (no (bne_comm.trans q))).here
    exact rest _ fun _ => rfl
  · rw [if_neg q]
    exact wpAny_bind (wpAny_pure (rest _ fun _ => rfl))
open PySem.W in
theorem cmp_neOwn {Q : Value → Shared → Prop} (hu : A.units + 1 < cLine) (X : K.In s.heap) (I : InstAt s.heap x ox C od) (hb : Looks (model prog w) s.heap (typeOf b) tb) (hn : notFirst K C tb = true) (hs : findIn K (.ref C) "__eq__" = some (some (.ref f))) (hf : isFn K (.ref f) = true)
    (hsN : findIn K (.ref C) "__ne__" = some (some (.builtin "object.__ne__"))) (hm : mroIn K C (.type "object") = some true)
    (h : wpAny (model prog w) A.in1 (call (.ref f) [.ref x, b]) (fun v s' => ∃ r, v = .bool r ∧ Q (.bool (!r)) s') E s) : wpAny (model prog w) A (richCompare .NotEq (.ref x) b) Q E s := by
  apply asked_first (Nat.lt_of_succ_lt hu) X I hb hn
  unfold tryCompare
  apply wpAny_bind
  apply ifBound_B X I hsN F.slot_object_ne.bind
  apply wpAny_call (codeAny_call_builtin F.slot_object_ne.plain F.cmpEntry_ne (check_slot F.cmpKind_ne F.cmpSplit_ne (I.type.andThen (looks_mroIn X hm)) (F.cmpArgs_ne _ _) _))
  exact objNe_own X I (A := A.in1) hu hs hf (wpAny_mono h (fun _ _ ⟨r, e, q⟩ => ⟨r, e, wpAny_pure ⟨_, rfl, q⟩⟩) fun _ _ e => e)
end
section
variable {X : Cx} {CX : CXT} {n : Nat} {C f : Addr} {fd : FuncData} {ps : List Str} {sp : Sp} {E : XK}
/-- the call of an own __eq__ that answers with a bool -/
theorem call_eq {A' : Around} {pins : List (Addr × Obj)} {s : Shared} {σ : L2.St} {H : Hp} {a : Addr} {y : V} {u : Value} {Q : Bool → Hp → Prop} (F : FnOk X.prog X.w X.K X.mg X.base CX n f fd ps sp) (hb : L2.Binds X.K fd ps []) (hx : Passes CX X E) (I : Inv X pins σ H s) (ry : RelV y u)
    (hr : Room n A') (he : Env0 X.prog X.w X.K X.mg X.base A' X.stack s H) (hsp : sp [.ref a, y] H (fun v H' => ∃ b, v = .bl b ∧ Q b H') E) :
    wpAny (model X.prog X.w) A' (call (.ref f) [.ref a, u]) (fun v s' => ∃ b, v = .bool b ∧ ∃ H', Inv X pins σ H' s' ∧ Q b H') X.xe s := by
  have bound := hb s [.ref a, u] I.kIn (by simpa using F.len _ _ _ _ hsp)
  apply wpAny_call (codeAny_mono (F.run A' X.stack s H ⟨[.ref a, u], []⟩ [.ref a, u] [.ref a, y] _ E hr he (by simpa using bound) (.cons rfl (.cons ry .nil)) hsp) _)
  rintro (e | fl) s' hq
  · exact hx pins σ H s e s' I hq
  · cases fl with
    | ret v =>
      obtain ⟨_, H', I', rz, b, rfl, q⟩ := I.after hq
      exact ⟨b, rz, H', I', q⟩
    | _ => exact hq.elim
theorem op_eqOwn (F : FnOk X.prog X.w X.K X.mg X.base CX n f fd ps sp) (hs : PySem.W.findIn X.K (.ref C) "__eq__" = some (some (.ref f))) (hf : PySem.W.isFn X.K (.ref f) = true) (hb : L2.Binds X.K fd ps []) (hx : Passes CX X E) (hr : Room n X.A) :
    OpR X (compareOp .Eq) (rOwnEq X.K C sp E false) := by
  rintro pins s σ H x y v u Q I rx ry ⟨a, dx, fs, tb, rfl, ha, ty, hn, hsp⟩
  cases rx
  obtain ⟨_, ⟨od, J, _⟩⟩ := (ins_get I.hok ha).imp fun _ z => z.1.look
  obtain ⟨P, Z, p, _⟩ := kitV_of I ry ty
  obtain ⟨m, hF⟩ := I.fr
  exact PySem.W.cmp_K (op := .Eq) (tb := tb) hr.units0 hF I.ok.mod.kin J (Z.ty _ _ I.kIn p) hn hs hf
    (wpAny_mono (call_eq F hb hx I ry hr I.env0 hsp) (fun _ _ ⟨b, e, H', I', q⟩ => e ▸ ⟨.bl b, H', I', rfl, q⟩) fun _ _ e => e)
theorem op_neOwn (F : FnOk X.prog X.w X.K X.mg X.base CX n f fd ps sp) (hs : PySem.W.findIn X.K (.ref C) "__eq__" = some (some (.ref f))) (hf : PySem.W.isFn X.K (.ref f) = true) (hsN : PySem.W.findIn X.K (.ref C) "__ne__" = some (some (.builtin "object.__ne__")))
    (hm : PySem.W.mroIn X.K C (.type "object") = some true) (hb : L2.Binds X.K fd ps []) (hx : Passes CX X E) (hr : Room (n + 1) X.A) :
    OpR X (compareOp .NotEq) (rOwnEq X.K C sp E true) := by
  rintro pins s σ H x y v u Q I rx ry ⟨a, dx, fs, tb, rfl, ha, ty, hn, hsp⟩
  cases rx
  obtain ⟨_, ⟨od, J, _⟩⟩ := (ins_get I.hok ha).imp fun _ z => z.1.look
  obtain ⟨P, Z, p, _⟩ := kitV_of I ry ty
  exact cmp_neOwn (by have := hr.un; omega) I.kIn J (Z.ty _ _ I.kIn p) hn hs hf hsN hm
    (wpAny_mono (call_eq F hb hx I ry hr.in1 I.env0.in1 hsp) (fun _ _ ⟨b, e, H', I', q⟩ => ⟨b, e, .bl (!b), H', I', rfl, q⟩) fun _ _ e => e)
end
end L3
set_option maxRecDepth 100000
set_option maxHeartbeats 4000000
/-! the draws -/
namespace Bm
open PySem L2
def top (i : Nat) : Stmt := PySem.Challenge.pw_backmaps_k01_areas_of_any_value.main.body.getD i (.Pass ⟨0, 0, 0, 0⟩)
abbrev sState : Stmt := top 12
abbrev sDraw : Stmt := top 13
abbrev sPick : Stmt := top 14

/-- the state of the draws stands at d, its stock at st -/
def Dr (d st : Addr) (H : Hp) : Prop := ∃ (ms : List Int) (sp mx : Int), H d = some (.lst [.ref st, .int sp, .int mx]) ∧ H st = some (.lst (ms.map V.int)) ∧ 0 < ms.length ∧ ms.length ≤ 63 ∧ 0 ≤ mx ∧ mx < 2147483647
/-- all but the state of the draws is kept -/
def Kp (d st : Addr) (H H' : Hp) : Prop := ∀ b o, H b = some o → b ≠ d → b ≠ st → H' b = some o
theorem Kp.refl {d st : Addr} {H : Hp} : Kp d st H H := fun _ _ h _ _ => h
theorem Kp.trans {d st : Addr} {H H1 H2 : Hp} (a : Kp d st H H1) (b : Kp d st H1 H2) : Kp d st H H2 := fun c o h n1 n2 => b c o (a c o h n1 n2) n1 n2

def spState (K : PySem.W.Frag) : Sp := fun vs H Q _ => ∃ (a : Addr) (ns : List Int), vs = [.ref a] ∧ SqL K H a (ns.map V.int) ∧ ns.length ≤ 63 ∧
  ∀ (d st : Addr) (H' : Hp), Same H H' → H d = none → H st = none → Dr d st H' → Q (.ref d) H'
def spDraw : Sp := fun vs H Q _ => ∃ (d st : Addr) (b : Int), vs = [.ref d, .int b] ∧ Dr d st H ∧ 0 < b ∧ b < 1073741824 ∧
  ∀ (r : Int) (H' : Hp), 0 ≤ r → r < b → Dr d st H' → Kp d st H H' → Q (.int r) H'
structure TB (mg : Str → Option Value) : Prop where
  int_ : mg "int" = none
  len_ : mg "len" = none
  abs_ : mg "abs" = none
section
variable {P : Program} {w : World} {K : PySem.W.Frag} {mg : Str → Option Value} {base : Heap}
theorem scDraw : FnScope ["_law_draw_here", "_law_below", "_law_stock", "_law_spot", "_law_lump"] ["_law_draw_here", "_law_below"] (defScope sDraw) := ⟨rfl, rfl, rfl, by decide +kernel, rfl, by decide +kernel, by decide +kernel⟩
theorem ok_draw {f : Addr} {fd : FuncData} (F : Fun K "_law_draw" "_law_draw" sDraw f fd) (T : TB mg) : FnOk P w K mg base CX0 1 f fd ["_law_draw_here", "_law_below"] spDraw := by
  refine F.ok scDraw (fun vs H Q E h => ?_) (fun cdv A outer s H vs Q E hr h => ?_)
  · obtain ⟨d, st, b, rfl, _⟩ := h
    rfl
  · obtain ⟨d, st, b, rfl, ⟨ms, sp, mx, hd, hs, hp, hl, hm0, hm1⟩, hb0, hb1, k⟩ := h
    have nds : d ≠ st := ne_of hd hs (by
      intro z
      have z1 := HO.lst.inj z
      cases ms with
      | nil => simp at z1
      | cons m r => simp at z1)
    refine ⟨_, pss_cons (ps_set (i := 2) scDraw.nd rfl (Or.inl rfl) (pe_ix ix_list (pv 0) pe_int (fun _ _ => rfl)))
      (pss_cons (ps_set (i := 3) scDraw.nd rfl (Or.inl rfl) (pe_op op_modN (pe_callTy call_int1 (by rfl) T.int_ (by decide +kernel) (pa_cons (pe_ix ix_list (pv 0) pe_int (fun _ _ => rfl)) pa_nil)) (pe_callB call_len_seq (by rfl) T.len_ PySem.boot_len (pa_cons (pv 2) pa_nil))))
      (pss_cons (ps_set (i := 4) scDraw.nd rfl (Or.inl rfl) (pe_ix ix_list (pv 2) (pv 3) (fun _ _ => rfl)))
      (pss_cons (ps_if (pt_cmpR op_ge (pv 4) (pe_op op_pow pe_int pe_int) (nomark _))
        (pss_cons (ps_asg (pe_op op_fdivN (pv 4) (pv 1)) (pg_sub (pv 2) (pv 3) set_list))
          (pss_one (ps_ret (pe_op op_modN (pe_callTy call_int1 (by rfl) T.int_ (by decide +kernel) (pa_cons (pv 4) pa_nil)) (pv 1))))) pss_nil)
      (pss_cons (ps_asg (pe_op op_add (pe_ix ix_list (pv 0) pe_int (fun _ _ => rfl)) pe_int) (pg_sub (pv 0) pe_int set_list))
      (pss_cons (ps_asg (pe_op op_modN (pe_callTy call_int1 (by rfl) T.int_ (by decide +kernel) (pa_cons (pe_op op_add (pe_op op_add (pe_op op_add (pe_op op_mul (pe_ix ix_list (pv 0) pe_int (fun _ _ => rfl)) pe_int) (pv 4)) (pe_op op_mul pe_int (pe_ix ix_list (pv 0) pe_int (fun _ _ => rfl)))) pe_int) pa_nil)) pe_int) (pg_sub (pv 0) pe_int set_list))
      (pss_one (ps_ret (pe_op op_modN (pe_callTy call_int1 (by rfl) T.int_ (by decide +kernel) (pa_cons (pe_op op_fdivN (pe_op op_modN (pe_callTy call_int1 (by rfl) T.int_ (by decide +kernel) (pa_cons (pe_op op_mul (pe_ix ix_list (pv 0) pe_int (fun _ _ => rfl)) (pe_ix ix_list (pv 0) pe_int (fun _ _ => rfl))) pa_nil)) pe_int) pe_int) pa_nil)) (pv 1))))))))), ?_⟩
    have hpz : ((ms.map V.int).length : Int) ≠ 0 := by rw [List.length_map]; omega
    -- stock = d[0]; spot = int(d[1]) % len(stock)
    refine ⟨_, rfl, _, _, _, _, rfl, rfl, SqL.of hd, rfl, ?_⟩
    refine ⟨_, rfl, _, _, _, _, rfl, rfl, SqL.of hd, rfl, Or.inl ⟨_, rfl, _, rfl, _, _, rfl, .inl (SqL.of hs), _, _, rfl, rfl, hpz, ?_⟩⟩
    -- lump = stock[spot]
    obtain ⟨j, hj, ej⟩ : ∃ j : Nat, j < ms.length ∧ sp.fmod ((ms.map V.int).length : Int) = (j : Int) := by
      rw [List.length_map]
      rw [Int.fmod_eq_emod_of_nonneg _ (by omega)]
      have h1 := Int.emod_nonneg sp (show ((ms.length : Int)) ≠ 0 by omega)
      have h2 := Int.emod_lt_of_pos sp (show (0 : Int) < (ms.length : Int) by omega)
      exact ⟨(sp % (ms.length : Int)).toNat, by omega, by omega⟩
    have hat : atI (ms.map V.int) (sp.fmod ((ms.map V.int).length : Int)) = some (V.int ms[j]) := by
      rw [ej]
      exact atI_nat (by rw [List.getElem?_map, List.getElem?_eq_getElem hj] <;> rfl)
    have hix : ixN (ms.map V.int).length (sp.fmod ((ms.map V.int).length : Int)) = some j := by
      rw [ej]
      unfold ixN
      rw [List.length_map, if_pos (by omega), if_pos (by omega)]
      simp
    refine ⟨_, rfl, _, rfl, _, _, _, _, rfl, rfl, SqL.of hs, hat, ?_⟩
    have hb2 : b.natAbs < 1073741824 := by omega
    -- if lump >= 10 ** 18
    refine ⟨_, rfl, _, _, rfl, rfl, ⟨by decide, by decide, by decide⟩, _, _, rfl, rfl, _, rfl, ?_⟩
    refine ite2 (fun _ => ?_) (fun _ => ?_)
    · refine ⟨_, rfl, _, rfl, _, _, rfl, rfl, ⟨by omega, hb2⟩, _, rfl, _, rfl, _, _, _, j, rfl, rfl, hs, hix, ?_⟩
      refine ⟨_, rfl, Or.inl ⟨_, rfl, _, rfl, _, _, rfl, rfl, by omega, ?_⟩⟩
      refine k _ _ ?_ ?_ ⟨ms.set j (ms[j].fdiv b), sp, mx, by rw [upd_ne nds]; exact hd, ?_, by rw [List.length_set]; exact hp, by rw [List.length_set]; exact hl, hm0, hm1⟩ fun c o e n1 n2 => ?_
      · rw [Int.fmod_eq_emod_of_nonneg _ (by omega)]
        exact Int.emod_nonneg _ (by omega)
      · rw [Int.fmod_eq_emod_of_nonneg _ (by omega)]
        exact Int.emod_lt_of_pos _ hb0
      · rw [upd_same, List.map_set]
      · rw [upd_ne n2]
        exact e
    · -- d[1] = d[1] + 1
      refine ⟨_, rfl, _, _, _, _, rfl, rfl, SqL.of hd, rfl, _, _, rfl, rfl, _, rfl, _, _, _, 1, rfl, rfl, hd, rfl, ?_⟩
      -- d[2] = int(d[2] * 48271 + lump + 7919 * d[1] + 12345) % 2147483647
      refine ⟨_, rfl, _, _, _, _, rfl, rfl, SqL.of upd_same, rfl, _, _, rfl, rfl, .inl ⟨by omega, by omega⟩, _, rfl, _, _, rfl, rfl, ?_⟩
      refine ⟨_, rfl, _, _, _, _, rfl, rfl, SqL.of upd_same, rfl, _, _, rfl, rfl, .inl ⟨by decide, by decide⟩, _, _, rfl, rfl, _, _, rfl, rfl, .inl ⟨_, rfl, _, _, rfl, rfl, (by show (2147483647 : Int) ≠ 0; decide), _, rfl, _, _, _, 2, rfl, rfl, upd_same, rfl, ?_⟩⟩
      -- int(int(d[2] * d[2]) % 2147483629 // 16) % below
      have hz0 := Int.emod_nonneg (mx * 48271 + ms[j] + 7919 * (sp + 1) + 12345) (show (2147483647 : Int) ≠ 0 by decide)
      have hz1 := Int.emod_lt_of_pos (mx * 48271 + ms[j] + 7919 * (sp + 1) + 12345) (show (0 : Int) < 2147483647 by decide)
      rw [← Int.fmod_eq_emod_of_nonneg _ (by decide)] at hz0 hz1
      refine ⟨_, rfl, _, _, _, _, rfl, rfl, SqL.of upd_same, rfl, _, rfl, _, _, _, _, rfl, rfl, SqL.of upd_same, rfl, _, _, rfl, rfl, .inl ⟨by show _ < _; omega, by show _ < _; omega⟩, .inl ⟨_, rfl, _, _, rfl, rfl, (by show (2147483629 : Int) ≠ 0; decide), _, _, rfl, rfl, ⟨by decide, by decide⟩, .inl ⟨_, rfl, _, rfl, _, _, rfl, rfl, by omega, ?_⟩⟩⟩
      refine k _ _ ?_ ?_ ⟨ms, sp + 1, _, upd_same, by rw [upd_ne nds.symm, upd_ne nds.symm]; exact hs, hp, hl, hz0, hz1⟩ fun c o e n1 n2 => ?_
      · rw [Int.fmod_eq_emod_of_nonneg _ (by omega)]
        exact Int.emod_nonneg _ (by omega)
      · rw [Int.fmod_eq_emod_of_nonneg _ (by omega)]
        exact Int.emod_lt_of_pos _ hb0
      · rw [upd_ne n1, upd_ne n1]
        exact e
end
end Bm
set_option maxRecDepth 100000
set_option maxHeartbeats 4000000
namespace Bm
open PySem L2
section
variable {P : Program} {w : World} {K : PySem.W.Frag} {mg : Str → Option Value} {base : Heap}
theorem scState : FnScope ["_law_script", "_law_lump"] ["_law_script"] (defScope sState) := ⟨rfl, rfl, rfl, by decide +kernel, rfl, by decide +kernel, by decide +kernel⟩
theorem ok_state {f : Addr} {fd : FuncData} (F : Fun K "_law_state" "_law_state" sState f fd) (T : TB mg) : FnOk P w K mg base CX0 1 f fd ["_law_script"] (spState K) := by
  refine F.ok scState (fun vs H Q E h => ?_) (fun cdv A outer s H vs Q E hr h => ?_)
  · obtain ⟨a, ns, rfl, _⟩ := h
    rfl
  · obtain ⟨a, ns, rfl, hS, hl, k⟩ := h
    refine ⟨_, pss_one (ps_ret (pe_lst (pa_cons (pe_orT
        (pe_lc (own := [("_law_lump", 1)]) (g := gName 1) (tt := tYes) rfl scState.nd (pi_list (pe_slice sl_list (pv 0) po_none (po_some pe_int))) (blkOk_by (own := [("_law_lump", 1)]) (N := ["_law_script", "_law_lump"]) (sc := defScope sState) (by decide +kernel))
          (fun _ _ _ _ _ => pg_name (i := 1) scState.nd rfl (Or.inl rfl)) (fun _ _ _ _ _ => pts_nil) (fun _ _ _ _ _ => pe_callB call_abs (by rfl) T.abs_ (by decide +kernel) (pa_cons (pv 1) pa_nil)))
        (pe_one (pe_lst (pa_cons pe_int pa_nil)))) (pa_cons pe_int (pa_cons pe_int pa_nil))))), ?_⟩
    have dr : ∀ (H1 : Hp) (D : Addr) (acc : List Int), Same H H1 → H D = none → H1 D = some (.lst (acc.map V.int)) → 0 < acc.length → acc.length ≤ 63 → ∀ l, H1 l = none → Q (.ref l) (upd H1 l (.lst [.ref D, .int 0, .int 1])) := fun H1 D acc s1 nD hD h0 h63 l nl => by
      refine k l D _ (fun b o e => ?_) (s1.free nl) nD ⟨acc, 0, 1, upd_same, ?_, h0, h63, by decide, by decide⟩
      · rw [upd_ne (ne_of_none (s1 b o e) nl)]
        exact s1 b o e
      · rw [upd_ne (ne_of_none hD nl)]
        exact hD
    refine ⟨_, rfl, _, rfl, _, _, rfl, hS, fun p np => ?_⟩
    have hcut : (cutV (ns.map V.int) none (some 63)).length ≤ 63 := Nat.le_trans (cutV_length _ _ _) (by rw [List.length_map]; exact hl)
    have hint : ∀ y ∈ cutV (ns.map V.int) none (some 63), ∃ n, y = V.int n := fun y hy => by
      unfold cutV at hy
      have h1 := List.mem_of_mem_drop (List.mem_of_mem_take hy)
      obtain ⟨n, _, e⟩ := List.mem_map.mp h1
      exact ⟨n, e.symm⟩
    generalize cutV (ns.map V.int) none (some 63) = xs at hcut hint ⊢
    have s0 : Same H (upd H p (.lst xs)) := fun b o e => by rw [upd_ne (ne_of_none e np)]; exact e
    refine ⟨p, rfl, ⟨_, SqL.of upd_same⟩, fun D nD => ?_⟩
    have nD0 : H D = none := s0.free nD
    have npD : p ≠ D := fun e => by rw [← e, upd_same] at nD; cases nD
    refine lc_list (K := K) (a := p) (xs := xs) (fun i H1 => Same H H1 ∧ H1 p = some (.lst xs) ∧ ∃ acc : List Int, acc.length = i ∧ H1 D = some (.lst (acc.map V.int))) ⟨fun b o e => ?_, ?_, [], rfl, upd_same⟩ (fun i H1 _ h => SqL.of h.2.1) ?_ ?_
    · rw [upd_ne (ne_of_none (s0 b o e) nD)]
      exact s0 b o e
    · rw [upd_ne npD, upd_same]
    · rintro i y H1 hi ⟨s1, h1, acc, ha, hD⟩
      obtain ⟨n, rfl⟩ := hint y (List.mem_of_getElem? hi)
      have hil : i < xs.length := (List.getElem?_eq_some_iff.mp hi).1
      refine ⟨rfl, ?_⟩
      refine ⟨_, rfl, n, rfl, _, hD, ?_, fun b o e => ?_, ?_, acc ++ [if n < 0 then -n else n], ?_, ?_⟩
      · rw [List.length_map]
        exact small1000 (by omega)
      · rw [upd_ne (ne_of_none e nD0)]
        exact s1 b o e
      · rw [upd_ne npD]
        exact h1
      · rw [List.length_append, ha]
        rfl
      · rw [upd_same, List.map_append]
        rfl
    · rintro H1 ⟨s1, h1, acc, ha, hD⟩
      refine ⟨_, .inl ⟨_, SqL.of hD, rfl⟩, ?_⟩
      cases acc with
      | nil =>
        refine iteF ?_
        refine ⟨by show 1 ≤ sizeLine; decide, fun q hq => ?_⟩
        have s2 : Same H (upd H1 q (.lst [V.int 7])) := fun b o e => by
          rw [upd_ne (ne_of_none (s1 b o e) hq)]
          exact s1 b o e
        exact ⟨by show 3 ≤ sizeLine; decide, dr _ q [7] s2 (s1.free hq) upd_same (by decide) (by decide)⟩
      | cons m r =>
        refine iteT ?_
        exact ⟨by show 3 ≤ sizeLine; decide, dr _ D (m :: r) s1 nD0 hD (by simp) (by rw [ha]; exact hcut)⟩
end
end Bm
set_option maxRecDepth 100000
set_option maxHeartbeats 4000000
namespace Bm
open PySem L2
abbrev sIsInt : Stmt := top 6
abbrev sIsPlace : Stmt := top 7
abbrev sIsStretch : Stmt := top 8
abbrev sNeed : Stmt := top 9
/-- a value of the kinds that the laws hand over -/
inductive AnyV (H : Hp) : V → Prop where
  | non : AnyV H .non
  | bl (b : Bool) : AnyV H (.bl b)
  | int (i : Int) : AnyV H (.int i)
  | str (x : Str) : AnyV H (.str x)
  | lst {a : Addr} {xs : List V} (e : H a = some (.lst xs)) : AnyV H (.ref a)
  | tup {a : Addr} {xs : List V} (e : H a = some (.tup xs)) : AnyV H (.ref a)
  | dK {a : Addr} {kvs : List (Key × V)} (e : H a = some (.dK kvs)) : AnyV H (.ref a)
def isI : V → Bool | .int _ => true | _ => false
def isB : V → Bool | .bl _ => true | _ => false
theorem AnyV.mono {H H' : Hp} {v : V} (h : AnyV H v) (k : ∀ a o, v = .ref a → H a = some o → (∀ ps, o ≠ .tbl ps) → H' a = some o) : AnyV H' v := by
  cases h with
  | non => exact .non
  | bl b => exact .bl b
  | int i => exact .int i
  | str x => exact .str x
  | lst e => exact .lst (k _ _ rfl e fun ps z => by cases z)
  | tup e => exact .tup (k _ _ rfl e fun ps z => by cases z)
  | dK e => exact .dK (k _ _ rfl e fun ps z => by cases z)
theorem AnyV.ty {K : PySem.W.Frag} {H : Hp} {v : V} (h : AnyV H v) : ∃ t : String, TyX K H v (.type t) ∧ PySem.W.kitOne K (.type t) (.type "int") = some (isI v || isB v) ∧ PySem.W.kitOne K (.type t) (.type "bool") = some (isB v) := by
  cases h with
  | non => exact ⟨_, .base .non, kit_ty (by decide +kernel), kit_ty (by decide +kernel)⟩
  | bl b => exact ⟨_, .base (.bl b), kit_ty (by show kitB "bool" "int" = some true; decide +kernel), kit_ty (by show kitB "bool" "bool" = some true; decide +kernel)⟩
  | int i => exact ⟨_, .base (.int i), kit_ty (by show kitB "int" "int" = some true; decide +kernel), kit_ty (by show kitB "int" "bool" = some false; decide +kernel)⟩
  | str x => exact ⟨_, .base (.str x), kit_ty (by show kitB "str" "int" = some false; decide +kernel), kit_ty (by show kitB "str" "bool" = some false; decide +kernel)⟩
  | lst e => exact ⟨_, .base (.lst e), kit_ty (by show kitB "list" "int" = some false; decide +kernel), kit_ty (by show kitB "list" "bool" = some false; decide +kernel)⟩
  | tup e => exact ⟨_, .base (.tup e), kit_ty (by show kitB "tuple" "int" = some false; decide +kernel), kit_ty (by show kitB "tuple" "bool" = some false; decide +kernel)⟩
  | dK e => exact ⟨_, .base (.dK e), kit_ty (by show kitB "dict" "int" = some false; decide +kernel), kit_ty (by show kitB "dict" "bool" = some false; decide +kernel)⟩
/-- isinstance(value, int) and not isinstance(value, bool) -/
def spIsInt : Sp := fun vs H Q _ => ∃ v, vs = [v] ∧ AnyV H v ∧ Q (.bl (isI v)) H
def isP : V → Bool | .int i => decide (0 ≤ i) && decide (i < 10000) | _ => false
def spIsPlace : Sp := fun vs H Q _ => ∃ v, vs = [v] ∧ AnyV H v ∧ Q (.bl (isP v)) H
def isS : V → V → Bool | .int b, .int m => decide (0 ≤ b) && decide (b < 10000) && decide (1 ≤ m) && decide (b + m ≤ 10000) | _, _ => false
def spIsStretch : Sp := fun vs H Q _ => ∃ b m, vs = [b, m] ∧ AnyV H b ∧ AnyV H m ∧ Q (.bl (isS b m)) H
def spNeed (CB : Addr) : Sp := fun vs H Q E => ∃ b m, vs = [b, m] ∧ AnyV H b ∧ AnyV H m ∧ (isS b m = true → Q .non H) ∧ (isS b m = false → E (.ref CB) none H)
structure TC (K : PySem.W.Frag) (mg : Str → Option Value) : Prop extends TB mg where
  isinstance_ : mg "isinstance" = none
  bool_ : mg "bool" = none
  PLACES : ∃ t, mg "PLACES" = some (.int 10000 t)
section
variable {P : Program} {w : World} {K : PySem.W.Frag} {mg : Str → Option Value} {base : Heap}
theorem scIsInt : FnScope ["value"] ["value"] (defScope sIsInt) := ⟨rfl, rfl, rfl, by decide +kernel, rfl, by decide +kernel, by decide +kernel⟩
theorem ok_is_integer {f : Addr} {fd : FuncData} (F : Fun K "is_integer" "is_integer" sIsInt f fd) (T : TC K mg) : FnOk P w K mg base CX0 1 f fd ["value"] spIsInt := by
  refine F.ok scIsInt (fun vs H Q E h => ?_) (fun cdv A outer s H vs Q E hr h => ?_)
  · obtain ⟨v, rfl, _⟩ := h
    rfl
  · obtain ⟨v, rfl, hv, k⟩ := h
    obtain ⟨t, ty, h1, h2⟩ := hv.ty (K := K)
    refine ⟨_, pss_one (ps_ret (pe_and (pe_callB call_isi (by rfl) T.isinstance_ PyProof.Rows.boot_isinstance (pa_cons (pv 0) (pa_cons (pe_bltn (v := .ty "int") rfl T.int_ (by decide +kernel) rfl) pa_nil)))
      (pe_one (pe_not (pe_callB call_isi (by rfl) T.isinstance_ PyProof.Rows.boot_isinstance (pa_cons (pv 0) (pa_cons (pe_bltn (v := .ty "bool") rfl T.bool_ (by decide +kernel) rfl) pa_nil))))))), ?_⟩
    refine ⟨_, rfl, _, _, _, _, _, rfl, .ty _, ty, h1, _, rfl, ?_⟩
    refine ite2 (fun c => ?_) (fun c => ?_)
    · refine ⟨_, rfl, _, _, _, _, _, rfl, .ty _, ty, h2, _, rfl, ?_⟩
      have e : (!isB v) = isI v := by cases v <;> simp_all [isI, isB]
      rw [e]
      exact k
    · have e : isI v = false := by
        cases q : isI v with
        | false => rfl
        | true => rw [q] at c; simp at c
      rw [e] at k
      exact k
theorem scIsPlace : FnScope ["value"] ["value"] (defScope sIsPlace) := ⟨rfl, rfl, rfl, by decide +kernel, rfl, by decide +kernel, by decide +kernel⟩
theorem ok_is_place {f fI : Addr} {fd fdI : FuncData} (F : Fun K "is_place" "is_place" sIsPlace f fd) (T : TC K mg) (GI : FnOk P w K mg base CX0 1 fI fdI ["value"] spIsInt) (mI : mg "is_integer" = some (.ref fI)) (kI : PySem.W.keepIn K (.ref fI) = true) (bI : Binds K fdI ["value"] []) : FnOk P w K mg base CX0 2 f fd ["value"] spIsPlace := by
  refine F.ok scIsPlace (fun vs H Q E h => ?_) (fun cdv A outer s H vs Q E hr h => ?_)
  · obtain ⟨v, rfl, _⟩ := h
    rfl
  · obtain ⟨v, rfl, hv, k⟩ := h
    obtain ⟨tp, hP⟩ := T.PLACES
    refine ⟨_, pss_one (ps_ret (pe_and (pe_call GI hr rfl mI kI bI .nil pass0 (pa_cons (pv 0) pa_nil)) (pe_one (pe_chain op_le op_lt pe_int (pv 0) (pe_glob (v := .int 10000) rfl hP ⟨_, rfl⟩))))), ?_⟩
    refine ⟨_, rfl, v, rfl, hv, _, rfl, ?_⟩
    cases hv with
    | int i =>
      refine iteT ?_
      refine ⟨_, rfl, _, _, rfl, rfl, _, rfl, ?_⟩
      refine ite2 (fun c => ?_) (fun c => ?_)
      · refine ⟨_, _, rfl, rfl, ?_⟩
        have c' : 0 ≤ i := of_decide_eq_true c
        simp only [isP, c', decide_true, Bool.true_and] at k
        exact k
      · have c' : ¬ 0 ≤ i := fun z => c (decide_eq_true z)
        simp only [isP, c', decide_false, Bool.false_and] at k
        exact k
    | _ => exact iteF k
theorem scIsStretch : FnScope ["begin", "many"] ["begin", "many"] (defScope sIsStretch) := ⟨rfl, rfl, rfl, by decide +kernel, rfl, by decide +kernel, by decide +kernel⟩
theorem ok_is_stretch {f fI fP : Addr} {fd fdI fdP : FuncData} (F : Fun K "is_stretch" "is_stretch" sIsStretch f fd) (T : TC K mg) (GI : FnOk P w K mg base CX0 1 fI fdI ["value"] spIsInt) (mI : mg "is_integer" = some (.ref fI)) (kI : PySem.W.keepIn K (.ref fI) = true) (bI : Binds K fdI ["value"] [])
    (GP : FnOk P w K mg base CX0 2 fP fdP ["value"] spIsPlace) (mP : mg "is_place" = some (.ref fP)) (kP : PySem.W.keepIn K (.ref fP) = true) (bP : Binds K fdP ["value"] []) : FnOk P w K mg base CX0 3 f fd ["begin", "many"] spIsStretch := by
  refine F.ok scIsStretch (fun vs H Q E h => ?_) (fun cdv A outer s H vs Q E hr h => ?_)
  · obtain ⟨b, m, rfl, _⟩ := h
    rfl
  · obtain ⟨b, m, rfl, hb, hm, k⟩ := h
    obtain ⟨tp, hP⟩ := T.PLACES
    refine ⟨_, pss_one (ps_ret (pe_and (pe_call GP hr rfl mP kP bP .nil pass0 (pa_cons (pv 0) pa_nil)) (pe_and (pe_call GI (hr.mono (by decide)) rfl mI kI bI .nil pass0 (pa_cons (pv 1) pa_nil))
      (pe_and (pe_cmpR op_ge (pv 1) pe_int (nomark _)) (pe_one (pe_cmpR op_le (pe_op op_add (pv 0) (pv 1)) (pe_glob (v := .int 10000) rfl hP ⟨_, rfl⟩) (nomark _))))))), ?_⟩
    refine ⟨_, rfl, b, rfl, hb, _, rfl, ?_⟩
    refine ite2 (fun c1 => ?_) (fun c1 => ?_)
    · refine ⟨_, rfl, m, rfl, hm, _, rfl, ?_⟩
      refine ite2 (fun c2 => ?_) (fun c2 => ?_)
      · obtain ⟨i, rfl⟩ : ∃ i, b = .int i := by cases b <;> simp [isP] at c1 <;> exact ⟨_, rfl⟩
        obtain ⟨j, rfl⟩ : ∃ j, m = .int j := by cases m <;> simp [isI] at c2 <;> exact ⟨_, rfl⟩
        refine ⟨_, rfl, _, _, rfl, rfl, _, rfl, ?_⟩
        have c1' : 0 ≤ i ∧ i < 10000 := by simpa [isP] using c1
        refine ite2 (fun c3 => ?_) (fun c3 => ?_)
        · have c3' : 1 ≤ j := of_decide_eq_true c3
          refine ⟨_, rfl, _, rfl, _, _, rfl, rfl, _, _, rfl, rfl, ?_⟩
          simp only [isS, c1'.1, c1'.2, c3', decide_true, Bool.true_and] at k
          exact k
        · have c3' : ¬ 1 ≤ j := fun z => c3 (decide_eq_true z)
          simp only [isS, c1'.1, c1'.2, c3', decide_true, decide_false, Bool.true_and, Bool.and_false, Bool.false_and] at k
          exact k
      · have e : isS b m = false := by cases b <;> cases m <;> simp_all [isS, isI]
        rw [e] at k
        exact k
    · have e : isS b m = false := by
        cases b <;> cases m <;> first | rfl | skip
        simp only [isS, isP] at c1 ⊢
        simp only [Bool.and_eq_false_iff, decide_eq_false_iff_not]
        simp only [Bool.and_eq_true, decide_eq_true_eq] at c1
        omega
      rw [e] at k
      exact k
end
end Bm
set_option maxRecDepth 100000
set_option maxHeartbeats 4000000
namespace Bm
open PySem L2
abbrev sAInit : Stmt := inClass (top 10) 0
abbrev sABegin : Stmt := inClass (top 10) 1
abbrev sAMany : Stmt := inClass (top 10) 2
abbrev sAEnd : Stmt := inClass (top 10) 3
abbrev sAShift : Stmt := inClass (top 10) 4
abbrev sAEq : Stmt := inClass (top 10) 5
structure BadT (K : PySem.W.Frag) (mg : Str → Option Value) (CB : Addr) : Prop where
  g : mg "BadArea" = some (.ref CB)
  x : PySem.W.excIn K CB [.type "ValueError", .type "Exception", .type "BaseException", .type "object"] "ValueError.__new__" = true
  k : PySem.W.keepIn K (.ref CB) = true
  b : PySem.W.subIn K (.ref CB) (.type "BaseException") = some true
  t : PySem.W.typeIn K (.ref CB) = some (.type "type")
/-- an area's attributes -/
def ArF (b m s : V) : List (Str × V) := [("first_place", b), ("size", m), ("line", s)]
theorem s12 : ¬ (("first_place" : Str) = "size") := by decide +kernel
theorem s13 : ¬ (("first_place" : Str) = "line") := by decide +kernel
theorem s23 : ¬ (("size" : Str) = "line") := by decide +kernel
theorem ArF_put (b m s : V) : putF "line" s (putF "size" m (putF "first_place" b [])) = ArF b m s := by
  simp only [putF, if_neg s12, if_neg s13, if_neg s23, ArF]
theorem ArF_1 (b m s : V) : (ArF b m s).lookup ("first_place" : Str) = some b := by
  rw [← ArF_put, lookup_putF, if_neg s13, lookup_putF, if_neg s12, lookup_putF, if_pos rfl]
theorem ArF_2 (b m s : V) : (ArF b m s).lookup ("size" : Str) = some m := by
  rw [← ArF_put, lookup_putF, if_neg s23, lookup_putF, if_pos rfl]
theorem ArF_3 (b m s : V) : (ArF b m s).lookup ("line" : Str) = some s := by
  rw [← ArF_put, lookup_putF, if_pos rfl]
def okA (b m s : V) : Bool := isS b m && isI s
/-- the class Area -/
structure ArT (K : PySem.W.Frag) (C : Addr) : Prop where
  cl : Cls K C
  n1 : NoAttr K C "first_place"
  n2 : NoAttr K C "size"
  n3 : NoAttr K C "line"
def spAInit (C CB : Addr) : Sp := fun vs H Q E => ∃ (p dx : Addr) (b m s : V), vs = [.ref p, b, m, s] ∧ H p = some (.ins C dx []) ∧ AnyV H b ∧ AnyV H m ∧ AnyV H s ∧
  (okA b m s = true → Q .non (upd H p (.ins C dx (ArF b m s)))) ∧ (okA b m s = false → E (.ref CB) none H)
def spEnd (C : Addr) : Sp := fun vs H Q _ => ∃ (p dx : Addr) (b m : Int) (s : V), vs = [.ref p] ∧ H p = some (.ins C dx (ArF (.int b) (.int m) s)) ∧ Q (.int (b + m)) H
section
variable {P : Program} {w : World} {K : PySem.W.Frag} {mg : Str → Option Value} {base : Heap}
theorem scNeed : FnScope ["begin", "many"] ["begin", "many"] (defScope sNeed) := ⟨rfl, rfl, rfl, by decide +kernel, rfl, by decide +kernel, by decide +kernel⟩
theorem ok_need {f fS CB : Addr} {fd fdS : FuncData} (F : Fun K "need_stretch" "need_stretch" sNeed f fd) (T : BadT K mg CB) (GS : FnOk P w K mg base CX0 3 fS fdS ["begin", "many"] spIsStretch) (mS : mg "is_stretch" = some (.ref fS)) (kS : PySem.W.keepIn K (.ref fS) = true) (bS : Binds K fdS ["begin", "many"] []) :
    FnOk P w K mg base (L2.CX P w) 4 f fd ["begin", "many"] (spNeed CB) := by
  refine F.okX scNeed (fun vs H Q E h => ?_) (fun cdv A outer s H vs Q E hr h => ?_)
  · obtain ⟨b, m, rfl, _⟩ := h
    rfl
  · obtain ⟨b, m, rfl, hb, hm, k1, k2⟩ := h
    refine ⟨_, pss_one (ps_if (pt_not (pt_val (pe_call GS hr rfl mS kS bS .nil pass0 (pa_cons (pv 0) (pa_cons (pv 1) pa_nil)))))
      (pss_one (ps_raise rfl (takes_of rfl rfl rfl rfl) (pmk_own PySem.F.excBase_ValueError T.x T.g T.k (raises_own T.b T.t) (by exact rfl)))) pss_nil), ?_⟩
    refine ⟨_, rfl, _, rfl, b, m, rfl, hb, hm, _, rfl, ?_⟩
    cases e : isS b m with
    | true => exact iteF (k1 e)
    | false => exact iteT (k2 e)
theorem scAInit : FnScope ["self", "begin", "many", "shift"] ["self", "begin", "many", "shift"] (defScope sAInit) := ⟨rfl, rfl, rfl, by decide +kernel, rfl, by decide +kernel, by decide +kernel⟩
theorem ok_area_init {f fN fI CB C : Addr} {dvs : List V} {fd fdN fdI : FuncData} (F : FunD K "__init__" "Area.__init__" (defArgs sAInit) (defBody sAInit) (defScope sAInit) dvs [] f fd) (T : BadT K mg CB) (TA : ArT K C)
    (GN : FnOk P w K mg base (L2.CX P w) 4 fN fdN ["begin", "many"] (spNeed CB)) (mN : mg "need_stretch" = some (.ref fN)) (kN : PySem.W.keepIn K (.ref fN) = true) (bN : Binds K fdN ["begin", "many"] [])
    (GI : FnOk P w K mg base CX0 1 fI fdI ["value"] spIsInt) (mI : mg "is_integer" = some (.ref fI)) (kI : PySem.W.keepIn K (.ref fI) = true) (bI : Binds K fdI ["value"] []) :
    FnOk P w K mg base (L2.CX P w) 5 f fd ["self", "begin", "many", "shift"] (spAInit C CB) := by
  refine F.ok scAInit (fun vs H Q E h => ?_) (fun cdv A outer s H vs Q E hr h => ?_)
  · obtain ⟨p, dx, b, m, s, rfl, _⟩ := h
    rfl
  · obtain ⟨p, dx, b, m, z, rfl, hp, hb, hm, hz, k1, k2⟩ := h
    refine ⟨_, pss_cons (ps_expr (pe_call GN hr rfl mN kN bN .nil (passes_call (takes_of rfl rfl rfl rfl) (fun _ _ _ _ h => h)) (pa_cons (pv 1) (pa_cons (pv 2) pa_nil))))
      (pss_cons (ps_if (pt_not (pt_val (pe_call GI (hr.mono (by decide)) rfl mI kI bI .nil pass0 (pa_cons (pv 3) pa_nil))))
        (pss_one (ps_raise rfl (takes_of rfl rfl rfl rfl) (pmk_own PySem.F.excBase_ValueError T.x T.g T.k (raises_own T.b T.t) (by exact rfl)))) pss_nil)
      (pss_cons (ps_fld (pv 0) (pv 1) rfl) (pss_cons (ps_fld (pv 0) (pv 2) rfl) (pss_one (ps_fld (pv 0) (pv 3) rfl))))), ?_⟩
    refine ⟨_, rfl, _, rfl, b, m, rfl, hb, hm, fun e => ?_, fun e => k2 (by unfold okA; rw [e] <;> rfl)⟩
    refine ⟨_, rfl, z, rfl, hz, _, rfl, ?_⟩
    cases ez : isI z with
    | false => exact iteT (k2 (by unfold okA; rw [ez, Bool.and_false]))
    | true =>
      refine iteF ?_
      refine ⟨_, rfl, _, rfl, p, C, dx, _, rfl, hp, TA.cl, TA.n1, by decide, _, rfl, _, rfl, p, C, dx, _, rfl, upd_same, TA.cl, TA.n2, (by show 1 < 1000; decide), _, rfl, _, rfl, p, C, dx, _, rfl, upd_same, TA.cl, TA.n3, ?_, ?_⟩
      · show _ < 1000
        simp only [putF, if_neg s12]
        exact (by decide : 2 < 1000)
      · have k := k1 (by unfold okA; rw [e, ez] <;> rfl)
        rw [upd_upd, upd_upd, ArF_put]
        exact k
theorem scAEnd : FnScope ["self"] ["self"] (defScope sAEnd) := ⟨rfl, rfl, rfl, by decide +kernel, rfl, by decide +kernel, by decide +kernel⟩
theorem ok_area_end {f C : Addr} {fd : FuncData} (F : Fun K "end" "Area.end" sAEnd f fd) (TA : ArT K C) : FnOk P w K mg base CX0 1 f fd ["self"] (spEnd C) := by
  refine F.ok scAEnd (fun vs H Q E h => ?_) (fun cdv A outer s H vs Q E hr h => ?_)
  · obtain ⟨p, dx, b, m, s, rfl, _⟩ := h
    rfl
  · obtain ⟨p, dx, b, m, s, rfl, hp, k⟩ := h
    refine ⟨_, pss_one (ps_ret (pe_op op_add (pe_fld (pv 0) rfl) (pe_fld (pv 0) rfl))), ?_⟩
    exact ⟨_, rfl, p, C, dx, _, _, rfl, hp, TA.cl, TA.n1, ArF_1 _ _ _, _, rfl, p, C, dx, _, _, rfl, hp, TA.cl, TA.n2, ArF_2 _ _ _, _, _, rfl, rfl, k⟩
end
end Bm
set_option maxRecDepth 100000
set_option maxHeartbeats 4000000
namespace Bm
open PySem L2 L3
abbrev sThing : Stmt := top 16
abbrev sWhole : Stmt := top 17
abbrev sLStretch : Stmt := top 18
abbrev sMade : Stmt := top 19
abbrev sRight : Stmt := top 20
abbrev sStretch : Stmt := top 21
abbrev sLaw : Stmt := top 22
/-- what isinstance asks of the class of an instance -/
structure InT (K : PySem.W.Frag) (C : Addr) : Prop where
  cl : Cls K C
  ha : PySem.W.findIn K (.ref C) "__class__" = some (some (.builtin "object.__class__"))
  hn : PySem.W.specialIn K (.builtin "object.__class__") "__get__" = some (some (.builtin "getset_descriptor.__get__"))
  ht : PySem.W.takesIn K (.builtin "object.__class__") = some true
  hm : PySem.W.mroIn K C (.type "object") = some true
theorem InT.ty {K : PySem.W.Frag} {C : Addr} (T : InT K C) {H : Hp} {a dx : Addr} {fs : List (Str × V)} (e : H a = some (.ins C dx fs)) : TyV K H (.ref a) (.ref C) := .base (.base (.ins e T.cl T.ha T.hn T.ht T.hm))
theorem kit_self {K : PySem.W.Frag} {t : Value} : PySem.W.kitOne K t t = some true := by
  unfold PySem.W.kitOne
  rw [if_pos (by simp)]
def spAEq (C : Addr) : Sp := fun vs H Q _ => ∃ (p dx : Addr) (b m s : Int) (y : V), vs = [.ref p, y] ∧ H p = some (.ins C dx (ArF (.int b) (.int m) (.int s))) ∧
  ((∃ (q dy : Addr) (b' m' s' : Int), y = .ref q ∧ H q = some (.ins C dy (ArF (.int b') (.int m') (.int s'))) ∧ ∀ H', Same H H' → Q (.bl (decide (b = b' ∧ m = m' ∧ s = s'))) H') ∨
   (∃ (q : Addr) (xs : List V), y = .ref q ∧ H q = some (.tup xs) ∧ Q (.bl false) H))
def spPick : Sp := fun vs H Q _ => ∃ (d st l : Addr) (xs : List V), vs = [.ref d, .ref l] ∧ Dr d st H ∧ H l = some (.lst xs) ∧ l ≠ d ∧ l ≠ st ∧ 0 < xs.length ∧ xs.length < 1000000 ∧
  ∀ (v : V) (H' : Hp), v ∈ xs → Dr d st H' → Kp d st H H' → Q v H'
section
variable {P : Program} {w : World} {K : PySem.W.Frag} {mg : Str → Option Value} {base : Heap}
theorem scAEq : FnScope ["self", "other"] ["self", "other"] (defScope sAEq) := ⟨rfl, rfl, rfl, by decide +kernel, rfl, by decide +kernel, by decide +kernel⟩
theorem ok_area_eq {f C : Addr} {fd : FuncData} (F : Fun K "__eq__" "Area.__eq__" sAEq f fd) (T : TC K mg) (TA : ArT K C) (TI : InT K C) (mC : mg "Area" = some (.ref C)) (kt : PySem.W.kitOne K (.type "tuple") (.ref C) = some false) : FnOk P w K mg base CX0 1 f fd ["self", "other"] (spAEq C) := by
  refine F.ok scAEq (fun vs H Q E h => ?_) (fun cdv A outer s H vs Q E hr h => ?_)
  · obtain ⟨p, dx, b, m, s, y, rfl, _⟩ := h
    rfl
  · obtain ⟨p, dx, b, m, z, y, rfl, hp, h⟩ := h
    refine ⟨_, pss_cons (ps_if (pt_not (pt_val (pe_callB call_isV (by rfl) T.isinstance_ PyProof.Rows.boot_isinstance (pa_cons (pv 1) (pa_cons (pe_glob (v := .ref C) rfl mC rfl) pa_nil))))) (pss_one (ps_ret pe_bl)) pss_nil)
      (pss_one (ps_ret (pe_cmpR (op_eqD hr.units) (pe_tup (pa_cons (pe_fld (pv 0) rfl) (pa_cons (pe_fld (pv 0) rfl) (pa_cons (pe_fld (pv 0) rfl) pa_nil)))) (pe_tup (pa_cons (pe_fld (pv 1) rfl) (pa_cons (pe_fld (pv 1) rfl) (pa_cons (pe_fld (pv 1) rfl) pa_nil)))) (nomark _)))), ?_⟩
    rcases h with ⟨q, dy, b', m', z', rfl, hq, k⟩ | ⟨q, xs, rfl, hq, k⟩
    · refine ⟨_, rfl, _, _, _, _, _, rfl, .own C, TI.ty hq, kit_self, _, rfl, iteF ?_⟩
      refine ⟨_, rfl, p, C, dx, _, _, rfl, hp, TA.cl, TA.n1, ArF_1 _ _ _, _, rfl, p, C, dx, _, _, rfl, hp, TA.cl, TA.n2, ArF_2 _ _ _, _, rfl, p, C, dx, _, _, rfl, hp, TA.cl, TA.n3, ArF_3 _ _ _, by show 3 ≤ sizeLine; decide, fun t1 n1 => ?_⟩
      have hq1 : ∀ o, upd H t1 o q = H q := fun o => upd_ne (ne_of_none hq n1)
      refine ⟨_, rfl, q, C, dy, _, _, rfl, by rw [hq1]; exact hq, TA.cl, TA.n1, ArF_1 _ _ _, _, rfl, q, C, dy, _, _, rfl, by rw [hq1]; exact hq, TA.cl, TA.n2, ArF_2 _ _ _, _, rfl, q, C, dy, _, _, rfl, by rw [hq1]; exact hq, TA.cl, TA.n3, ArF_3 _ _ _, by show 3 ≤ sizeLine; decide, fun t2 n2 => ?_⟩
      have n21 : t1 ≠ t2 := fun e => by rw [← e, upd_same] at n2; cases n2
      refine ⟨.tuple [.int b, .int m, .int z], .tuple [.int b', .int m', .int z'], .tup (SqT.of (by rw [upd_ne n21, upd_same])) (.cons (.int b) (.cons (.int m) (.cons (.int z) .nil))), .tup (SqT.of upd_same) (.cons (.int b') (.cons (.int m') (.cons (.int z') .nil))), rfl, rfl, ?_⟩
      have e : PyData.eqv (.tuple [.int b, .int m, .int z]) (.tuple [.int b', .int m', .int z']) = decide (b = b' ∧ m = m' ∧ z = z') := by
        simp only [PyData.eqv, PyData.eqvAll, Bool.and_true]
        by_cases h1 : b = b' <;> by_cases h2 : m = m' <;> by_cases h3 : z = z' <;> simp [h1, h2, h3]
      rw [e]
      refine k _ fun c o ec => ?_
      have ne1 : c ≠ t1 := ne_of_none ec n1
      rw [upd_ne (ne_of_none (show upd H t1 _ c = some o by rw [upd_ne ne1]; exact ec) n2), upd_ne ne1]
      exact ec
    · refine ⟨_, rfl, _, _, _, _, _, rfl, .own C, .base (.base (.tup hq)), kt, _, rfl, iteT ?_⟩
      exact k
theorem scPick : FnScope ["_law_draw_here", "_law_some"] ["_law_draw_here", "_law_some"] (defScope sPick) := ⟨rfl, rfl, rfl, by decide +kernel, rfl, by decide +kernel, by decide +kernel⟩
theorem ok_pick {f fD : Addr} {fd fdD : FuncData} (F : Fun K "_law_pick" "_law_pick" sPick f fd) (T : TB mg) (GD : FnOk P w K mg base CX0 1 fD fdD ["_law_draw_here", "_law_below"] spDraw) (mD : mg "_law_draw" = some (.ref fD)) (kD : PySem.W.keepIn K (.ref fD) = true) (bD : Binds K fdD ["_law_draw_here", "_law_below"] []) :
    FnOk P w K mg base CX0 2 f fd ["_law_draw_here", "_law_some"] spPick := by
  refine F.ok scPick (fun vs H Q E h => ?_) (fun cdv A outer s H vs Q E hr h => ?_)
  · obtain ⟨d, st, l, xs, rfl, _⟩ := h
    rfl
  · obtain ⟨d, st, l, xs, rfl, D, hl, nd, ns, h0, h1, k⟩ := h
    refine ⟨_, pss_one (ps_ret (pe_ix ix_list (pv 1) (pe_call GD hr rfl mD kD bD .nil pass0 (pa_cons (pv 0) (pa_cons (pe_callB call_len_seq (by rfl) T.len_ PySem.boot_len (pa_cons (pv 1) pa_nil)) pa_nil))) (fun _ _ => rfl))), ?_⟩
    refine ⟨_, rfl, _, rfl, _, rfl, _, _, rfl, .inl (SqL.of hl), d, st, _, rfl, D, by omega, by omega, fun r H' r0 r1 D' kp => ?_⟩
    have hl' := kp l _ hl nd ns
    have hr : r.toNat < xs.length := by omega
    have e : atI xs r = some xs[r.toNat] := by
      have := atI_nat (List.getElem?_eq_getElem hr)
      rwa [show ((r.toNat : Nat) : Int) = r by omega] at this
    exact ⟨_, _, _, _, rfl, rfl, SqL.of hl', e, k _ _ (List.getElem_mem hr) D' kp⟩
end
end Bm
set_option maxRecDepth 100000
set_option maxHeartbeats 4000000
namespace Bm
open PySem L2 L3
def spThing : Sp := fun vs H Q _ => ∃ (d st : Addr), vs = [.ref d] ∧ Dr d st H ∧ ∀ (v : V) (H' : Hp), AnyV H' v → (∀ a, v = .ref a → H a = none) → Dr d st H' → Kp d st H H' → Q v H'
theorem sameNew {H : Hp} {p : Addr} {o : HO} (n : H p = none) : Same H (upd H p o) := fun b u e => by
  rw [upd_ne (ne_of_none e n)]
  exact e
theorem Same.kp {d st : Addr} {H H' : Hp} (s : Same H H') : Kp d st H H' := fun b o e _ _ => s b o e
theorem Dr.same {d st : Addr} {H H' : Hp} (D : Dr d st H) (s : Same H H') : Dr d st H' := by
  obtain ⟨ms, sp, mx, hd, hs, h⟩ := D
  exact ⟨ms, sp, mx, s _ _ hd, s _ _ hs, h⟩
theorem Dr.ne {d st p : Addr} {H H' : Hp} (D : Dr d st H) (s : Same H H') (n : H' p = none) : p ≠ d ∧ p ≠ st := by
  obtain ⟨ms, sp, mx, hd, hs, h⟩ := D
  exact ⟨(ne_of_none (s _ _ hd) n).symm, (ne_of_none (s _ _ hs) n).symm⟩
section
variable {P : Program} {w : World} {K : PySem.W.Frag} {mg : Str → Option Value} {base : Heap}
/-- items of a list, new since H -/
def News (H H' : Hp) (xs : List V) : Prop := ∀ v ∈ xs, AnyV H' v ∧ ∀ a, v = .ref a → H a = none
theorem News.mono {H H1 H2 : Hp} {d st : Addr} {xs : List V} (n : News H H1 xs) (D : Dr d st H) (k : Kp d st H1 H2) : News H H2 xs := fun v hv => by
  obtain ⟨h1, h2⟩ := n v hv
  obtain ⟨ms, sp, mx, hd, hs, _⟩ := D
  exact ⟨h1.mono fun a o e ha _ => k a o ha (fun z => by have := h2 a e; rw [z, hd] at this; cases this) (fun z => by have := h2 a e; rw [z, hs] at this; cases this), h2⟩
theorem scThing : FnScope ["_law_draw_here", "_law_some"] ["_law_draw_here"] (defScope sThing) := ⟨rfl, rfl, rfl, by decide +kernel, rfl, by decide +kernel, by decide +kernel⟩
theorem ok_thing {f fD fP : Addr} {fd fdD fdP : FuncData} (F : Fun K "_law_thing" "_law_thing" sThing f fd) (T : TB mg) (GD : FnOk P w K mg base CX0 1 fD fdD ["_law_draw_here", "_law_below"] spDraw) (mD : mg "_law_draw" = some (.ref fD)) (kD : PySem.W.keepIn K (.ref fD) = true) (bD : Binds K fdD ["_law_draw_here", "_law_below"] [])
    (GP : FnOk P w K mg base CX0 2 fP fdP ["_law_draw_here", "_law_some"] spPick) (mP : mg "_law_pick" = some (.ref fP)) (kP : PySem.W.keepIn K (.ref fP) = true) (bP : Binds K fdP ["_law_draw_here", "_law_some"] []) :
    FnOk P w K mg base CX0 3 f fd ["_law_draw_here"] spThing := by
  refine F.ok scThing (fun vs H Q E h => ?_) (fun cdv A outer s H vs Q E hr h => ?_)
  · obtain ⟨d, st, rfl, _⟩ := h
    rfl
  · obtain ⟨d, st, rfl, D, k⟩ := h
    have hr1 := hr.mono (show 1 ≤ 2 by decide)
    refine ⟨_, pss_cons (ps_set (i := 1) scThing.nd rfl (Or.inl rfl) (pe_lst (pa_cons pe_non (pa_cons pe_bl (pa_cons pe_bl (pa_cons pe_str (pa_cons pe_str (pa_cons pe_str (pa_cons (pe_lst pa_nil) (pa_cons (pe_lst (pa_cons pe_int pa_nil)) (pa_cons (pe_tup pa_nil) (pa_cons (pe_tup (pa_cons pe_int (pa_cons pe_int pa_nil)))
        (pa_cons pe_dnewK (pa_cons (pe_disp (pps_cons pe_int pe_int pps_nil) (by rfl) (by rfl) (fun z => by cases z) (by decide)) (pa_cons (pe_un un_neg pe_int) (pa_cons pe_int (pa_cons pe_int (pa_cons pe_int (pa_cons pe_int pa_nil)))))))))))))))))))
      (pss_one (ps_ret (pe_call GP hr rfl mP kP bP .nil pass0 (pa_cons (pv 0) (pa_cons (pe_op op_cat (pv 1) (pe_lst (pa_cons (pe_op op_pow pe_int pe_int) (pa_cons (pe_un un_neg (pe_op op_pow pe_int pe_int))
        (pa_cons (pe_call GD hr1 rfl mD kD bD .nil pass0 (pa_cons (pv 0) (pa_cons pe_int pa_nil))) (pa_cons (pe_call GD hr1 rfl mD kD bD .nil pass0 (pa_cons (pv 0) (pa_cons pe_int pa_nil))) pa_nil)))))) pa_nil))))), ?_⟩
    refine ⟨by decide, fun p1 n1 => ?_⟩
    generalize eH1 : upd H p1 _ = H1
    have s1 : Same H H1 := by rw [← eH1]; exact sameNew n1
    have a1 : H1 p1 = some (HO.lst [] : HO) := by rw [← eH1]; exact upd_same
    clear eH1
    refine ⟨by decide, fun p2 n2 => ?_⟩
    generalize eH2 : upd H1 p2 _ = H2
    have s2 : Same H1 H2 := by rw [← eH2]; exact sameNew n2
    have a2 : H2 p2 = some (HO.lst [V.int 3] : HO) := by rw [← eH2]; exact upd_same
    clear eH2
    refine ⟨by decide, fun t1 m1 => ?_⟩
    generalize eH3 : upd H2 t1 _ = H3
    have s3 : Same H2 H3 := by rw [← eH3]; exact sameNew m1
    have a3 : H3 t1 = some (HO.tup [] : HO) := by rw [← eH3]; exact upd_same
    clear eH3
    refine ⟨by decide, fun t2 m2 => ?_⟩
    generalize eH4 : upd H3 t2 _ = H4
    have s4 : Same H3 H4 := by rw [← eH4]; exact sameNew m2
    have a4 : H4 t2 = some (HO.tup [V.int 0, V.int 1] : HO) := by rw [← eH4]; exact upd_same
    clear eH4
    refine fun d1 k1 => ?_
    generalize eH5 : upd H4 d1 _ = H5
    have s5 : Same H4 H5 := by rw [← eH5]; exact sameNew k1
    have a5 : H5 d1 = some (HO.dK [] : HO) := by rw [← eH5]; exact upd_same
    clear eH5
    refine fun d2 k2 => ⟨upd_same, [(Sum.inl 0, .int 1)], rfl, by decide, ?_⟩
    rw [upd_upd]
    generalize eH6 : upd H5 d2 _ = H6
    have s6 : Same H5 H6 := by rw [← eH6]; exact sameNew k2
    have a6 : H6 d2 = some (HO.dK (mergeK [] [(Sum.inl 0, V.int 1)]) : HO) := by rw [← eH6]; exact upd_same
    clear eH6
    have f2 := s1.free n2
    have f3 := s1.free (s2.free m1)
    have f4 := s1.free (s2.free (s3.free m2))
    have f5 := s1.free (s2.free (s3.free (s4.free k1)))
    have f6 := s1.free (s2.free (s3.free (s4.free (s5.free k2))))
    have S6 := s1.trans (s2.trans (s3.trans (s4.trans (s5.trans s6))))
    refine ⟨_, rfl, by show 17 ≤ sizeLine; decide, fun L nL => ?_⟩
    obtain ⟨nLd, nLs⟩ := D.ne S6 nL
    generalize eH7 : upd H6 L _ = H7
    have s7 : Same H6 H7 := by rw [← eH7]; exact sameNew nL
    have a7 : H7 L = some (HO.lst [V.non, V.bl true, V.bl false, V.str "", V.str "a", V.str "0", V.ref p1, V.ref p2, V.ref t1, V.ref t2, V.ref d1, V.ref d2, V.int (-1), V.int 0, V.int 1, V.int 9999, V.int 10000] : HO) := by rw [← eH7]; exact upd_same
    clear eH7
    have S7 := S6.trans s7
    have N0 : News H H7 [V.non, V.bl true, V.bl false, V.str "", V.str "a", V.str "0", V.ref p1, V.ref p2, V.ref t1, V.ref t2, V.ref d1, V.ref d2, V.int (-1), V.int 0, V.int 1, V.int 9999, V.int 10000] := fun v hv => by
      simp only [List.mem_cons, List.not_mem_nil, or_false] at hv
      rcases hv with rfl | rfl | rfl | rfl | rfl | rfl | rfl | rfl | rfl | rfl | rfl | rfl | rfl | rfl | rfl | rfl | rfl
      · exact ⟨.non, fun a e => by cases e⟩
      · exact ⟨.bl _, fun a e => by cases e⟩
      · exact ⟨.bl _, fun a e => by cases e⟩
      · exact ⟨.str _, fun a e => by cases e⟩
      · exact ⟨.str _, fun a e => by cases e⟩
      · exact ⟨.str _, fun a e => by cases e⟩
      · exact ⟨.lst (s7 _ _ (s6 _ _ (s5 _ _ (s4 _ _ (s3 _ _ (s2 _ _ a1)))))), fun a e => by cases e; exact n1⟩
      · exact ⟨.lst (s7 _ _ (s6 _ _ (s5 _ _ (s4 _ _ (s3 _ _ a2))))), fun a e => by cases e; exact f2⟩
      · exact ⟨.tup (s7 _ _ (s6 _ _ (s5 _ _ (s4 _ _ a3)))), fun a e => by cases e; exact f3⟩
      · exact ⟨.tup (s7 _ _ (s6 _ _ (s5 _ _ a4))), fun a e => by cases e; exact f4⟩
      · exact ⟨.dK (s7 _ _ (s6 _ _ a5)), fun a e => by cases e; exact f5⟩
      · exact ⟨.dK (s7 _ _ a6), fun a e => by cases e; exact f6⟩
      · exact ⟨.int _, fun a e => by cases e⟩
      · exact ⟨.int _, fun a e => by cases e⟩
      · exact ⟨.int _, fun a e => by cases e⟩
      · exact ⟨.int _, fun a e => by cases e⟩
      · exact ⟨.int _, fun a e => by cases e⟩
    have D0 := D.same S7
    have hlen : [V.non, V.bl true, V.bl false, V.str "", V.str "a", V.str "0", V.ref p1, V.ref p2, V.ref t1, V.ref t2, V.ref d1, V.ref d2, V.int (-1), V.int 0, V.int 1, V.int 9999, V.int 10000].length = 17 := rfl
    generalize [V.non, V.bl true, V.bl false, V.str "", V.str "a", V.str "0", V.ref p1, V.ref p2, V.ref t1, V.ref t2, V.ref d1, V.ref d2, V.int (-1), V.int 0, V.int 1, V.int 9999, V.int 10000] = xs at N0 a7 hlen ⊢
    refine ⟨_, rfl, _, rfl, _, _, rfl, rfl, ⟨by decide, by decide, by decide⟩, _, _, rfl, rfl, ⟨by decide, by decide, by decide⟩, _, rfl, _, rfl, d, st, _, rfl, D0, by decide, by decide, fun r1 H8 _ _ D1 K1 => ?_⟩
    refine ⟨_, rfl, d, st, _, rfl, D1, by decide, by decide, fun r2 H9 _ _ D2 K2 => ?_⟩
    refine ⟨by show 4 ≤ sizeLine; decide, fun M nM => ?_⟩
    generalize eH10 : upd H9 M _ = H10
    have sM : Same H9 H10 := by rw [← eH10]; exact sameNew nM
    have aM : H10 M = some (HO.lst [V.int (10 ^ 17), V.int (-(10 ^ 17)), V.int r1, V.int r2] : HO) := by rw [← eH10]; exact upd_same
    clear eH10
    have K02 := K1.trans K2
    refine ⟨L, M, xs, _, rfl, rfl, sM _ _ (K02 _ _ a7 nLd nLs), aM, by rw [hlen]; show 21 ≤ sizeLine; decide, fun R nR => ?_⟩
    obtain ⟨nRd, nRs⟩ := D2.ne sM nR
    generalize eH11 : upd H10 R _ = H11
    have sR : Same H10 H11 := by rw [← eH11]; exact sameNew nR
    have aR : H11 R = some (HO.lst (xs ++ [V.int (10 ^ 17), V.int (-(10 ^ 17)), V.int r1, V.int r2]) : HO) := by rw [← eH11]; exact upd_same
    clear eH11
    have S911 := sM.trans sR
    have K11 : Kp d st H H11 := ((Same.kp S7).trans K02).trans (Same.kp S911)
    refine ⟨d, st, R, _, rfl, D2.same S911, aR, nRd, nRs, by rw [List.length_append, hlen]; show 0 < 21; decide, by rw [List.length_append, hlen]; show 21 < 1000000; decide, fun v H12 hv D3 K3 => ?_⟩
    have N3 := (N0.mono D K02).mono D ((Same.kp (d := d) (st := st) S911).trans K3)
    have all : AnyV H12 v ∧ ∀ a, v = .ref a → H a = none := by
      rcases List.mem_append.mp hv with h | h
      · exact N3 v h
      · simp only [List.mem_cons, List.not_mem_nil, or_false] at h
        rcases h with rfl | rfl | rfl | rfl
        · exact ⟨.int _, fun a e => by cases e⟩
        · exact ⟨.int _, fun a e => by cases e⟩
        · exact ⟨.int _, fun a e => by cases e⟩
        · exact ⟨.int _, fun a e => by cases e⟩
    exact k v H12 all.1 all.2 D3 (K11.trans K3)
end
end Bm
set_option maxRecDepth 100000
set_option maxHeartbeats 4000000
namespace Bm
open PySem L2 L3
def spStretch : Sp := fun vs H Q _ => ∃ (d st : Addr), vs = [.ref d] ∧ Dr d st H ∧ ∀ (b m : Int) (t : Addr) (H' : Hp), isS (.int b) (.int m) = true → H' t = some (.tup [.int b, .int m]) → Dr d st H' → Kp d st H H' → Q (.ref t) H'
section
variable {P : Program} {w : World} {K : PySem.W.Frag} {mg : Str → Option Value} {base : Heap}
theorem scWhole : FnScope ["_law_thing_here"] ["_law_thing_here"] (defScope sWhole) := ⟨rfl, rfl, rfl, by decide +kernel, rfl, by decide +kernel, by decide +kernel⟩
theorem ok_whole {f : Addr} {fd : FuncData} (F : Fun K "_law_is_whole" "_law_is_whole" sWhole f fd) (T : TC K mg) : FnOk P w K mg base CX0 1 f fd ["_law_thing_here"] spIsInt := by
  refine F.ok scWhole (fun vs H Q E h => ?_) (fun cdv A outer s H vs Q E hr h => ?_)
  · obtain ⟨v, rfl, _⟩ := h
    rfl
  · obtain ⟨v, rfl, hv, k⟩ := h
    obtain ⟨t, ty, h1, h2⟩ := hv.ty (K := K)
    refine ⟨_, pss_one (ps_ret (pe_and (pe_callB call_isi (by rfl) T.isinstance_ PyProof.Rows.boot_isinstance (pa_cons (pv 0) (pa_cons (pe_bltn (v := .ty "int") rfl T.int_ (by decide +kernel) rfl) pa_nil)))
      (pe_one (pe_not (pe_callB call_isi (by rfl) T.isinstance_ PyProof.Rows.boot_isinstance (pa_cons (pv 0) (pa_cons (pe_bltn (v := .ty "bool") rfl T.bool_ (by decide +kernel) rfl) pa_nil))))))), ?_⟩
    refine ⟨_, rfl, _, _, _, _, _, rfl, .ty _, ty, h1, _, rfl, ?_⟩
    refine ite2 (fun c => ?_) (fun c => ?_)
    · refine ⟨_, rfl, _, _, _, _, _, rfl, .ty _, ty, h2, _, rfl, ?_⟩
      have e : (!isB v) = isI v := by cases v <;> simp_all [isI, isB]
      rw [e]
      exact k
    · have e : isI v = false := by
        cases q : isI v with
        | false => rfl
        | true => rw [q] at c; simp at c
      rw [e] at k
      exact k
/-- the law's own words of a stretch -/
def spLS : Sp := fun vs H Q _ => ∃ b m, vs = [b, m] ∧ AnyV H b ∧ AnyV H m ∧ Q (.bl (isS b m)) H
theorem scLStretch : FnScope ["_law_first", "_law_size"] ["_law_first", "_law_size"] (defScope sLStretch) := ⟨rfl, rfl, rfl, by decide +kernel, rfl, by decide +kernel, by decide +kernel⟩
theorem isS_ints (b m : Int) : isS (.int b) (.int m) = (decide (0 ≤ b) && (decide (0 < m) && decide (b + m < 10001))) := by
  simp only [isS]
  by_cases h1 : 0 ≤ b <;> by_cases h2 : b < 10000 <;> by_cases h3 : 1 ≤ m <;> by_cases h4 : b + m ≤ 10000 <;> by_cases h5 : 0 < m <;> by_cases h6 : b + m < 10001 <;> simp [h1, h2, h3, h4, h5, h6] <;> omega
theorem ok_lstretch {f fW : Addr} {fd fdW : FuncData} (F : Fun K "_law_is_stretch" "_law_is_stretch" sLStretch f fd) (GW : FnOk P w K mg base CX0 1 fW fdW ["_law_thing_here"] spIsInt) (mW : mg "_law_is_whole" = some (.ref fW)) (kW : PySem.W.keepIn K (.ref fW) = true) (bW : Binds K fdW ["_law_thing_here"] []) :
    FnOk P w K mg base CX0 2 f fd ["_law_first", "_law_size"] spLS := by
  refine F.ok scLStretch (fun vs H Q E h => ?_) (fun cdv A outer s H vs Q E hr h => ?_)
  · obtain ⟨b, m, rfl, _⟩ := h
    rfl
  · obtain ⟨b, m, rfl, hb, hm, k⟩ := h
    refine ⟨_, pss_cons (ps_if (PW.pt (pw_or (pt_not (pt_val (pe_call GW hr rfl mW kW bW .nil pass0 (pa_cons (pv 0) pa_nil)))) (pw_or1 (pt_not (pt_val (pe_call GW hr rfl mW kW bW .nil pass0 (pa_cons (pv 1) pa_nil))))))) (pss_one (ps_ret pe_bl)) pss_nil)
      (pss_one (ps_ret (pe_and (pe_cmpR op_ge (pv 0) pe_int (nomark _)) (pe_and (pe_cmpR op_gt (pv 1) pe_int (nomark _)) (pe_one (pe_cmpR op_lt (pe_op op_add (pv 0) (pv 1)) pe_int (nomark _))))))), ?_⟩
    refine ⟨_, rfl, b, rfl, hb, _, rfl, ?_⟩
    cases e1 : isI b with
    | false =>
      have e : isS b m = false := by cases b <;> cases m <;> simp_all [isS, isI]
      rw [e] at k
      refine iteT (iteT ?_)
      exact k
    | true =>
      refine iteF ?_
      refine ⟨_, rfl, m, rfl, hm, _, rfl, ?_⟩
      cases e2 : isI m with
      | false =>
        have e : isS b m = false := by cases b <;> cases m <;> simp_all [isS, isI]
        rw [e] at k
        exact iteT k
      | true =>
        obtain ⟨i, rfl⟩ : ∃ i, b = .int i := by cases b <;> simp [isI] at e1 <;> exact ⟨_, rfl⟩
        obtain ⟨j, rfl⟩ : ∃ j, m = .int j := by cases m <;> simp [isI] at e2 <;> exact ⟨_, rfl⟩
        rw [isS_ints] at k
        refine iteF ?_
        refine ⟨_, rfl, _, _, rfl, rfl, _, rfl, ?_⟩
        refine ite2 (fun c1 => ?_) (fun c1 => ?_)
        · have c1' : 0 ≤ i := of_decide_eq_true c1
          refine ⟨_, rfl, _, _, rfl, rfl, _, rfl, ?_⟩
          refine ite2 (fun c2 => ?_) (fun c2 => ?_)
          · have c2' : 0 < j := of_decide_eq_true c2
            refine ⟨_, rfl, _, rfl, _, _, rfl, rfl, _, _, rfl, rfl, ?_⟩
            simp only [c1', c2', decide_true, Bool.true_and] at k
            exact k
          · have c2' : ¬ 0 < j := fun z => c2 (decide_eq_true z)
            simp only [c1', c2', decide_true, decide_false, Bool.true_and, Bool.false_and] at k
            exact k
        · have c1' : ¬ 0 ≤ i := fun z => c1 (decide_eq_true z)
          simp only [c1', decide_false, Bool.false_and] at k
          exact k
theorem scStretch : FnScope ["_law_draw_here", "_law_first"] ["_law_draw_here"] (defScope sStretch) := ⟨rfl, rfl, rfl, by decide +kernel, rfl, by decide +kernel, by decide +kernel⟩
theorem ok_stretch {f fD fP : Addr} {fd fdD fdP : FuncData} (F : Fun K "_law_stretch" "_law_stretch" sStretch f fd) (GD : FnOk P w K mg base CX0 1 fD fdD ["_law_draw_here", "_law_below"] spDraw) (mD : mg "_law_draw" = some (.ref fD)) (kD : PySem.W.keepIn K (.ref fD) = true) (bD : Binds K fdD ["_law_draw_here", "_law_below"] [])
    (GP : FnOk P w K mg base CX0 2 fP fdP ["_law_draw_here", "_law_some"] spPick) (mP : mg "_law_pick" = some (.ref fP)) (kP : PySem.W.keepIn K (.ref fP) = true) (bP : Binds K fdP ["_law_draw_here", "_law_some"] []) :
    FnOk P w K mg base CX0 3 f fd ["_law_draw_here"] spStretch := by
  refine F.ok scStretch (fun vs H Q E h => ?_) (fun cdv A outer s H vs Q E hr h => ?_)
  · obtain ⟨d, st, rfl, _⟩ := h
    rfl
  · obtain ⟨d, st, rfl, D, k⟩ := h
    have hr1 := hr.mono (show 1 ≤ 2 by decide)
    refine ⟨_, pss_cons (ps_set (i := 1) scStretch.nd rfl (Or.inl rfl) (pe_call GP hr rfl mP kP bP .nil pass0 (pa_cons (pv 0) (pa_cons (pe_lst (pa_cons pe_int (pa_cons pe_int (pa_cons pe_int (pa_cons (pe_call GD hr1 rfl mD kD bD .nil pass0 (pa_cons (pv 0) (pa_cons pe_int pa_nil))) pa_nil))))) pa_nil))))
      (pss_one (ps_ret (pe_tup (pa_cons (pv 1) (pa_cons (pe_op op_add pe_int (pe_call GP hr rfl mP kP bP .nil pass0 (pa_cons (pv 0) (pa_cons (pe_lst (pa_cons pe_int (pa_cons (pe_op op_sub pe_int (pv 1)) (pa_cons (pe_call GD hr1 rfl mD kD bD .nil pass0 (pa_cons (pv 0) (pa_cons (pe_op op_sub pe_int (pv 1)) pa_nil))) pa_nil)))) pa_nil)))) pa_nil))))), ?_⟩
    refine ⟨_, rfl, _, rfl, d, st, _, rfl, D, by decide, by decide, fun r H1 r0 r1 D1 K1 => ⟨by show 4 ≤ sizeLine; decide, fun L nL => ?_⟩⟩
    obtain ⟨nd, ns⟩ := D1.ne (Same.refl _) nL
    generalize eH2 : upd H1 L _ = H2
    have s2 : Same H1 H2 := by rw [← eH2]; exact sameNew nL
    have a2 : H2 L = some (HO.lst [V.int 0, V.int 9999, V.int 5, V.int r] : HO) := by rw [← eH2]; exact upd_same
    clear eH2
    refine ⟨d, st, L, _, rfl, D1.same s2, a2, nd, ns, by show 0 < 4; decide, by show 4 < 1000000; decide, fun v H3 hv D3 K3 => ?_⟩
    obtain ⟨b, rfl, hb0, hb1⟩ : ∃ b, v = V.int b ∧ 0 ≤ b ∧ b < 10000 := by
      simp only [List.mem_cons, List.not_mem_nil, or_false] at hv
      rcases hv with rfl | rfl | rfl | rfl
      · exact ⟨_, rfl, by decide, by decide⟩
      · exact ⟨_, rfl, by decide, by decide⟩
      · exact ⟨_, rfl, by decide, by decide⟩
      · exact ⟨_, rfl, r0, r1⟩
    refine ⟨_, rfl, _, rfl, _, rfl, _, _, rfl, rfl, _, rfl, _, rfl, _, _, rfl, rfl, d, st, _, rfl, D3, by omega, by omega, fun r' H4 r0' r1' D4 K4 => ⟨by show 3 ≤ sizeLine; decide, fun M nM => ?_⟩⟩
    obtain ⟨md, ms⟩ := D4.ne (Same.refl _) nM
    generalize eH5 : upd H4 M _ = H5
    have s5 : Same H4 H5 := by rw [← eH5]; exact sameNew nM
    have a5 : H5 M = some (HO.lst [V.int 0, V.int (9999 - b), V.int r'] : HO) := by rw [← eH5]; exact upd_same
    clear eH5
    refine ⟨d, st, M, _, rfl, D4.same s5, a5, md, ms, by show 0 < 3; decide, by show 3 < 1000000; decide, fun v H6 hv D6 K6 => ?_⟩
    obtain ⟨m, rfl, hm0, hm1⟩ : ∃ m, v = V.int m ∧ 0 ≤ m ∧ b + (1 + m) ≤ 10000 := by
      simp only [List.mem_cons, List.not_mem_nil, or_false] at hv
      rcases hv with rfl | rfl | rfl
      · exact ⟨_, rfl, by decide, by omega⟩
      · exact ⟨_, rfl, by omega, by omega⟩
      · exact ⟨_, rfl, r0', by omega⟩
    refine ⟨_, _, rfl, rfl, by show 2 ≤ sizeLine; decide, fun t nt => ?_⟩
    generalize eH7 : upd H6 t _ = H7
    have s7 : Same H6 H7 := by rw [← eH7]; exact sameNew nt
    have a7 : H7 t = some (HO.tup [V.int b, V.int (1 + m)] : HO) := by rw [← eH7]; exact upd_same
    clear eH7
    refine k b (1 + m) t H7 ?_ a7 (D6.same s7) (((K1.trans (Same.kp s2)).trans (K3.trans K4)).trans (((Same.kp s5).trans K6).trans (Same.kp s7)))
    rw [isS_ints]
    simp only [Bool.and_eq_true, decide_eq_true_eq]
    omega
end
end Bm
set_option maxRecDepth 100000
set_option maxHeartbeats 4000000
namespace Bm
open PySem L2 L3 LamX
/-- what _law_made makes of a lambda's reading: its value, or the caught error -/
def TTMade (K : PySem.W.Frag) (CM : Addr) : (XK → Hp → VK → Prop) → Hp → VK → Prop := fun tl H Q =>
  ∀ (H1 : Hp) (E' : XK) (Q' : VK), Same H H1 → (∀ v H', Q v H' → Q' v H') → (∀ cls d H', PySem.W.exmOne K cls (.ref CM) = some true → (∀ a, H' a = none → Q (.ref a) (upd H' a (ExV cls d a))) → E' cls d H') → tl E' H1 Q'
theorem scMade : FnScope ["_law_work", "_law_found", "_law_caught", "error"] ["_law_work"] (defScope sMade) := ⟨rfl, rfl, rfl, by decide +kernel, rfl, by decide +kernel, by decide +kernel⟩
theorem made_gives {X : Cx} {g CM : Addr} {cdg : Value} {q : Str} (hm : X.mg "MapError" = some (.ref CM)) : GivesTo X ["_law_work", "_law_found", "_law_caught", "error"] "_law_made" (defScope sMade) g cdg (defBody sMade) "_law_work" q (TTMade X.K CM) := by
  intro f c' s H Q tl act hc h
  refine ⟨_, pss_cons (ps_asg (pe_tup (pa_cons pe_non (pa_cons pe_non pa_nil))) (pg_tup (by rfl) (pgs_cons (pg_name (i := 1) scMade.nd rfl (Or.inl rfl)) (pgs_cons (pg_name (i := 2) scMade.nd rfl (Or.inl rfl)) pgs_nil))))
    (pss_cons (ps_try_trk (c := .ref CM) (i := 3) (ts := fun _ => tAsg (tVar 3) (gName 2))
        (tb := fun W => tAsg (fun σZ HZ Q => σZ[0]? = some (some (.ref f)) ∧ HZ c' = some (CodeO c' q) ∧ ∃ E : XK, (∀ cls d σ' H', E cls d H' → W cls d σ' H') ∧ tl E HZ Q) (gName 1))
        rfl rfl scMade.nd rfl rfl ⟨rfl, by decide, Or.inl hm⟩
        (fun W pn xe tk _ => pss_one (ps_set (i := 1) scMade.nd rfl (Or.inl rfl) ⟨fun pins s1 τ G R I hx => (act W pn xe hx.2.2.choose _ _ tk hx.2.2.choose_spec.1).run pins s1 τ G R I ⟨hx.1, hx.2.1, hx.2.2.choose_spec.2⟩⟩))
        (fun a pn => pss_one (ps_set (i := 2) scMade.nd rfl (Or.inl rfl) (pv 3))))
      (pss_one (ps_ret (pe_ifExp (pt_cmpR op_isN (pv 2) pe_non (nomark _)) (pv 1) (pv 2))))), ?_⟩
  refine ⟨by show 2 ≤ sizeLine; decide, fun t nt => ?_⟩
  generalize eH1 : upd H t _ = H1
  have s1 : Same H H1 := by rw [← eH1]; exact sameNew nt
  have a1 : H1 t = some (HO.tup [V.non, V.non] : HO) := by rw [← eH1]; exact upd_same
  clear eH1
  refine ⟨t, _, rfl, SqT.of a1, rfl, _, _, rfl, _, _, rfl, rfl, ?_⟩
  refine ⟨rfl, s1 _ _ hc, (fun cls d H' => PySem.W.exmOne X.K cls (.ref CM) = some true ∧ ∀ a, H' a = none → Q (.ref a) (upd H' a (ExV cls d a))), fun cls d σ' H' hE hl => ⟨hE.1, fun a na => ?_⟩, ?_⟩
  · match σ', hl with
    | [v0, v1, v2, v3], _ =>
      refine ⟨_, rfl, _, rfl, rfl, _, rfl, iteF ?_⟩
      exact ⟨_, rfl, hE.2 a na⟩
  · refine h H1 _ _ s1 (fun v H' hv => ?_) (fun cls d H' h1 h2 => ⟨h1, h2⟩)
    refine ⟨_, rfl, rfl, _, rfl, iteT ?_⟩
    exact ⟨_, rfl, hv⟩
end Bm
set_option maxRecDepth 100000
set_option maxHeartbeats 4000000
namespace Bm
open PySem L2 L3 LamX
/-- what is made: the area, or the error -/
def MadeV (C CB : Addr) (b m z v : V) (H : Hp) : Prop := (okA b m z = true ∧ ∃ p dx, v = .ref p ∧ H p = some (.ins C dx (ArF b m z))) ∨ (okA b m z = false ∧ ∃ a, v = .ref a ∧ H a = some (ExV (.ref CB) none a))
theorem MadeV.ext {C CB : Addr} {b m z v : V} {H H' : Hp} (h : MadeV C CB b m z v H) (e : ExtN H H') : MadeV C CB b m z v H' := by
  rcases h with ⟨h1, p, dx, h2, h3⟩ | ⟨h1, a, h2, h3⟩
  · exact .inl ⟨h1, p, dx, h2, e _ _ h3 (fun ps z => by cases z)⟩
  · exact .inr ⟨h1, a, h2, e _ _ h3 (fun ps z => by unfold ExV at z; cases z)⟩
theorem AnyV.ext {H H' : Hp} {v : V} (h : AnyV H v) (e : ExtN H H') : AnyV H' v := h.mono fun a o _ ha hn => e a o ha hn
theorem AnyV.same {H H' : Hp} {v : V} (h : AnyV H v) (e : Same H H') : AnyV H' v := h.mono fun a o _ ha _ => e a o ha
/-- the making itself, from the heap H -/
theorem make_area {C CB CM : Addr} {K : PySem.W.Frag} {b m z : V} {H H2 : Hp} {Q Q' : VK} {E' : XK} (hb : AnyV H b) (hm : AnyV H m) (hz : AnyV H z) (hx : PySem.W.exmOne K (.ref CB) (.ref CM) = some true) (s2 : Same H H2)
    (hQ : ∀ v H', Q v H' → Q' v H') (hE : ∀ cls d H', PySem.W.exmOne K cls (.ref CM) = some true → (∀ a, H' a = none → Q (.ref a) (upd H' a (ExV cls d a))) → E' cls d H')
    (h : ∀ v H', MadeV C CB b m z v H' → Same H H' → Q v H') :
    ∀ x dx, H2 x = none → H2 dx = none → dx ≠ x → spAInit C CB [.ref x, b, m, z] (upd (upd H2 dx (.own x)) x (.ins C dx [])) (fun v H3 => v = .non ∧ Q' (.ref x) H3) E' := by
  intro x dx nx ndx ne
  have nx1 : upd H2 dx (.own x) x = none := by rw [upd_ne (Ne.symm ne)]; exact nx
  have s3 : Same H (upd (upd H2 dx (.own x)) x (.ins C dx [])) := fun c o e => by
    have e2 := s2 c o e
    rw [upd_ne (ne_of_none e2 nx), upd_ne (ne_of_none e2 ndx)]
    exact e2
  refine ⟨x, dx, b, m, z, rfl, upd_same, hb.same s3, hm.same s3, hz.same s3, fun e => ⟨rfl, hQ _ _ (h _ _ (.inl ⟨e, x, dx, rfl, upd_same⟩) fun c o ec => ?_)⟩, fun e => hE _ _ _ hx fun a na => h _ _ (.inr ⟨e, a, rfl, upd_same⟩) fun c o ec => ?_⟩
  · rw [upd_upd, upd_ne (ne_of_none (s2 c o ec) nx), upd_ne (ne_of_none (s2 c o ec) ndx)]
    exact s2 c o ec
  · rw [upd_ne (ne_of_none (s3 c o ec) na)]
    exact s3 c o ec
/-- _law_made(lambda: Area(first, size, line)) -/
theorem lam_pos {C CB CM : Addr} {K : PySem.W.Frag} {T : List (Addr × Str)} {b m z : V} {r : List (Option V)} {H : Hp} {Q : VK} (hb : AnyV H b) (hm : AnyV H m) (hz : AnyV H z) (hx : PySem.W.exmOne K (.ref CB) (.ref CM) = some true) (hT : Tabs T H)
    (h : ∀ v H', MadeV C CB b m z v H' → ExtN H H' → Tabs T H' → Q v H') :
    tLam T (TTMade K CM) (fun E => tMake C (spAInit C CB) [] E (tCons (tVar 0) (tCons (tVar 1) (tCons (tVar 2) tNil)))) (some b :: some m :: some z :: r) H Q := by
  refine ⟨hT, fun H1 eN T1 H2 E' Q' s2 hQ hE => ⟨b, rfl, m, rfl, z, rfl, ?_⟩⟩
  exact make_area (hb.ext eN) (hm.ext eN) (hz.ext eN) hx s2 hQ hE fun v H' hv s3 => h v H' hv (eN.trans (ExtN.of s3)) (T1.ext s3)
/-- _law_made(lambda: Area(shift=line, many=size, begin=first)) -/
theorem lam_kw {C CB CM : Addr} {K : PySem.W.Frag} {T : List (Addr × Str)} {b m z : V} {r : List (Option V)} {H : Hp} {Q : VK} (hb : AnyV H b) (hm : AnyV H m) (hz : AnyV H z) (hx : PySem.W.exmOne K (.ref CB) (.ref CM) = some true) (hT : Tabs T H) {gV : List V → List V → List V}
    (hg : ∀ x, gV [.ref x] [z, m, b] = [.ref x, b, m, z])
    (h : ∀ v H', MadeV C CB b m z v H' → ExtN H H' → Tabs T H' → Q v H') :
    tLam T (TTMade K CM) (fun E => tMakeK C 0 3 (spAInit C CB) gV E tNil (tCons (tVar 2) (tCons (tVar 1) (tCons (tVar 0) tNil)))) (some b :: some m :: some z :: r) H Q := by
  refine ⟨hT, fun H1 eN T1 H2 E' Q' s2 hQ hE => ⟨z, rfl, m, rfl, b, rfl, rfl, rfl, fun x dx nx ndx ne => ?_⟩⟩
  rw [hg]
  exact make_area (hb.ext eN) (hm.ext eN) (hz.ext eN) hx s2 hQ hE (fun v H' hv s3 => h v H' hv (eN.trans (ExtN.of s3)) (T1.ext s3)) x dx nx ndx ne
end Bm
set_option maxRecDepth 100000
set_option maxHeartbeats 1000000
namespace Bm
open PySem L2 L3 LamX
/-- a def of the module, with its promise -/
def Has (P : Program) (w : World) (K : PySem.W.Frag) (mg : Str → Option Value) (base : Heap) (CX : CXT) (k : Nat) (x : Str) (ps : List Str) (sp : Sp) : Prop :=
  ∃ f fd, FnOk P w K mg base CX k f fd ps sp ∧ mg x = some (.ref f) ∧ PySem.W.keepIn K (.ref f) = true ∧ Binds K fd ps []
/-- a property of the class, with its promise -/
def HasP (P : Program) (w : World) (K : PySem.W.Frag) (mg : Str → Option Value) (base : Heap) (k : Nat) (C : Addr) (x : Str) (sp : Sp) : Prop :=
  ∃ p g fd, PropOf K C x p g ∧ FnOk P w K mg base CX0 k g fd ["self"] sp ∧ Binds K fd ["self"] []
/-- the class Area, its methods -/
structure ArM (P : Program) (w : World) (K : PySem.W.Frag) (mg : Str → Option Value) (base : Heap) (C CB : Addr) : Prop where
  ar : ArT K C
  it : InT K C
  mg_ : mg "Area" = some (.ref C)
  make : ∃ fI fdI g gV, Mk K C fI ∧ FnOk P w K mg base (L2.CX P w) 5 fI fdI ["self", "begin", "many", "shift"] (spAInit C CB) ∧ Binds K fdI ["self", "begin", "many", "shift"] [] ∧ KBn K fdI ["self", "begin", "many", "shift"] 1 ["shift", "many", "begin"] g gV ∧ (∀ x a b c, gV [x] [a, b, c] = [x, c, b, a]) ∧
    ∃ ds, Vals [V.int 0] ds ∧ Binds K fdI ["self", "begin", "many", "shift"] ds
  begin_ : HasP P w K mg base 1 C "begin" (getSp C "first_place")
  many_ : HasP P w K mg base 1 C "many" (getSp C "size")
  end_ : HasP P w K mg base 1 C "end" (spEnd C)
  shift_ : HasP P w K mg base 1 C "shift" (getSp C "line")
  eq_ : ∃ f fd, FnOk P w K mg base CX0 1 f fd ["self", "other"] (spAEq C) ∧ PySem.W.findIn K (.ref C) "__eq__" = some (some (.ref f)) ∧ PySem.W.isFn K (.ref f) = true ∧ Binds K fd ["self", "other"] []
  ne_ : PySem.W.findIn K (.ref C) "__ne__" = some (some (.builtin "object.__ne__"))
  nf1 : PySem.W.notFirst K C (.ref C) = true
  nf2 : PySem.W.notFirst K C (.type "tuple") = true
/-- the errors' classes as they are asked -/
structure ErT (K : PySem.W.Frag) (mg : Str → Option Value) (C CB CM : Addr) : Prop where
  bad : BadT K mg CB
  mM : mg "MapError" = some (.ref CM)
  ve : mg "ValueError" = none
  ex : L2.ExcC K CB
  xm : PySem.W.exmOne K (.ref CB) (.ref CM) = some true
  kVE : PySem.W.kitOne K (.ref CB) (.type "ValueError") = some true
/-- the code of _law_made -/
def MadeAt (K : PySem.W.Frag) (mg : Str → Option Value) : Prop := ∃ (g : Addr) (oc dV kV doc pm cdv ct : Value) (od an : Option Addr) (osl : Array (Option Value)),
  mg "_law_made" = some (.ref g) ∧ PySem.W.keepIn K (.ref g) = true ∧ K.lookup g = some ⟨oc, od, .func (PySem.W.fnOf "_law_made" "_law_made" (defArgs sMade) (defBody sMade) (defScope sMade) dV kV doc pm an cdv ct), osl⟩ ∧ PySem.W.codeIn K cdv "_law_made" = true ∧
  L2.Binds K (PySem.W.fnOf "_law_made" "_law_made" (defArgs sMade) (defBody sMade) (defScope sMade) dV kV doc pm an cdv ct) ["_law_work"] []
/-- the tables of the lambdas of _law_right -/
def TT (Pc : Addr) : List (Addr × Str) := [(Pc, ("_law_right" : Str) ++ ".<locals>." ++ "<lambda>")]
theorem TT_mem {Pc : Addr} : (Pc, ("_law_right" : Str) ++ ".<locals>." ++ "<lambda>") ∈ TT Pc := List.mem_singleton.mpr rfl
theorem TT_only {Pc : Addr} : ∀ p ∈ TT Pc, p.1 = Pc → p.2 = ("_law_right" : Str) ++ ".<locals>." ++ "<lambda>" := fun p hp _ => by rw [List.mem_singleton.mp hp]
def spRight (Pc : Addr) : Sp := fun vs H Q _ => ∃ b m z, vs = [b, m, z] ∧ AnyV H b ∧ AnyV H m ∧ AnyV H z ∧ Tabs (TT Pc) H ∧ ∀ H', ExtN H H' → Tabs (TT Pc) H' → Q (.bl true) H'
/-- all but lists are kept -/
def ExtL (H H' : Hp) : Prop := ∀ b o, H b = some o → (∀ xs, o ≠ .lst xs) → H' b = some o
theorem ExtL.of {H H' : Hp} (s : Same H H') : ExtL H H' := fun b o e _ => s b o e
theorem ExtL.trans {H H1 H2 : Hp} (a : ExtL H H1) (b : ExtL H1 H2) : ExtL H H2 := fun c o e n => b c o (a c o e n) n
theorem ExtL.upd {H : Hp} {L : Addr} {xs ys : List V} (h : H L = some (.lst xs)) : ExtL H (upd H L (.lst ys)) := fun b o e n => by
  rw [upd_ne (fun z => n xs (by rw [z, h] at e; exact (Option.some.inj e).symm))]
  exact e
theorem codeO_nl {c : Addr} {q : Str} (xs : List V) : CodeO c q ≠ .lst xs := fun z => by
  unfold CodeO at z
  cases z
theorem tabs_extL {T : List (Addr × Str)} {H H' : Hp} (t : Tabs T H) (e : ExtL H H') : Tabs T H' := fun p hp => by
  obtain ⟨ps, h1, h2, h3⟩ := t p hp
  refine ⟨ps, e _ _ h1 (fun xs z => by cases z), h2, fun pos cv hc => ?_⟩
  obtain ⟨c, e1, e2⟩ := h3 pos cv hc
  exact ⟨c, e1, e _ _ e2 codeO_nl⟩
theorem MadeV.extL {C CB : Addr} {b m z v : V} {H H' : Hp} (h : MadeV C CB b m z v H) (e : ExtL H H') : MadeV C CB b m z v H' := by
  rcases h with ⟨h1, p, dx, h2, h3⟩ | ⟨h1, a, h2, h3⟩
  · exact .inl ⟨h1, p, dx, h2, e _ _ h3 (fun ps z => by cases z)⟩
  · exact .inr ⟨h1, a, h2, e _ _ h3 (fun ps z => by unfold ExV at z; cases z)⟩
section
variable {P : Program} {w : World} {K : PySem.W.Frag} {mg : Str → Option Value} {base : Heap}
abbrev NR : List Str := ["_law_first", "_law_size", "_law_line", "_law_made_here", "_law_due", "_law_one"]
theorem scRight : FnScope NR ["_law_first", "_law_size", "_law_line"] (defScope sRight) := ⟨rfl, rfl, rfl, by decide +kernel, rfl, by decide +kernel, by decide +kernel⟩
theorem ok_right {f C CB CM c Pc : Addr} {oc kV doc pm ct : Value} {od an : Option Addr} {osl : Array (Option Value)} (lk : K.lookup f = some ⟨oc, od, .func (PySem.W.fnOf "_law_right" "_law_right" (defArgs sRight) (defBody sRight) (defScope sRight) .none kV doc pm an (.ref c) ct), osl⟩) (hcd : PySem.W.codeIn K (.ref c) "_law_right" = true)
    (T : TC K mg) (R : ArM P w K mg base C CB) (Er : ErT K mg C CB CM) (TBc : TabB base mg c Pc) (Md : MadeAt K mg) (HS : Has P w K mg base CX0 2 "_law_is_stretch" ["_law_first", "_law_size"] spLS) (HW : Has P w K mg base CX0 1 "_law_is_whole" ["_law_thing_here"] spIsInt) :
    FnOk P w K mg base CX0 9 f (PySem.W.fnOf "_law_right" "_law_right" (defArgs sRight) (defBody sRight) (defScope sRight) .none kV doc pm an (.ref c) ct) ["_law_first", "_law_size", "_law_line"] (spRight Pc) := by
  refine fn_of lk hcd scRight (fun vs H Q E h => ?_) fun A0 outer s H vs Q E hr h => ?_
  · obtain ⟨b, m, z, rfl, _⟩ := h
    rfl
  · obtain ⟨b, m, z, rfl, hb, hm, hz, hT, k⟩ := h
    obtain ⟨g, oc2, dV2, kV2, doc2, pm2, cd2, ct2, od2, an2, osl2, mMd, kMd, lMd, cMd, bMd⟩ := Md
    obtain ⟨fI, fdI, gA, gVA, MA, GI, bI, kI, hgV, _⟩ := R.make
    obtain ⟨fS, fdS, GS, mS, kS, bS⟩ := HS
    obtain ⟨fW, fdW, GW, mW, kW, bW⟩ := HW
    obtain ⟨p1, g1, d1, P1, G1, B1⟩ := R.begin_
    obtain ⟨p2, g2, d2, P2, G2, B2⟩ := R.many_
    obtain ⟨p3, g3, d3, P3, G3, B3⟩ := R.end_
    obtain ⟨p4, g4, d4, P4, G4, B4⟩ := R.shift_
    obtain ⟨fE, fdE, GE, hE1, hE2, bE⟩ := R.eq_
    have hr1 := hr.mono (show 1 ≤ 8 by decide)
    have hr2 := hr.mono (show 2 ≤ 8 by decide)
    suffices hh : ∃ t, PSs (cxOf CX0 P w K mg base NR "_law_right" (defScope sRight) f (.ref c) A0 outer s H E).nox (defBody sRight) t ∧ t { nx := fun _ H' => Q .non H', rt := Q } (start NR [b, m, z]) H by
      obtain ⟨t, h1, h2⟩ := hh
      exact ⟨t, h1.nox, h2⟩
    refine ⟨_, pss_cons (ps_set (i := 3) scRight.nd rfl (Or.inl rfl) (pe_lst (pa_cons
        (pe_lamcall (T := TT Pc) (TT := TTMade K CM) rfl mMd kMd lMd cMd bMd scMade rfl (Or.inl rfl) (made_gives Er.mM) TBc rfl TT_mem TT_only hr (lamS_by (by show lamSB (defScope sRight) _ = true; decide +kernel)) rfl (fun _ _ _ _ _ => rfl)
          (fun A outer s H E f c' hr' => pe_make MA GI hr' rfl R.mg_ bI .nil (passes_call (takes_of rfl rfl rfl rfl) (fun _ _ _ _ h => h)) (pa_cons (pv 0) (pa_cons (pv 1) (pa_cons (pv 2) pa_nil))))) pa_nil)))
      (pss_cons (ps_expr (pe_bm PySem.F.plainAttrs_list PySem.F.slot_list_append PySem.F.type_list_append mt_append (pv 3) (pa_cons
        (pe_lamcall (T := TT Pc) (TT := TTMade K CM) rfl mMd kMd lMd cMd bMd scMade rfl (Or.inl rfl) (made_gives Er.mM) TBc rfl TT_mem TT_only hr (lamS_by (by show lamSB (defScope sRight) _ = true; decide +kernel)) rfl (fun _ _ _ _ _ => rfl)
          (fun A outer s H E f c' hr' => pe_makeK0 MA GI hr' rfl R.mg_ kI (passes_call (takes_of rfl rfl rfl rfl) (fun _ _ _ _ h => h)) (pk_cons (pv 2) (pk_cons (pv 1) (pk_cons (pv 0) pk_nil))))) pa_nil)))
      (pss_cons (ps_if (PW.pt (pw_or (pt_not (pt_val (pe_call GS hr2 rfl mS kS bS .nil pass0 (pa_cons (pv 0) (pa_cons (pv 1) pa_nil))))) (pw_or1 (pt_not (pt_val (pe_call GW hr1 rfl mW kW bW .nil pass0 (pa_cons (pv 2) pa_nil)))))))
        (pss_one (ps_ret (pe_cmpR (op_eqD hr.units) (pe_lc (own := [("_law_one", 5)]) (g := gName 5) rfl scRight.nd (pi_list (pv 3)) (blkOk_by (own := [("_law_one", 5)]) (N := NR) (sc := defScope sRight) (by decide +kernel))
            (fun _ _ _ _ _ => pg_name (i := 5) scRight.nd rfl (Or.inl rfl))
            (fun _ _ _ _ _ => pts_one (PW.pt (pw_or (pt_not (pt_val (pe_callB (r := rIsV K) call_isV (by rfl) T.isinstance_ PyProof.Rows.boot_isinstance (pa_cons (pv 5) (pa_cons (pe_glob (v := .ref CB) rfl Er.bad.g rfl) pa_nil)))))
              (pw_or1 (pt_not (pt_val (pe_callB (r := rIsV K) call_isV (by rfl) T.isinstance_ PyProof.Rows.boot_isinstance (pa_cons (pv 5) (pa_cons (pe_bltn (v := .ty "ValueError") rfl Er.ve (by decide +kernel) rfl) pa_nil)))))))))
            (fun _ _ _ _ _ => pv 5)) (pe_lst pa_nil) (nomark _)))) pss_nil)
      (pss_cons (ps_set (i := 4) scRight.nd rfl (Or.inl rfl) (pe_lst (pa_cons (pv 0) (pa_cons (pv 1) (pa_cons (pe_op op_add (pv 0) (pv 1)) (pa_cons (pv 2) pa_nil))))))
      (pss_cons (ps_for PassesOwn.never rfl (pi_list (pv 3)) (pg_name (i := 5) scRight.nd rfl (Or.inl rfl))
        (pss_one (ps_if (PW.pt (pw_or (pt_not (pt_val (pe_callB call_isV (by rfl) T.isinstance_ PyProof.Rows.boot_isinstance (pa_cons (pv 5) (pa_cons (pe_glob (v := .ref C) rfl R.mg_ rfl) pa_nil)))))
          (pw_or1 (pt_cmpR (op_neD hr.units) (pe_lst (pa_cons (pe_prop (pv 5) R.ar.cl P1 G1 hr2 B1 .nil pass0 rfl) (pa_cons (pe_prop (pv 5) R.ar.cl P2 G2 hr2 B2 .nil pass0 rfl) (pa_cons (pe_prop (pv 5) R.ar.cl P3 G3 hr2 B3 .nil pass0 rfl) (pa_cons (pe_prop (pv 5) R.ar.cl P4 G4 hr2 B4 .nil pass0 rfl) pa_nil))))) (pv 4) (nomark _)))))
          (pss_one (ps_ret pe_bl)) pss_nil)))
      (pss_one (ps_ret (pe_and (pe_cmpR (op_eqOwn (C := C) (E := E0) GE hE1 hE2 bE pass0 hr1) (pe_ix ix_list (pv 3) pe_int (fun _ _ => rfl)) (pe_ix ix_list (pv 3) pe_int (fun _ _ => rfl)) (nomark _))
        (pe_and (pe_not (pe_cmpR (op_eqOwn (C := C) (E := E0) GE hE1 hE2 bE pass0 hr1) (pe_ix ix_list (pv 3) pe_int (fun _ _ => rfl)) (pe_tup (pa_cons (pv 0) (pa_cons (pv 1) (pa_cons (pv 2) pa_nil)))) (nomark _)))
          (pe_one (pe_not (pe_cmpR (op_neOwn (C := C) (E := E0) GE hE1 hE2 R.ne_ R.it.hm bE pass0 hr2) (pe_ix ix_list (pv 3) pe_int (fun _ _ => rfl)) (pe_ix ix_list (pv 3) pe_int (fun _ _ => rfl)) (nomark _)))))))))))), ?_⟩
    -- made = [_law_made(lambda: Area(..))]
    refine lam_pos hb hm hz Er.xm hT fun v1 H1 M1 e1 T1 => ⟨by show 1 ≤ sizeLine; decide, fun L nL => ?_⟩
    generalize eH2 : upd H1 L _ = H2
    have s2 : Same H1 H2 := by rw [← eH2]; exact sameNew nL
    have a2 : H2 L = some (HO.lst [v1] : HO) := by rw [← eH2]; exact upd_same
    clear eH2
    have e2 : ExtN H H2 := e1.trans (ExtN.of s2)
    have nLo : ∀ x o, H x = some o → (∀ ps, o ≠ .tbl ps) → x ≠ L := fun x o e n => ne_of_none (e1 x o e n) nL
    -- made.append(..)
    refine ⟨_, rfl, .inl ⟨rfl, _, SqL.of a2⟩, lam_kw (hb.ext e2) (hm.ext e2) (hz.ext e2) Er.xm (T1.ext s2) (fun x => hgV _ _ _ _) fun v2 H3 M2 e3 T3 => ?_⟩
    have a3 : H3 L = some (.lst [v1]) := e3 _ _ a2 (fun ps z => by cases z)
    refine ⟨L, _, _, rfl, rfl, a3, by show 1 < sizeLine; decide, ?_⟩
    have x4 : ExtL H3 (upd H3 L (.lst ([v1] ++ [v2]))) := ExtL.upd a3
    have e4 : ExtN H (upd H3 L (.lst ([v1] ++ [v2]))) := fun x o e n => by
      rw [upd_ne (nLo x o e n)]
      exact e3 _ _ (e2 _ _ e n) n
    have a4 : (upd H3 L (.lst ([v1] ++ [v2]))) L = some (.lst [v1, v2]) := upd_same
    have M1' := (M1.ext ((ExtN.of s2).trans e3)).extL x4
    have M2' := M2.extL x4
    have T4 := tabs_extL T3 x4
    generalize upd H3 L (.lst ([v1] ++ [v2])) = H4 at x4 e4 a4 M1' M2' T4 ⊢
    -- if not stretch(..) or not whole(line)
    have hb4 := hb.ext e4
    have hm4 := hm.ext e4
    have hz4 := hz.ext e4
    have bad : okA b m z = false → (tRet (tOp (rEqD K) (tLc (iList K (tVar 3)) (gName 5) (tOr (tNot (tB (tCB (rIsV K) (tCons (tVar 5) (tCons (tC (V.ref CB)) tNil))))) (tNot (tB (tCB (rIsV K) (tCons (tVar 5) (tCons (tC (V.ty "ValueError")) tNil)))))) (tVar 5) (List.map (fun x => x.snd) [(("_law_one" : Str), 5)])) (tLst tNil)))
        { nx := fun _ H' => Q .non H', rt := Q } [some b, some m, some z, some (.ref L), none, none] H4 := fun eo => by
      rcases M1' with ⟨h, _⟩ | ⟨_, q1, rfl, hq1⟩
      · rw [eo] at h; cases h
      rcases M2' with ⟨h, _⟩ | ⟨_, q2, rfl, hq2⟩
      · rw [eo] at h; cases h
      refine ⟨_, rfl, L, rfl, ⟨_, SqL.of a4⟩, fun D nD => ?_⟩
      have nLD : L ≠ D := ne_of_none a4 nD
      refine lc_list (K := K) (a := L) (xs := [V.ref q1, V.ref q2]) (fun i H' => Same H4 H' ∧ H' D = some (.lst [])) ⟨sameNew nD, upd_same⟩ (fun i H' _ h => SqL.of (h.1 _ _ a4)) ?_ ?_
      · rintro i y H' hi ⟨s', hD⟩
        obtain ⟨q, rfl, hq⟩ : ∃ q, y = .ref q ∧ H4 q = some (ExV (.ref CB) none q) := by
          match i, hi with
          | 0, hi => cases hi; exact ⟨q1, rfl, hq1⟩
          | 1, hi => cases hi; exact ⟨q2, rfl, hq2⟩
        refine ⟨rfl, ?_⟩
        refine ⟨_, rfl, _, _, _, _, _, rfl, .own CB, .exc (s' _ _ hq) Er.ex, kit_self, _, rfl, iteF ?_⟩
        refine ⟨_, rfl, _, _, _, _, _, rfl, .ty _, .exc (s' _ _ hq) Er.ex, Er.kVE, _, rfl, iteF ?_⟩
        exact ⟨s', hD⟩
      · rintro H' ⟨s', hD⟩
        refine ⟨by decide, fun q nq => ?_⟩
        have sq := sameNew (o := HO.lst []) nq
        refine ⟨.list [], .list [], .lst (SqL.of (sq _ _ hD)) .nil, .lst (SqL.of upd_same) .nil, rfl, rfl, ?_⟩
        rw [show PyData.eqv (.list []) (.list []) = true from by simp [PyData.eqv, PyData.eqvAll]]
        exact k _ (e4.trans (ExtN.of (s'.trans sq))) (T4.ext (s'.trans sq))
    refine ⟨_, rfl, _, rfl, b, m, rfl, hb4, hm4, _, rfl, ?_⟩
    cases es : isS b m with
    | false => exact iteT (iteT (bad (by unfold okA; rw [es] <;> rfl)))
    | true =>
      refine iteF ?_
      refine ⟨_, rfl, z, rfl, hz4, _, rfl, ?_⟩
      cases ez : isI z with
      | false => exact iteT (bad (by unfold okA; rw [ez, Bool.and_false]))
      | true =>
        refine iteF ?_
        have eo : okA b m z = true := by unfold okA; rw [es, ez] <;> rfl
        obtain ⟨i, j, rfl, rfl⟩ : ∃ i j, b = .int i ∧ m = .int j := by
          cases b <;> cases m <;> simp [isS] at es <;> exact ⟨_, _, rfl, rfl⟩
        obtain ⟨l, rfl⟩ : ∃ l, z = .int l := by cases z <;> simp [isI] at ez <;> exact ⟨_, rfl⟩
        rcases M1' with ⟨_, q1, dx1, rfl, hq1⟩ | ⟨h, _⟩
        case inr => rw [eo] at h; cases h
        rcases M2' with ⟨_, q2, dx2, rfl, hq2⟩ | ⟨h, _⟩
        case inr => rw [eo] at h; cases h
        -- due = [..]
        refine ⟨_, rfl, _, rfl, _, rfl, _, rfl, _, _, rfl, rfl, _, rfl, by show 4 ≤ sizeLine; decide, fun D nD => ?_⟩
        generalize eH5 : upd H4 D _ = H5
        have s5 : Same H4 H5 := by rw [← eH5]; exact sameNew nD
        have a5 : H5 D = some (HO.lst [V.int i, V.int j, V.int (i + j), V.int l] : HO) := by rw [← eH5]; exact upd_same
        clear eH5
        refine ⟨_, rfl, L, rfl, ⟨_, SqL.of (s5 _ _ a4)⟩, for_list (K := K) (a := L) (xs := [V.ref q1, V.ref q2]) (fun n σ H' => ∃ v : Option V, σ = [some (.int i), some (.int j), some (.int l), some (.ref L), some (.ref D), v] ∧ Same H5 H')
          ⟨none, rfl, Same.refl _⟩ (fun n σ H' _ ⟨_, _, s'⟩ => SqL.of (s' _ _ (s5 _ _ a4))) ?_ ?_⟩
        · rintro n y σ H' hi ⟨v, rfl, s'⟩
          obtain ⟨q, dx, rfl, hq⟩ : ∃ q dx, y = .ref q ∧ H' q = some (.ins C dx (ArF (.int i) (.int j) (.int l))) := by
            match n, hi with
            | 0, hi => cases hi; exact ⟨q1, dx1, rfl, s' _ _ (s5 _ _ hq1)⟩
            | 1, hi => cases hi; exact ⟨q2, dx2, rfl, s' _ _ (s5 _ _ hq2)⟩
          refine ⟨_, rfl, _, _, _, _, _, rfl, .own C, R.it.ty hq, kit_self, _, rfl, iteF ?_⟩
          refine ⟨_, rfl, q, dx, _, rfl, hq, ⟨q, dx, _, _, rfl, hq, ArF_1 _ _ _, ?_⟩⟩
          refine ⟨_, rfl, q, dx, _, rfl, hq, ⟨q, dx, _, _, rfl, hq, ArF_2 _ _ _, ?_⟩⟩
          refine ⟨_, rfl, q, dx, _, rfl, hq, ⟨q, dx, _, _, _, rfl, hq, ?_⟩⟩
          refine ⟨_, rfl, q, dx, _, rfl, hq, ⟨q, dx, _, _, rfl, hq, ArF_3 _ _ _, ?_⟩⟩
          refine ⟨by show 4 ≤ sizeLine; decide, fun G nG => ?_⟩
          have sG := sameNew (o := HO.lst [V.int i, V.int j, V.int (i + j), V.int l]) nG
          refine ⟨_, rfl, .list [.int i, .int j, .int (i + j), .int l], .list [.int i, .int j, .int (i + j), .int l], .lst (SqL.of upd_same) (.cons (.int _) (.cons (.int _) (.cons (.int _) (.cons (.int _) .nil)))), .lst (SqL.of (sG _ _ (s' _ _ a5))) (.cons (.int _) (.cons (.int _) (.cons (.int _) (.cons (.int _) .nil)))), rfl, rfl, _, rfl, ?_⟩
          rw [show PyData.eqv (.list [.int i, .int j, .int (i + j), .int l]) (.list [.int i, .int j, .int (i + j), .int l]) = true from by simp [PyData.eqv, PyData.eqvAll]]
          exact iteF ⟨_, rfl, s'.trans sG⟩
        · rintro σ H' ⟨v, rfl, s'⟩
          have hL := s' _ _ (s5 _ _ a4)
          have h1 := s' _ _ (s5 _ _ hq1)
          have h2 := s' _ _ (s5 _ _ hq2)
          have fin : ∀ H6, Same H' H6 → Q (.bl true) H6 := fun H6 s6 => k _ (e4.trans (ExtN.of (s5.trans (s'.trans s6)))) (T4.ext (s5.trans (s'.trans s6)))
          refine ⟨_, rfl, _, _, _, _, rfl, rfl, SqL.of hL, rfl, _, rfl, _, _, _, _, rfl, rfl, SqL.of hL, rfl, ?_⟩
          refine ⟨q1, dx1, _, _, rfl, h1, R.it.ty h2, R.nf1, ⟨q1, dx1, _, _, _, _, rfl, h1, .inl ⟨q2, dx2, _, _, _, rfl, h2, fun H6 s6 => ⟨_, rfl, _, rfl, ?_⟩⟩⟩⟩
          rw [show decide (i = i ∧ j = j ∧ l = l) = true from by simp]
          refine iteT ?_
          refine ⟨_, rfl, _, _, _, _, rfl, rfl, SqL.of (s6 _ _ hL), rfl, _, rfl, _, rfl, _, rfl, by show 3 ≤ sizeLine; decide, fun t nt => ?_⟩
          generalize eH7 : upd H6 t _ = H7
          have s7 : Same H6 H7 := by rw [← eH7]; exact sameNew nt
          have a7 : H7 t = some (HO.tup [V.int i, V.int j, V.int l] : HO) := by rw [← eH7]; exact upd_same
          clear eH7
          have s67 := s6.trans s7
          refine ⟨q1, dx1, _, _, rfl, s67 _ _ h1, .base (.base (.tup a7)), R.nf2, ⟨q1, dx1, _, _, _, _, rfl, s67 _ _ h1, .inr ⟨t, _, rfl, a7, ⟨_, rfl, _, rfl, _, rfl, iteT ?_⟩⟩⟩⟩
          refine ⟨_, rfl, _, _, _, _, rfl, rfl, SqL.of (s67 _ _ hL), rfl, _, rfl, _, _, _, _, rfl, rfl, SqL.of (s67 _ _ hL), rfl, ?_⟩
          refine ⟨q1, dx1, _, _, rfl, s67 _ _ h1, R.it.ty (s67 _ _ h2), R.nf1, ⟨q1, dx1, _, _, _, _, rfl, s67 _ _ h1, .inl ⟨q2, dx2, _, _, _, rfl, s67 _ _ h2, fun H8 s8 => ⟨_, rfl, _, rfl, ?_⟩⟩⟩⟩
          rw [show decide (i = i ∧ j = j ∧ l = l) = true from by simp]
          exact fin H8 (s67.trans s8)
end
end Bm
set_option maxRecDepth 100000
set_option maxHeartbeats 2000000
namespace Bm
open PySem L2 L3 LamX
def spLaw (K : PySem.W.Frag) (Pc : Addr) : Sp := fun vs H Q _ => ∃ (a : Addr) (ns : List Int), vs = [.ref a] ∧ SqL K H a (ns.map V.int) ∧ ns.length ≤ 63 ∧ Tabs (TT Pc) H ∧ ∀ H', Q (.bl true) H'
theorem ExtL.kp {d st : Addr} {H H' : Hp} (D : Dr d st H) (k : Kp d st H H') : ExtL H H' := fun b o e n => by
  obtain ⟨ms, sp, mx, hd, hs, _⟩ := D
  refine k b o e (fun z => ?_) (fun z => ?_)
  · rw [z, hd] at e
    exact n _ (Option.some.inj e).symm
  · rw [z, hs] at e
    exact n _ (Option.some.inj e).symm
theorem Dr.extN {d st : Addr} {H H' : Hp} (D : Dr d st H) (e : ExtN H H') : Dr d st H' := by
  obtain ⟨ms, sp, mx, hd, hs, h⟩ := D
  exact ⟨ms, sp, mx, e _ _ hd (fun ps z => by cases z), e _ _ hs (fun ps z => by cases z), h⟩
/-- an area is made -/
theorem mk_one {C CB : Addr} {b m z : V} {H : Hp} {R : VK} {E : XK} {x dx : Addr} (nx : H x = none) (ndx : H dx = none) (ne : dx ≠ x) (hb : AnyV H b) (hm : AnyV H m) (hz : AnyV H z) (eo : okA b m z = true)
    (h : ∀ H', Same H H' → H' x = some (.ins C dx (ArF b m z)) → R .non H') : spAInit C CB [.ref x, b, m, z] (upd (upd H dx (.own x)) x (.ins C dx [])) R E := by
  have s3 : Same H (upd (upd H dx (.own x)) x (.ins C dx [])) := fun c o e => by
    rw [upd_ne (ne_of_none e nx), upd_ne (ne_of_none e ndx)]
    exact e
  refine ⟨x, dx, b, m, z, rfl, upd_same, hb.same s3, hm.same s3, hz.same s3, fun e => h _ (fun c o ec => ?_) upd_same, fun e => by rw [eo] at e; cases e⟩
  rw [upd_upd, upd_ne (ne_of_none ec nx), upd_ne (ne_of_none ec ndx)]
  exact ec
section
variable {P : Program} {w : World} {K : PySem.W.Frag} {mg : Str → Option Value} {base : Heap}
abbrev NL : List Str := ["_law_script", "_law_draw_here", "_law_turn", "_law_first", "_law_size", "_law_line", "_law_bend", "_law_values", "_law_other"]
theorem scLaw : FnScope NL ["_law_script"] (defScope sLaw) := ⟨rfl, rfl, rfl, by decide +kernel, rfl, by decide +kernel, by decide +kernel⟩
theorem ok_law {f C CB CM Pc : Addr} {fd : FuncData} (F : Fun K "law" "law" sLaw f fd)
    (T : TC K mg) (range_ : mg "range" = none) (R : ArM P w K mg base C CB) (HState : Has P w K mg base CX0 1 "_law_state" ["_law_script"] (spState K)) (HDraw : Has P w K mg base CX0 1 "_law_draw" ["_law_draw_here", "_law_below"] spDraw)
    (HPick : Has P w K mg base CX0 2 "_law_pick" ["_law_draw_here", "_law_some"] spPick) (HThing : Has P w K mg base CX0 3 "_law_thing" ["_law_draw_here"] spThing) (HStretch : Has P w K mg base CX0 3 "_law_stretch" ["_law_draw_here"] spStretch)
    (HLS : Has P w K mg base CX0 2 "_law_is_stretch" ["_law_first", "_law_size"] spLS) (HWhole : Has P w K mg base CX0 1 "_law_is_whole" ["_law_thing_here"] spIsInt) (HRight : Has P w K mg base CX0 9 "_law_right" ["_law_first", "_law_size", "_law_line"] (spRight Pc)) :
    FnOk P w K mg base CX0 10 f fd ["_law_script"] (spLaw K Pc) := by
  refine F.ok scLaw (fun vs H Q E h => ?_) (fun cdv A0 outer s H vs Q E hr h => ?_)
  · obtain ⟨a, ns, rfl, _⟩ := h
    rfl
  · obtain ⟨a, ns, rfl, hS, hlen, hT, k⟩ := h
    obtain ⟨fI, fdI, gA, gVA, MA, GI, bI, kI, hgV, ds, hds, bI2⟩ := R.make
    obtain ⟨p4, g4, d4, P4, G4, B4⟩ := R.shift_
    obtain ⟨fE, fdE, GE, hE1, hE2, bE⟩ := R.eq_
    obtain ⟨f1, e1, GState, mState, kState, bState⟩ := HState
    obtain ⟨f2, e2, GDraw, mDraw, kDraw, bDraw⟩ := HDraw
    obtain ⟨f3, e3, GPick, mPick, kPick, bPick⟩ := HPick
    obtain ⟨f4, e4, GThing, mThing, kThing, bThing⟩ := HThing
    obtain ⟨f5, e5, GStretch, mStretch, kStretch, bStretch⟩ := HStretch
    obtain ⟨f6, e6, GLS, mLS, kLS, bLS⟩ := HLS
    obtain ⟨f7, e7, GWhole, mWhole, kWhole, bWhole⟩ := HWhole
    obtain ⟨f8, e8, GRight, mRight, kRight, bRight⟩ := HRight
    have hr1 := hr.mono (show 1 ≤ 9 by decide)
    have hr2 := hr.mono (show 2 ≤ 9 by decide)
    have hr3 := hr.mono (show 3 ≤ 9 by decide)
    have hr6 := hr.mono (show 6 ≤ 9 by decide)
    refine ⟨_, (pss_cons (ps_set (i := 1) scLaw.nd rfl (Or.inl rfl) (pe_call GState hr1 rfl mState kState bState .nil pass0 (pa_cons (pv 0) pa_nil))) (pss_cons (ps_for PassesOwn.never rfl (pi_range1 rfl range_ (pa_cons pe_int pa_nil)) (pg_name (i := 2) scLaw.nd rfl (Or.inl rfl)) (pss_cons (ps_asg (pe_call GStretch hr3 rfl mStretch kStretch bStretch .nil pass0 (pa_cons (pv 1) pa_nil)) (pg_tup (by rfl) (pgs_cons (pg_name (i := 3) scLaw.nd rfl (Or.inl rfl)) (pgs_cons (pg_name (i := 4) scLaw.nd rfl (Or.inl rfl)) pgs_nil)))) (pss_cons (ps_set (i := 5) scLaw.nd rfl (Or.inl rfl) (pe_call GPick hr2 rfl mPick kPick bPick .nil pass0 (pa_cons (pv 1) (pa_cons (pe_lst (pa_cons pe_int (pa_cons pe_int (pa_cons (pe_un un_neg pe_int) (pa_cons (pe_op op_pow pe_int pe_int) (pa_cons (pe_un un_neg (pe_op op_pow pe_int pe_int)) (pa_cons (pe_call GDraw hr1 rfl mDraw kDraw bDraw .nil pass0 (pa_cons (pv 1) (pa_cons pe_int pa_nil))) pa_nil))))))) pa_nil)))) (pss_cons (ps_for PassesOwn.never rfl (pi_range1 rfl range_ (pa_cons pe_int pa_nil)) (pg_name (i := 6) scLaw.nd rfl (Or.inl rfl)) (pss_cons (ps_set (i := 7) scLaw.nd rfl (Or.inl rfl) (pe_lst (pa_cons (pv 3) (pa_cons (pv 4) (pa_cons (pv 5) pa_nil))))) (pss_cons (ps_asg (pe_call GThing hr3 rfl mThing kThing bThing .nil pass0 (pa_cons (pv 1) pa_nil)) (pg_sub (pv 7) (pv 6) set_list)) (pss_cons (ps_if (PW.pt (pw_or (pt_not (pt_val (pe_call GRight hr rfl mRight kRight bRight .nil pass0 (pa_cons (pe_ix ix_list (pv 7) pe_int (fun _ _ => rfl)) (pa_cons (pe_ix ix_list (pv 7) pe_int (fun _ _ => rfl)) (pa_cons (pe_ix ix_list (pv 7) pe_int (fun _ _ => rfl)) pa_nil)))))) (pw_or1 (pt_not (pt_val (pe_call GRight hr rfl mRight kRight bRight .nil pass0 (pa_cons (pv 3) (pa_cons (pv 4) (pa_cons (pv 5) pa_nil))))))))) (pss_one (ps_ret pe_bl)) pss_nil) (pss_one (ps_if (PW.pt (pw_and (pt_val (pe_call GLS hr2 rfl mLS kLS bLS .nil pass0 (pa_cons (pe_ix ix_list (pv 7) pe_int (fun _ _ => rfl)) (pa_cons (pe_ix ix_list (pv 7) pe_int (fun _ _ => rfl)) pa_nil)))) (pw_and1 (pt_val (pe_call GWhole hr1 rfl mWhole kWhole bWhole .nil pass0 (pa_cons (pe_ix ix_list (pv 7) pe_int (fun _ _ => rfl)) pa_nil)))))) (pss_cons (ps_set (i := 8) scLaw.nd rfl (Or.inl rfl) (pe_make MA GI hr6 rfl R.mg_ bI .nil passL (pa_cons (pe_ix ix_list (pv 7) pe_int (fun _ _ => rfl)) (pa_cons (pe_ix ix_list (pv 7) pe_int (fun _ _ => rfl)) (pa_cons (pe_ix ix_list (pv 7) pe_int (fun _ _ => rfl)) pa_nil))))) (pss_one (ps_if (pt_cmpR op_ne (pe_cmpR (op_eqOwn (C := C) (E := E0) GE hE1 hE2 bE pass0 hr1) (pe_make MA GI hr6 rfl R.mg_ bI .nil passL (pa_cons (pv 3) (pa_cons (pv 4) (pa_cons (pv 5) pa_nil)))) (pv 8) (nomark _)) (pe_cmpR (op_eqD hr.units) (pv 7) (pe_lst (pa_cons (pv 3) (pa_cons (pv 4) (pa_cons (pv 5) pa_nil)))) (nomark _)) (nomark _)) (pss_one (ps_ret pe_bl)) pss_nil))) pss_nil)))))) (pss_one (ps_if (PW.pt (pw_or (pt_not (pt_cmpR (op_eqOwn (C := C) (E := E0) GE hE1 hE2 bE pass0 hr1) (pe_make MA GI hr6 rfl R.mg_ bI2 hds passL (pa_cons (pv 3) (pa_cons (pv 4) pa_nil))) (pe_make MA GI hr6 rfl R.mg_ bI .nil passL (pa_cons (pv 3) (pa_cons (pv 4) (pa_cons pe_int pa_nil)))) (nomark _))) (pw_or1 (pt_cmpR op_ne (pe_prop (pe_make MA GI hr6 rfl R.mg_ bI2 hds passL (pa_cons (pv 3) (pa_cons (pv 4) pa_nil))) R.ar.cl P4 G4 hr2 B4 .nil pass0 rfl) pe_int (nomark _))))) (pss_one (ps_ret pe_bl)) pss_nil)))))) (pss_one (ps_ret pe_bl)))), ?_⟩
    -- d = _law_state(script)
    refine ⟨_, rfl, a, ns, rfl, hS, hlen, fun d st H0 s0 _ _ D0 => ?_⟩
    have T0 := hT.ext s0
    refine ⟨8, rfl, by decide, by decide, for_range (n := 8) (fun n σ H' => ∃ v2 v3 v4 v5 v6 v7 v8 : Option V, σ = [some (.ref a), some (.ref d), v2, v3, v4, v5, v6, v7, v8] ∧ Dr d st H' ∧ Tabs (TT Pc) H')
      ⟨none, none, none, none, none, none, none, rfl, D0, T0⟩ ?_ ?_⟩
    · rintro n σ H' hn ⟨v2, v3, v4, v5, v6, v7, v8, rfl, D, T⟩
      -- first, size = _law_stretch(d)
      refine ⟨_, rfl, d, st, rfl, D, fun b m t H1 hst ht D1 K1 => ⟨t, _, rfl, SqT.of ht, rfl, _, _, rfl, _, _, rfl, rfl, ?_⟩⟩
      have T1 := tabs_extL T (ExtL.kp D K1)
      -- line = _law_pick(d, [..])
      refine ⟨_, rfl, _, rfl, _, _, rfl, rfl, ⟨by decide, by decide, by decide⟩, _, _, rfl, rfl, ⟨by decide, by decide, by decide⟩, _, rfl, _, rfl, d, st, _, rfl, D1, by decide, by decide, fun r H2 _ _ D2 K2 => ⟨by show 6 ≤ sizeLine; decide, fun L nL => ?_⟩⟩
      have T2 := tabs_extL T1 (ExtL.kp D1 K2)
      obtain ⟨nLd, nLs⟩ := D2.ne (Same.refl _) nL
      generalize eH3 : upd H2 L _ = H3
      have s3 : Same H2 H3 := by rw [← eH3]; exact sameNew nL
      have a3 : H3 L = some (HO.lst [V.int 0, V.int 1, V.int (-1), V.int (10 ^ 17), V.int (-(10 ^ 17)), V.int r] : HO) := by rw [← eH3]; exact upd_same
      clear eH3
      refine ⟨d, st, L, _, rfl, D2.same s3, a3, nLd, nLs, by show 0 < 6; decide, by show 6 < 1000000; decide, fun v H4 hv D4 K4 => ?_⟩
      have T4 := tabs_extL (T2.ext s3) (ExtL.kp (D2.same s3) K4)
      obtain ⟨l, rfl⟩ : ∃ l, v = V.int l := by
        simp only [List.mem_cons, List.not_mem_nil, or_false] at hv
        rcases hv with rfl | rfl | rfl | rfl | rfl | rfl <;> exact ⟨_, rfl⟩
      have eo : okA (.int b) (.int m) (.int l) = true := by unfold okA; rw [hst] <;> rfl
      -- for bend in range(3)
      refine ⟨3, rfl, by decide, by decide, for_range (n := 3) (fun n' σ H' => ∃ v6 v7 v8 : Option V, σ = [some (.ref a), some (.ref d), some (.int (0 + (n : Int))), some (.int b), some (.int m), some (.int l), v6, v7, v8] ∧ Dr d st H' ∧ Tabs (TT Pc) H')
        ⟨v6, v7, v8, rfl, D4, T4⟩ ?_ ?_⟩
      · rintro n' σ' H5 hn' ⟨w6, w7, w8, rfl, D5, T5⟩
        -- values = [first, size, line]; values[bend] = _law_thing(d)
        refine ⟨_, rfl, _, rfl, _, rfl, by show 3 ≤ sizeLine; decide, fun M nM => ?_⟩
        obtain ⟨nMd, nMs⟩ := D5.ne (Same.refl _) nM
        generalize eH6 : upd H5 M _ = H6
        have s6 : Same H5 H6 := by rw [← eH6]; exact sameNew nM
        have a6 : H6 M = some (HO.lst [V.int b, V.int m, V.int l] : HO) := by rw [← eH6]; exact upd_same
        clear eH6
        have D6 := D5.same s6
        have T6 := T5.ext s6
        refine ⟨_, rfl, d, st, rfl, D6, fun x H7 hx hnew D7 K7 => ?_⟩
        have a7 := K7 _ _ a6 nMd nMs
        have T7 := tabs_extL T6 (ExtL.kp D6 K7)
        have hixN : ixN ([V.int b, V.int m, V.int l] : List V).length (0 + (n' : Int)) = some n' := by
          unfold ixN
          rw [if_pos (by omega), if_pos (by show _ < ((3 : Nat) : Int); omega)]
          simp
        refine ⟨_, rfl, _, rfl, M, _, _, n', rfl, rfl, a7, hixN, ?_⟩
        obtain ⟨x0, x1, x2, hset, h0, h1, h2⟩ : ∃ x0 x1 x2, ([V.int b, V.int m, V.int l] : List V).set n' x = [x0, x1, x2] ∧ (x0 = x ∨ x0 = .int b) ∧ (x1 = x ∨ x1 = .int m) ∧ (x2 = x ∨ x2 = .int l) := by
          match n', hn' with
          | 0, _ => exact ⟨_, _, _, rfl, .inl rfl, .inr rfl, .inr rfl⟩
          | 1, _ => exact ⟨_, _, _, rfl, .inr rfl, .inl rfl, .inr rfl⟩
          | 2, _ => exact ⟨_, _, _, rfl, .inr rfl, .inr rfl, .inl rfl⟩
        rw [hset]
        have x8 : ExtL H7 (upd H7 M (.lst [x0, x1, x2])) := ExtL.upd a7
        have hx8 : AnyV (upd H7 M (.lst [x0, x1, x2])) x := hx.mono fun q o e ho _ => by
          rw [upd_ne (fun z => by have := hnew q e; rw [z, a6] at this; cases this)]
          exact ho
        have D8 : Dr d st (upd H7 M (.lst [x0, x1, x2])) := by
          obtain ⟨ms, sp, mx, hd, hs, hh⟩ := D7
          exact ⟨ms, sp, mx, by rw [upd_ne nMd.symm]; exact hd, by rw [upd_ne nMs.symm]; exact hs, hh⟩
        have T8 := tabs_extL T7 x8
        have a8 : (upd H7 M (.lst [x0, x1, x2])) M = some (.lst [x0, x1, x2]) := upd_same
        generalize upd H7 M (.lst [x0, x1, x2]) = H8 at hx8 D8 T8 a8 ⊢
        have y0 : AnyV H8 x0 := by rcases h0 with rfl | rfl <;> first | exact hx8 | exact .int _
        have y1 : AnyV H8 x1 := by rcases h1 with rfl | rfl <;> first | exact hx8 | exact .int _
        have y2 : AnyV H8 x2 := by rcases h2 with rfl | rfl <;> first | exact hx8 | exact .int _
        -- if not right(values) or not right(first, size, line)
        refine ⟨_, rfl, _, _, _, _, rfl, rfl, SqL.of a8, rfl, _, rfl, _, _, _, _, rfl, rfl, SqL.of a8, rfl, _, rfl, _, _, _, _, rfl, rfl, SqL.of a8, rfl, x0, x1, x2, rfl, y0, y1, y2, T8, fun H9 e9 T9 => ⟨_, rfl, iteF ?_⟩⟩
        refine ⟨_, rfl, _, rfl, _, rfl, _, _, _, rfl, .int _, .int _, .int _, T9, fun H10 e10 T10 => ⟨_, rfl, iteF ?_⟩⟩
        have e810 := e9.trans e10
        have D10 := D8.extN e810
        have a10 := e810 _ _ a8 (fun ps z => by cases z)
        have z0 := y0.ext e810
        have z1 := y1.ext e810
        have z2 := y2.ext e810
        -- if stretch(values) and whole(..)
        refine ⟨_, rfl, _, _, _, _, rfl, rfl, SqL.of a10, rfl, _, rfl, _, _, _, _, rfl, rfl, SqL.of a10, rfl, x0, x1, rfl, z0, z1, _, rfl, ?_⟩
        cases es : isS x0 x1 with
        | false => exact iteF (iteF ⟨_, _, _, rfl, D10, T10⟩)
        | true =>
          refine iteT ?_
          refine ⟨_, rfl, _, _, _, _, rfl, rfl, SqL.of a10, rfl, x2, rfl, z2, _, rfl, ?_⟩
          cases ei : isI x2 with
          | false => exact iteF ⟨_, _, _, rfl, D10, T10⟩
          | true =>
            refine iteT ?_
            have eo' : okA x0 x1 x2 = true := by unfold okA; rw [es, ei] <;> rfl
            obtain ⟨i0, i1, rfl, rfl⟩ : ∃ i j, x0 = .int i ∧ x1 = .int j := by
              cases x0 <;> cases x1 <;> simp [isS] at es <;> exact ⟨_, _, rfl, rfl⟩
            obtain ⟨i2, rfl⟩ : ∃ i, x2 = .int i := by cases x2 <;> simp [isI] at ei <;> exact ⟨_, rfl⟩
            -- other = Area(..)
            refine ⟨_, rfl, _, _, _, _, rfl, rfl, SqL.of a10, rfl, _, rfl, _, _, _, _, rfl, rfl, SqL.of a10, rfl, _, rfl, _, _, _, _, rfl, rfl, SqL.of a10, rfl, ?_⟩
            refine fun p dx np ndx ne => mk_one np ndx ne z0 z1 z2 eo' fun H11 s11 hp => ⟨rfl, ?_⟩
            -- (Area(first, size, line) == other) != (values == [..])
            refine ⟨_, rfl, _, rfl, _, rfl, ?_⟩
            refine fun q dy nq ndy ne' => mk_one nq ndy ne' (.int _) (.int _) (.int _) eo fun H12 s12 hq => ⟨rfl, ?_⟩
            have hp12 := s12 _ _ hp
            refine ⟨_, rfl, q, dy, _, _, rfl, hq, R.it.ty hp12, R.nf1, ⟨q, dy, _, _, _, _, rfl, hq, .inl ⟨p, dx, _, _, _, rfl, hp12, fun H13 s13 => ⟨_, rfl, ?_⟩⟩⟩⟩
            have s1013 := s11.trans (s12.trans s13)
            refine ⟨_, rfl, _, rfl, _, rfl, _, rfl, by show 3 ≤ sizeLine; decide, fun G nG => ?_⟩
            generalize eH14 : upd H13 G _ = H14
            have s14 : Same H13 H14 := by rw [← eH14]; exact sameNew nG
            have a14 : H14 G = some (HO.lst [V.int b, V.int m, V.int l] : HO) := by rw [← eH14]; exact upd_same
            clear eH14
            have s1014 := s1013.trans s14
            refine ⟨.list [.int i0, .int i1, .int i2], .list [.int b, .int m, .int l], .lst (SqL.of (s1014 _ _ a10)) (.cons (.int _) (.cons (.int _) (.cons (.int _) .nil))), .lst (SqL.of a14) (.cons (.int _) (.cons (.int _) (.cons (.int _) .nil))), rfl, rfl, ?_⟩
            have ee : PyData.eqv (.list [.int i0, .int i1, .int i2]) (.list [.int b, .int m, .int l]) = decide (b = i0 ∧ m = i1 ∧ l = i2) := by
              simp only [PyData.eqv, PyData.eqvAll, Bool.and_true]
              by_cases c1 : b = i0 <;> by_cases c2 : m = i1 <;> by_cases c3 : l = i2 <;> simp [c1, c2, c3] <;> omega
            rw [ee]
            refine ⟨rfl, _, rfl, ?_⟩
            rw [show (!decide (V.bl (if false = true then !decide (b = i0 ∧ m = i1 ∧ l = i2) else decide (b = i0 ∧ m = i1 ∧ l = i2)) = V.bl (decide (b = i0 ∧ m = i1 ∧ l = i2)))) = false from by simp]
            exact iteF ⟨_, _, _, rfl, D10.same s1014, T10.ext s1014⟩
      · rintro σ' H5 ⟨w6, w7, w8, rfl, D5, T5⟩
        -- if not Area(first, size) == Area(first, size, 0) or ..
        have eo0 : okA (.int b) (.int m) (.int 0) = true := by unfold okA; rw [hst] <;> rfl
        refine ⟨_, rfl, _, rfl, ?_⟩
        refine fun p dx np ndx ne => mk_one np ndx ne (.int _) (.int _) (.int 0) eo0 fun H6 s6 hp => ⟨rfl, ?_⟩
        refine ⟨_, rfl, _, rfl, ?_⟩
        refine fun q dy nq ndy ne' => mk_one nq ndy ne' (.int _) (.int _) (.int 0) eo0 fun H7 s7 hq => ⟨rfl, ?_⟩
        have hp7 := s7 _ _ hp
        refine ⟨p, dx, _, _, rfl, hp7, R.it.ty hq, R.nf1, ⟨p, dx, _, _, _, _, rfl, hp7, .inl ⟨q, dy, _, _, _, rfl, hq, fun H8 s8 => ⟨_, rfl, _, rfl, ?_⟩⟩⟩⟩
        rw [show (if false = true then !decide (b = b ∧ m = m ∧ (0 : Int) = 0) else decide (b = b ∧ m = m ∧ (0 : Int) = 0)) = true from by simp]
        refine iteF ?_
        refine ⟨_, rfl, _, rfl, ?_⟩
        refine fun r' dr nr ndr ne'' => mk_one nr ndr ne'' (.int _) (.int _) (.int 0) eo0 fun H9 s9 hr' => ⟨rfl, ?_⟩
        refine ⟨r', dr, _, rfl, hr', ⟨r', dr, _, _, rfl, hr', ArF_3 _ _ _, ?_⟩⟩
        refine ⟨rfl, _, rfl, iteF ?_⟩
        have s59 := s6.trans (s7.trans (s8.trans s9))
        exact ⟨_, _, _, _, _, _, _, rfl, D5.same s59, T5.ext s59⟩
    · rintro σ H' _
      exact k H'
end
end Bm
set_option maxRecDepth 100000
set_option maxHeartbeats 4000000
namespace Bm
open PySem L2 L3 LamX
abbrev E4 : List Value := [.type "ValueError", .type "Exception", .type "BaseException", .type "object"]
theorem b1 {K : PySem.W.Frag} {x q : Str} {st : Stmt} {f : Addr} {fd : FuncData} {a : Str} (F : Fun K x q st f fd)
    (h : ∀ (kV doc pm : Value) (an : Option Addr) (cdv ct : Value) (us : List Value), us.length = [a].length → bindArgs (PySem.W.fnOf x q (defArgs st) (defBody st) (defScope st) .none kV doc pm an cdv ct) ⟨us, []⟩ = pure ([a].zip us)) : L2.Binds K fd [a] [] := F.binds h
theorem vals_rev : ∀ {xs : List V} {us : List Value}, Vals xs us → Vals xs.reverse us.reverse
  | _, _, .nil => .nil
  | _, _, .cons r t => by
    rw [List.reverse_cons, List.reverse_cons]
    exact (vals_rev t).append (.cons r .nil)
theorem scAB : FnScope ["self"] ["self"] (defScope sABegin) := ⟨rfl, rfl, rfl, by decide +kernel, rfl, by decide +kernel, by decide +kernel⟩
theorem scAM : FnScope ["self"] ["self"] (defScope sAMany) := ⟨rfl, rfl, rfl, by decide +kernel, rfl, by decide +kernel, by decide +kernel⟩
theorem scAS : FnScope ["self"] ["self"] (defScope sAShift) := ⟨rfl, rfl, rfl, by decide +kernel, rfl, by decide +kernel, by decide +kernel⟩
theorem all_mk {l : PySem.W.OpenLaw} {w : World} {K : PySem.W.Frag} {h : Heap} {mg : Str → Option Value} {fa : Addr} (X : K.In h) (G : h.Ns mainGlobals mg) (hfa : mg "law" = some (.ref fa))
    {C CB CM T0 p1 p2 p3 p4 cR Pc : Addr} {tP : Tok} {fII : Addr} {odII anII : Option Addr} {slII : Array (Option Value)} {ocII kVII dcII pmII ctII : Value} {cdII : Value} {fIP : Addr} {odIP anIP : Option Addr} {slIP : Array (Option Value)} {ocIP kVIP dcIP pmIP ctIP : Value} {cdIP : Value} {fIS : Addr} {odIS anIS : Option Addr} {slIS : Array (Option Value)} {ocIS kVIS dcIS pmIS ctIS : Value} {cdIS : Value} {fNS : Addr} {odNS anNS : Option Addr} {slNS : Array (Option Value)} {ocNS kVNS dcNS pmNS ctNS : Value} {cdNS : Value} {fSt : Addr} {odSt anSt : Option Addr} {slSt : Array (Option Value)} {ocSt kVSt dcSt pmSt ctSt : Value} {cdSt : Value} {fDr : Addr} {odDr anDr : Option Addr} {slDr : Array (Option Value)} {ocDr kVDr dcDr pmDr ctDr : Value} {cdDr : Value} {fPi : Addr} {odPi anPi : Option Addr} {slPi : Array (Option Value)} {ocPi kVPi dcPi pmPi ctPi : Value} {cdPi : Value} {fTh : Addr} {odTh anTh : Option Addr} {slTh : Array (Option Value)} {ocTh kVTh dcTh pmTh ctTh : Value} {cdTh : Value} {fWh : Addr} {odWh anWh : Option Addr} {slWh : Array (Option Value)} {ocWh kVWh dcWh pmWh ctWh : Value} {cdWh : Value} {fLS : Addr} {odLS anLS : Option Addr} {slLS : Array (Option Value)} {ocLS kVLS dcLS pmLS ctLS : Value} {cdLS : Value} {fMa : Addr} {odMa anMa : Option Addr} {slMa : Array (Option Value)} {ocMa kVMa dcMa pmMa ctMa : Value} {cdMa : Value} {fRi : Addr} {odRi anRi : Option Addr} {slRi : Array (Option Value)} {ocRi kVRi dcRi pmRi ctRi : Value} {fSh : Addr} {odSh anSh : Option Addr} {slSh : Array (Option Value)} {ocSh kVSh dcSh pmSh ctSh : Value} {cdSh : Value} {fLa : Addr} {odLa anLa : Option Addr} {slLa : Array (Option Value)} {ocLa kVLa dcLa pmLa ctLa : Value} {cdLa : Value} {dd0 : Option Addr} {sl0 : Array (Option Value)} {oc0 : Value} {n0 : Nat} {t0 : Tok} {fIn : Addr} {odIn anIn : Option Addr} {slIn : Array (Option Value)} {ocIn kVIn dcIn pmIn ctIn : Value} {cdIn : Value} {r1 : List Value}  {fP1 : Addr} {odP1 anP1 : Option Addr} {slP1 : Array (Option Value)} {ocP1 kVP1 dcP1 pmP1 ctP1 : Value} {cdP1 : Value} {r2 : List Value}  {fP2 : Addr} {odP2 anP2 : Option Addr} {slP2 : Array (Option Value)} {ocP2 kVP2 dcP2 pmP2 ctP2 : Value} {cdP2 : Value} {r3 : List Value}  {fP3 : Addr} {odP3 anP3 : Option Addr} {slP3 : Array (Option Value)} {ocP3 kVP3 dcP3 pmP3 ctP3 : Value} {cdP3 : Value} {r4 : List Value}  {fP4 : Addr} {odP4 anP4 : Option Addr} {slP4 : Array (Option Value)} {ocP4 kVP4 dcP4 pmP4 ctP4 : Value} {cdP4 : Value} {fEq : Addr} {odEq anEq : Option Addr} {slEq : Array (Option Value)} {ocEq kVEq dcEq pmEq ctEq : Value} {cdEq : Value} {occ : Value} {odc : Option Addr} {vsc : Array Value} {slc : Array (Option Value)}
    (aC : PySem.W.nsIn K mainGlobals "Area" = some (some (.ref C)))
    (aCB : PySem.W.nsIn K mainGlobals "BadArea" = some (some (.ref CB)))
    (aCM : PySem.W.nsIn K mainGlobals "MapError" = some (some (.ref CM)))
    (aPl : PySem.W.nsIn K mainGlobals "PLACES" = some (some (.int 10000 tP)))
    (zint : PySem.W.nsIn K mainGlobals "int" = some none)
    (zlen : PySem.W.nsIn K mainGlobals "len" = some none)
    (zabs : PySem.W.nsIn K mainGlobals "abs" = some none)
    (zisinstance : PySem.W.nsIn K mainGlobals "isinstance" = some none)
    (zbool : PySem.W.nsIn K mainGlobals "bool" = some none)
    (zrange : PySem.W.nsIn K mainGlobals "range" = some none)
    (zValueError : PySem.W.nsIn K mainGlobals "ValueError" = some none)
    (aII : PySem.W.nsIn K mainGlobals "is_integer" = some (some (.ref fII)))
    (lII : K.lookup fII = some ⟨ocII, odII, .func (PySem.W.fnOf "is_integer" "is_integer" (defArgs sIsInt) (defBody sIsInt) (defScope sIsInt) .none kVII dcII pmII anII cdII ctII), slII⟩)
    (cII : PySem.W.codeIn K cdII "is_integer" = true)
    (kII : PySem.W.keepIn K (.ref fII) = true)
    (aIP : PySem.W.nsIn K mainGlobals "is_place" = some (some (.ref fIP)))
    (lIP : K.lookup fIP = some ⟨ocIP, odIP, .func (PySem.W.fnOf "is_place" "is_place" (defArgs sIsPlace) (defBody sIsPlace) (defScope sIsPlace) .none kVIP dcIP pmIP anIP cdIP ctIP), slIP⟩)
    (cIP : PySem.W.codeIn K cdIP "is_place" = true)
    (kIP : PySem.W.keepIn K (.ref fIP) = true)
    (aIS : PySem.W.nsIn K mainGlobals "is_stretch" = some (some (.ref fIS)))
    (lIS : K.lookup fIS = some ⟨ocIS, odIS, .func (PySem.W.fnOf "is_stretch" "is_stretch" (defArgs sIsStretch) (defBody sIsStretch) (defScope sIsStretch) .none kVIS dcIS pmIS anIS cdIS ctIS), slIS⟩)
    (cIS : PySem.W.codeIn K cdIS "is_stretch" = true)
    (kIS : PySem.W.keepIn K (.ref fIS) = true)
    (aNS : PySem.W.nsIn K mainGlobals "need_stretch" = some (some (.ref fNS)))
    (lNS : K.lookup fNS = some ⟨ocNS, odNS, .func (PySem.W.fnOf "need_stretch" "need_stretch" (defArgs sNeed) (defBody sNeed) (defScope sNeed) .none kVNS dcNS pmNS anNS cdNS ctNS), slNS⟩)
    (cNS : PySem.W.codeIn K cdNS "need_stretch" = true)
    (kNS : PySem.W.keepIn K (.ref fNS) = true)
    (aSt : PySem.W.nsIn K mainGlobals "_law_state" = some (some (.ref fSt)))
    (lSt : K.lookup fSt = some ⟨ocSt, odSt, .func (PySem.W.fnOf "_law_state" "_law_state" (defArgs sState) (defBody sState) (defScope sState) .none kVSt dcSt pmSt anSt cdSt ctSt), slSt⟩)
    (cSt : PySem.W.codeIn K cdSt "_law_state" = true)
    (kSt : PySem.W.keepIn K (.ref fSt) = true)
    (aDr : PySem.W.nsIn K mainGlobals "_law_draw" = some (some (.ref fDr)))
    (lDr : K.lookup fDr = some ⟨ocDr, odDr, .func (PySem.W.fnOf "_law_draw" "_law_draw" (defArgs sDraw) (defBody sDraw) (defScope sDraw) .none kVDr dcDr pmDr anDr cdDr ctDr), slDr⟩)
    (cDr : PySem.W.codeIn K cdDr "_law_draw" = true)
    (kDr : PySem.W.keepIn K (.ref fDr) = true)
    (aPi : PySem.W.nsIn K mainGlobals "_law_pick" = some (some (.ref fPi)))
    (lPi : K.lookup fPi = some ⟨ocPi, odPi, .func (PySem.W.fnOf "_law_pick" "_law_pick" (defArgs sPick) (defBody sPick) (defScope sPick) .none kVPi dcPi pmPi anPi cdPi ctPi), slPi⟩)
    (cPi : PySem.W.codeIn K cdPi "_law_pick" = true)
    (kPi : PySem.W.keepIn K (.ref fPi) = true)
    (aTh : PySem.W.nsIn K mainGlobals "_law_thing" = some (some (.ref fTh)))
    (lTh : K.lookup fTh = some ⟨ocTh, odTh, .func (PySem.W.fnOf "_law_thing" "_law_thing" (defArgs sThing) (defBody sThing) (defScope sThing) .none kVTh dcTh pmTh anTh cdTh ctTh), slTh⟩)
    (cTh : PySem.W.codeIn K cdTh "_law_thing" = true)
    (kTh : PySem.W.keepIn K (.ref fTh) = true)
    (aWh : PySem.W.nsIn K mainGlobals "_law_is_whole" = some (some (.ref fWh)))
    (lWh : K.lookup fWh = some ⟨ocWh, odWh, .func (PySem.W.fnOf "_law_is_whole" "_law_is_whole" (defArgs sWhole) (defBody sWhole) (defScope sWhole) .none kVWh dcWh pmWh anWh cdWh ctWh), slWh⟩)
    (cWh : PySem.W.codeIn K cdWh "_law_is_whole" = true)
    (kWh : PySem.W.keepIn K (.ref fWh) = true)
    (aLS : PySem.W.nsIn K mainGlobals "_law_is_stretch" = some (some (.ref fLS)))
    (lLS : K.lookup fLS = some ⟨ocLS, odLS, .func (PySem.W.fnOf "_law_is_stretch" "_law_is_stretch" (defArgs sLStretch) (defBody sLStretch) (defScope sLStretch) .none kVLS dcLS pmLS anLS cdLS ctLS), slLS⟩)
    (cLS : PySem.W.codeIn K cdLS "_law_is_stretch" = true)
    (kLS : PySem.W.keepIn K (.ref fLS) = true)
    (aMa : PySem.W.nsIn K mainGlobals "_law_made" = some (some (.ref fMa)))
    (lMa : K.lookup fMa = some ⟨ocMa, odMa, .func (PySem.W.fnOf "_law_made" "_law_made" (defArgs sMade) (defBody sMade) (defScope sMade) .none kVMa dcMa pmMa anMa cdMa ctMa), slMa⟩)
    (cMa : PySem.W.codeIn K cdMa "_law_made" = true)
    (kMa : PySem.W.keepIn K (.ref fMa) = true)
    (aRi : PySem.W.nsIn K mainGlobals "_law_right" = some (some (.ref fRi)))
    (lRi : K.lookup fRi = some ⟨ocRi, odRi, .func (PySem.W.fnOf "_law_right" "_law_right" (defArgs sRight) (defBody sRight) (defScope sRight) .none kVRi dcRi pmRi anRi (.ref cR) ctRi), slRi⟩)
    (cRi : PySem.W.codeIn K (.ref cR) "_law_right" = true)
    (kRi : PySem.W.keepIn K (.ref fRi) = true)
    (aSh : PySem.W.nsIn K mainGlobals "_law_stretch" = some (some (.ref fSh)))
    (lSh : K.lookup fSh = some ⟨ocSh, odSh, .func (PySem.W.fnOf "_law_stretch" "_law_stretch" (defArgs sStretch) (defBody sStretch) (defScope sStretch) .none kVSh dcSh pmSh anSh cdSh ctSh), slSh⟩)
    (cSh : PySem.W.codeIn K cdSh "_law_stretch" = true)
    (kSh : PySem.W.keepIn K (.ref fSh) = true)
    (aLa : PySem.W.nsIn K mainGlobals "law" = some (some (.ref fLa)))
    (lLa : K.lookup fLa = some ⟨ocLa, odLa, .func (PySem.W.fnOf "law" "law" (defArgs sLaw) (defBody sLaw) (defScope sLaw) .none kVLa dcLa pmLa anLa cdLa ctLa), slLa⟩)
    (cLa : PySem.W.codeIn K cdLa "law" = true)
    (kLa : PySem.W.keepIn K (.ref fLa) = true)
    (aIn : PySem.W.findIn K (.ref C) "__init__" = some (some (.ref fIn)))
    (iIn : PySem.W.isFn K (.ref fIn) = true)
    (lIn : K.lookup fIn = some ⟨ocIn, odIn, .func (PySem.W.fnOf "__init__" "Area.__init__" (defArgs sAInit) (defBody sAInit) (defScope sAInit) (.ref T0) kVIn dcIn pmIn anIn cdIn ctIn), slIn⟩)
    (cIn : PySem.W.codeIn K cdIn "Area.__init__" = true)
    (kIn : PySem.W.keepIn K (.ref fIn) = true)
    (lT0 : K.lookup T0 = some ⟨oc0, dd0, .seq #[.int 0 t0] n0, sl0⟩)
    (pg : PySem.W.plainGet K C Str.empty = true)
    (hd : PySem.W.hasDictIn K C = true)
    (po : PySem.W.plainOver K C = true)
    (sa : PySem.W.findIn K (.ref C) "__setattr__" = some (some (.builtin "object.__setattr__")))
    (mk : PySem.W.makesIn K C = true)
    (kc : PySem.W.keepIn K (.ref C) = true)
    (n1 : PySem.W.findIn K (.ref C) "first_place" = some none)
    (n2 : PySem.W.findIn K (.ref C) "size" = some none)
    (n3 : PySem.W.findIn K (.ref C) "line" = some none)
    (pap1 : PySem.W.findIn K (.ref C) "begin" = some (some (.ref p1)))
    (pbp1 : PySem.W.specialIn K (.ref p1) "__get__" = some (some (.builtin "property.__get__")))
    (pcp1 : PySem.W.takesIn K (.ref p1) = some true)
    (pdp1 : PySem.W.recIn K p1 "property" = some (.ref fP1 :: r1))
    (lP1 : K.lookup fP1 = some ⟨ocP1, odP1, .func (PySem.W.fnOf "begin" "Area.begin" (defArgs sABegin) (defBody sABegin) (defScope sABegin) .none kVP1 dcP1 pmP1 anP1 cdP1 ctP1), slP1⟩)
    (cP1 : PySem.W.codeIn K cdP1 "Area.begin" = true)
    (kP1 : PySem.W.keepIn K (.ref fP1) = true)
    (pap2 : PySem.W.findIn K (.ref C) "many" = some (some (.ref p2)))
    (pbp2 : PySem.W.specialIn K (.ref p2) "__get__" = some (some (.builtin "property.__get__")))
    (pcp2 : PySem.W.takesIn K (.ref p2) = some true)
    (pdp2 : PySem.W.recIn K p2 "property" = some (.ref fP2 :: r2))
    (lP2 : K.lookup fP2 = some ⟨ocP2, odP2, .func (PySem.W.fnOf "many" "Area.many" (defArgs sAMany) (defBody sAMany) (defScope sAMany) .none kVP2 dcP2 pmP2 anP2 cdP2 ctP2), slP2⟩)
    (cP2 : PySem.W.codeIn K cdP2 "Area.many" = true)
    (kP2 : PySem.W.keepIn K (.ref fP2) = true)
    (pap3 : PySem.W.findIn K (.ref C) "end" = some (some (.ref p3)))
    (pbp3 : PySem.W.specialIn K (.ref p3) "__get__" = some (some (.builtin "property.__get__")))
    (pcp3 : PySem.W.takesIn K (.ref p3) = some true)
    (pdp3 : PySem.W.recIn K p3 "property" = some (.ref fP3 :: r3))
    (lP3 : K.lookup fP3 = some ⟨ocP3, odP3, .func (PySem.W.fnOf "end" "Area.end" (defArgs sAEnd) (defBody sAEnd) (defScope sAEnd) .none kVP3 dcP3 pmP3 anP3 cdP3 ctP3), slP3⟩)
    (cP3 : PySem.W.codeIn K cdP3 "Area.end" = true)
    (kP3 : PySem.W.keepIn K (.ref fP3) = true)
    (pap4 : PySem.W.findIn K (.ref C) "shift" = some (some (.ref p4)))
    (pbp4 : PySem.W.specialIn K (.ref p4) "__get__" = some (some (.builtin "property.__get__")))
    (pcp4 : PySem.W.takesIn K (.ref p4) = some true)
    (pdp4 : PySem.W.recIn K p4 "property" = some (.ref fP4 :: r4))
    (lP4 : K.lookup fP4 = some ⟨ocP4, odP4, .func (PySem.W.fnOf "shift" "Area.shift" (defArgs sAShift) (defBody sAShift) (defScope sAShift) .none kVP4 dcP4 pmP4 anP4 cdP4 ctP4), slP4⟩)
    (cP4 : PySem.W.codeIn K cdP4 "Area.shift" = true)
    (kP4 : PySem.W.keepIn K (.ref fP4) = true)
    (aEq : PySem.W.findIn K (.ref C) "__eq__" = some (some (.ref fEq)))
    (iEq : PySem.W.isFn K (.ref fEq) = true)
    (lEq : K.lookup fEq = some ⟨ocEq, odEq, .func (PySem.W.fnOf "__eq__" "Area.__eq__" (defArgs sAEq) (defBody sAEq) (defScope sAEq) .none kVEq dcEq pmEq anEq cdEq ctEq), slEq⟩)
    (cEq : PySem.W.codeIn K cdEq "Area.__eq__" = true)
    (kEq : PySem.W.keepIn K (.ref fEq) = true)
    (ne : PySem.W.findIn K (.ref C) "__ne__" = some (some (.builtin "object.__ne__")))
    (cc : PySem.W.findIn K (.ref C) "__class__" = some (some (.builtin "object.__class__")))
    (cn : PySem.W.specialIn K (.builtin "object.__class__") "__get__" = some (some (.builtin "getset_descriptor.__get__")))
    (ct : PySem.W.takesIn K (.builtin "object.__class__") = some true)
    (cm : PySem.W.mroIn K C (.type "object") = some true)
    (st : PySem.W.subIn K (.type "tuple") (.ref C) = some false)
    (kt : PySem.W.kitOne K (.type "tuple") (.ref C) = some false)
    (xB : PySem.W.excIn K CB [.type "ValueError", .type "Exception", .type "BaseException", .type "object"] "ValueError.__new__" = true)
    (kB : PySem.W.keepIn K (.ref CB) = true)
    (bB : PySem.W.subIn K (.ref CB) (.type "BaseException") = some true)
    (tB : PySem.W.typeIn K (.ref CB) = some (.type "type"))
    (eg : PySem.W.findIn K (.ref CB) "__getattribute__" = some (some (.builtin "BaseException.__getattribute__")))
    (eh : PySem.W.findIn K (.ref CB) "__getattr__" = some none)
    (ed : PySem.W.hasDictIn K CB = true)
    (ec : PySem.W.findIn K (.ref CB) "__class__" = some (some (.builtin "object.__class__")))
    (em : PySem.W.mroIn K CB (.type "object") = some true)
    (mB : PySem.W.subIn K (.ref CM) (.type "BaseException") = some true)
    (mD : PySem.W.hasDictIn K CM = true)
    (mT : PySem.W.typeIn K (.ref CM) = some (.type "type"))
    (mS : PySem.W.subIn K (.ref CB) (.ref CM) = some true)
    (kv : PySem.W.kitOne K (.ref CB) (.type "ValueError") = some true)
    (lcR : K.lookup cR = some ⟨occ, odc, .fields vsc, slc⟩)
    (h11 : vsc[11]? = some (.ref Pc))
    (cT : PySem.W.codeHdIn K cR Pc = true)
    (lP : K.lookup Pc = none)
    (tT : h.get? Pc = some { cls := .none, data := .fields #[] }) : LawAtS l w K CX0 10 63 "_law_script" mg fa h := by
  have e := hfa.symm.trans (PySem.W.mg_of X G aLa)
  cases e
  have FII := fun_mk (st := sIsInt) lII cII kII
  have FIP := fun_mk (st := sIsPlace) lIP cIP kIP
  have FIS := fun_mk (st := sIsStretch) lIS cIS kIS
  have FNS := fun_mk (st := sNeed) lNS cNS kNS
  have FSt := fun_mk (st := sState) lSt cSt kSt
  have FDr := fun_mk (st := sDraw) lDr cDr kDr
  have FPi := fun_mk (st := sPick) lPi cPi kPi
  have FTh := fun_mk (st := sThing) lTh cTh kTh
  have FWh := fun_mk (st := sWhole) lWh cWh kWh
  have FLS := fun_mk (st := sLStretch) lLS cLS kLS
  have FMa := fun_mk (st := sMade) lMa cMa kMa
  have FRi := fun_mk (st := sRight) lRi cRi kRi
  have FSh := fun_mk (st := sStretch) lSh cSh kSh
  have FLa := fun_mk (st := sLaw) lLa cLa kLa
  have FP3 := fun_mk (st := sAEnd) lP3 cP3 kP3
  have FEq := fun_mk (st := sAEq) lEq cEq kEq
  have bII := FII.binds (ps := ["value"]) fun _ _ _ _ _ _ us hl => match us, hl with | [_], _ => rfl
  have bIP := FIP.binds (ps := ["value"]) fun _ _ _ _ _ _ us hl => match us, hl with | [_], _ => rfl
  have bIS := FIS.binds (ps := ["begin", "many"]) fun _ _ _ _ _ _ us hl => match us, hl with | [_, _], _ => rfl
  have bNS := FNS.binds (ps := ["begin", "many"]) fun _ _ _ _ _ _ us hl => match us, hl with | [_, _], _ => rfl
  have bSt := FSt.binds (ps := ["_law_script"]) fun _ _ _ _ _ _ us hl => match us, hl with | [_], _ => rfl
  have bDr := FDr.binds (ps := ["_law_draw_here", "_law_below"]) fun _ _ _ _ _ _ us hl => match us, hl with | [_, _], _ => rfl
  have bPi := FPi.binds (ps := ["_law_draw_here", "_law_some"]) fun _ _ _ _ _ _ us hl => match us, hl with | [_, _], _ => rfl
  have bTh := FTh.binds (ps := ["_law_draw_here"]) fun _ _ _ _ _ _ us hl => match us, hl with | [_], _ => rfl
  have bWh := FWh.binds (ps := ["_law_thing_here"]) fun _ _ _ _ _ _ us hl => match us, hl with | [_], _ => rfl
  have bLS := FLS.binds (ps := ["_law_first", "_law_size"]) fun _ _ _ _ _ _ us hl => match us, hl with | [_, _], _ => rfl
  have bMa := FMa.binds (ps := ["_law_work"]) fun _ _ _ _ _ _ us hl => match us, hl with | [_], _ => rfl
  have bRi := FRi.binds (ps := ["_law_first", "_law_size", "_law_line"]) fun _ _ _ _ _ _ us hl => match us, hl with | [_, _, _], _ => rfl
  have bSh := FSh.binds (ps := ["_law_draw_here"]) fun _ _ _ _ _ _ us hl => match us, hl with | [_], _ => rfl
  have bP3 := FP3.binds (ps := ["self"]) fun _ _ _ _ _ _ us hl => match us, hl with | [_], _ => rfl
  have bEq := FEq.binds (ps := ["self", "other"]) fun _ _ _ _ _ _ us hl => match us, hl with | [_, _], _ => rfl
  have FIn : FunD K "__init__" "Area.__init__" (defArgs sAInit) (defBody sAInit) (defScope sAInit) [.int 0] [] fIn _ :=
    ⟨⟨_, _, _, _, _, _, _, _, _, _, rfl, lIn, cIn, .inr ⟨by simp, T0, _, [.int 0 t0], _, rfl, lT0, rfl, .cons ⟨_, rfl⟩ .nil⟩, .inl rfl⟩, kIn⟩
  have TB0 : TB mg := ⟨PySem.W.mg_none_of X G zint, PySem.W.mg_none_of X G zlen, PySem.W.mg_none_of X G zabs⟩
  have TC0 : TC K mg := ⟨TB0, PySem.W.mg_none_of X G zisinstance, PySem.W.mg_none_of X G zbool, _, PySem.W.mg_of X G aPl⟩
  have BT : BadT K mg CB := ⟨PySem.W.mg_of X G aCB, xB, kB, bB, tB⟩
  have AT : ArT K C := ⟨⟨pg, hd, po, sa⟩, n1, n2, n3⟩
  have IT : InT K C := ⟨⟨pg, hd, po, sa⟩, cc, cn, ct, cm⟩
  refine ⟨PySem.W.fnOf "law" "law" (defArgs sLaw) (defBody sLaw) (defScope sLaw) .none kVLa dcLa pmLa anLa cdLa ctLa, [(cR, Pc)], spLaw K Pc, fun p hp => ?_, fun p hp => ?_, fun p hp => ?_, fun s v => ?_, fun H a ns hl _ hH hS => ⟨a, ns, rfl, hS, hl, ?_, fun _ => rfl⟩, fun base kb hb hTB => ?_⟩
  · rw [List.mem_singleton.mp hp]
    exact tT
  · rw [List.mem_singleton.mp hp]
    exact lP
  · rw [List.mem_singleton.mp hp]
    exact PySem.W.codeHd_of_K X cT
  · exact .of_eq rfl
  · intro p hp
    rw [List.mem_singleton.mp hp]
    exact TabS.nil (hH (cR, Pc) (List.mem_singleton.mpr rfl))
  · have GII := ok_is_integer (P := l.prog) (w := w) (base := base) FII TC0
    have mII := PySem.W.mg_of X G aII
    have GIP := ok_is_place (P := l.prog) (w := w) (base := base) FIP TC0 GII mII kII bII
    have mIP := PySem.W.mg_of X G aIP
    have GIS := ok_is_stretch (P := l.prog) (w := w) (base := base) FIS TC0 GII mII kII bII GIP mIP kIP bIP
    have GNS := ok_need (P := l.prog) (w := w) (base := base) FNS BT GIS (PySem.W.mg_of X G aIS) kIS bIS
    have GIn := ok_area_init (P := l.prog) (w := w) (base := base) FIn BT AT GNS (PySem.W.mg_of X G aNS) kNS bNS GII mII kII bII
    have GP3 := ok_area_end (P := l.prog) (w := w) (mg := mg) (base := base) FP3 AT
    have GEq := ok_area_eq (P := l.prog) (w := w) (base := base) FEq TC0 AT IT (PySem.W.mg_of X G aC) kt
    have GDr := ok_draw (P := l.prog) (w := w) (base := base) FDr TB0
    have mDr := PySem.W.mg_of X G aDr
    have GSt := ok_state (P := l.prog) (w := w) (base := base) FSt TB0
    have GPi := ok_pick (P := l.prog) (w := w) (base := base) FPi TB0 GDr mDr kDr bDr
    have mPi := PySem.W.mg_of X G aPi
    have GTh := ok_thing (P := l.prog) (w := w) (base := base) FTh TB0 GDr mDr kDr bDr GPi mPi kPi bPi
    have GWh := ok_whole (P := l.prog) (w := w) (base := base) FWh TC0
    have mWh := PySem.W.mg_of X G aWh
    have GLS := ok_lstretch (P := l.prog) (w := w) (base := base) FLS GWh mWh kWh bWh
    have GSh := ok_stretch (P := l.prog) (w := w) (base := base) FSh GDr mDr kDr bDr GPi mPi kPi bPi
    obtain ⟨ds1, hds1, bIn1⟩ := FIn.binds1 (ps := ["self", "begin", "many", "shift"]) 3 0 (by simp) rfl fun T kV doc pm an cdv ct us its hu hi => match us, its, hu, hi with | [_, _, _], [_], _, _ => ⟨_, rfl, rfl⟩
    obtain ⟨ds0, hds0, bIn0⟩ := FIn.binds1 (ps := ["self", "begin", "many", "shift"]) 4 1 (by simp) rfl fun T kV doc pm an cdv ct us its hu hi => match us, its, hu, hi with | [_, _, _, _], [_], _, _ => ⟨_, rfl, rfl⟩
    have e0 : ds0 = [] := by
      cases hds0
      rfl
    subst e0
    obtain ⟨its, kbA⟩ := FIn.kbindsD (ps := ["self", "begin", "many", "shift"]) 1 ["shift", "many", "begin"] (fun {α} us _ ws => us ++ ws.reverse) (by simp) (fun r1 _ r3 => r1.append (vals_rev r3)) fun T kV doc pm an cdv ct us its ws hu hi hw => match us, its, ws, hu, hi, hw with | [_], [_], [_, _, _], _, _, _ => ⟨_, rfl, rfl⟩
    have ar : ArM l.prog w K mg base C CB := ⟨AT, IT, PySem.W.mg_of X G aC, ⟨_, _, _, _, ⟨mk, aIn, iIn, kc⟩, GIn, bIn0, kbA, fun _ _ _ _ => rfl, ds1, hds1, bIn1⟩,
      ⟨p1, _, _, ⟨pap1, pbp1, pcp1, _, pdp1⟩, fn_getter lP1 cP1 scAB rfl rfl AT.cl n1, (fun_mk (st := sABegin) lP1 cP1 kP1).binds fun _ _ _ _ _ _ us hl => match us, hl with | [_], _ => rfl⟩,
      ⟨p2, _, _, ⟨pap2, pbp2, pcp2, _, pdp2⟩, fn_getter lP2 cP2 scAM rfl rfl AT.cl n2, (fun_mk (st := sAMany) lP2 cP2 kP2).binds fun _ _ _ _ _ _ us hl => match us, hl with | [_], _ => rfl⟩,
      ⟨p3, _, _, ⟨pap3, pbp3, pcp3, _, pdp3⟩, GP3, bP3⟩,
      ⟨p4, _, _, ⟨pap4, pbp4, pcp4, _, pdp4⟩, fn_getter lP4 cP4 scAS rfl rfl AT.cl n3, (fun_mk (st := sAShift) lP4 cP4 kP4).binds fun _ _ _ _ _ _ us hl => match us, hl with | [_], _ => rfl⟩,
      ⟨_, _, GEq, aEq, iEq, bEq⟩, ne, by simp [PySem.W.notFirst], by simp [PySem.W.notFirst, st]⟩
    have er : ErT K mg C CB CM := ⟨BT, PySem.W.mg_of X G aCM, PySem.W.mg_none_of X G zValueError, ⟨eg, eh, bB, ed, ec, cn, ct, em⟩, PySem.W.exm_ref mB mD mT mS, kv⟩
    have md : MadeAt K mg := ⟨_, _, _, _, _, _, _, _, _, _, _, PySem.W.mg_of X G aMa, kMa, lMa, cMa, bMa⟩
    have GRi := ok_right (P := l.prog) (w := w) (base := base) lRi cRi TC0 ar er (hTB (cR, Pc) (List.mem_singleton.mpr rfl)) md ⟨_, _, GLS, PySem.W.mg_of X G aLS, kLS, bLS⟩ ⟨_, _, GWh, mWh, kWh, bWh⟩
    exact ok_law (CM := CM) FLa TC0 (PySem.W.mg_none_of X G zrange) ar ⟨_, _, GSt, PySem.W.mg_of X G aSt, kSt, bSt⟩ ⟨_, _, GDr, mDr, kDr, bDr⟩ ⟨_, _, GPi, mPi, kPi, bPi⟩ ⟨_, _, GTh, PySem.W.mg_of X G aTh, kTh, bTh⟩ ⟨_, _, GSh, PySem.W.mg_of X G aSh, kSh, bSh⟩
      ⟨_, _, GLS, PySem.W.mg_of X G aLS, kLS, bLS⟩ ⟨_, _, GWh, mWh, kWh, bWh⟩ ⟨_, _, GRi, PySem.W.mg_of X G aRi, kRi, bRi⟩
end Bm
open PySem PySem.W PyProof.Rows
set_option maxRecDepth 100000 in
set_option maxHeartbeats 0 in
theorem PySem.Challenge.cw_backmaps_k01_areas_of_any_value_holds : PySem.Challenge.rw_backmaps_k01_areas_of_any_value.Holds := by
  w_on; o_law; k_head; (case hw => w_witness2)
  k_fill
  refine LamX.walk_ofTs (l := PySem.Challenge.rw_backmaps_k01_areas_of_any_value) (n := 63) (k := 10) (CX := fun _ => L2.CX0) (x := "_law_script") rfl (by decide) rfl ⟨rfl, by decide, by decide⟩ (fun w h Y => PySem.W.km_in_of Y) ?F (fun _ _ _ _ _ z => z)
  case F =>
    intro w mg fa h Y KX G hmg
    have hTabs := PySem.W.km_tabs_of Y
    refine' Bm.all_mk KX G hmg ?aC ?aCB ?aCM ?aPl ?zint ?zlen ?zabs ?zisinstance ?zbool ?zrange ?zValueError ?aII ?lII ?cII ?kII ?aIP ?lIP ?cIP ?kIP ?aIS ?lIS ?cIS ?kIS ?aNS ?lNS ?cNS ?kNS ?aSt ?lSt ?cSt ?kSt ?aDr ?lDr ?cDr ?kDr ?aPi ?lPi ?cPi ?kPi ?aTh ?lTh ?cTh ?kTh ?aWh ?lWh ?cWh ?kWh ?aLS ?lLS ?cLS ?kLS ?aMa ?lMa ?cMa ?kMa ?aRi ?lRi ?cRi ?kRi ?aSh ?lSh ?cSh ?kSh ?aLa ?lLa ?cLa ?kLa ?aIn ?iIn ?lIn ?cIn ?kIn ?lT0 ?pg ?hd ?po ?sa ?mk ?kc ?n1 ?n2 ?n3 ?pap1 ?pbp1 ?pcp1 ?pdp1 ?lP1 ?cP1 ?kP1 ?pap2 ?pbp2 ?pcp2 ?pdp2 ?lP2 ?cP2 ?kP2 ?pap3 ?pbp3 ?pcp3 ?pdp3 ?lP3 ?cP3 ?kP3 ?pap4 ?pbp4 ?pcp4 ?pdp4 ?lP4 ?cP4 ?kP4 ?aEq ?iEq ?lEq ?cEq ?kEq ?ne ?cc ?cn ?ct ?cm ?st ?kt ?xB ?kB ?bB ?tB ?eg ?eh ?ed ?ec ?em ?mB ?mD ?mT ?mS ?kv ?lcR ?h11 ?cT ?lP ?tT
    (case aC => k_is)
    (case aCB => k_is)
    (case aCM => k_is)
    (case aPl => k_is)
    (case zint => k_is)
    (case zlen => k_is)
    (case zabs => k_is)
    (case zisinstance => k_is)
    (case zbool => k_is)
    (case zrange => k_is)
    (case zValueError => k_is)
    (case aII => k_is)
    (case lII => k_is)
    (case cII => k_is)
    (case kII => k_is)
    (case aIP => k_is)
    (case lIP => k_is)
    (case cIP => k_is)
    (case kIP => k_is)
    (case aIS => k_is)
    (case lIS => k_is)
    (case cIS => k_is)
    (case kIS => k_is)
    (case aNS => k_is)
    (case lNS => k_is)
    (case cNS => k_is)
    (case kNS => k_is)
    (case aSt => k_is)
    (case lSt => k_is)
    (case cSt => k_is)
    (case kSt => k_is)
    (case aDr => k_is)
    (case lDr => k_is)
    (case cDr => k_is)
    (case kDr => k_is)
    (case aPi => k_is)
    (case lPi => k_is)
    (case cPi => k_is)
    (case kPi => k_is)
    (case aTh => k_is)
    (case lTh => k_is)
    (case cTh => k_is)
    (case kTh => k_is)
    (case aWh => k_is)
    (case lWh => k_is)
    (case cWh => k_is)
    (case kWh => k_is)
    (case aLS => k_is)
    (case lLS => k_is)
    (case cLS => k_is)
    (case kLS => k_is)
    (case aMa => k_is)
    (case lMa => k_is)
    (case cMa => k_is)
    (case kMa => k_is)
    (case aRi => k_is)
    (case lRi => k_is)
    (case cRi => k_is)
    (case kRi => k_is)
    (case aSh => k_is)
    (case lSh => k_is)
    (case cSh => k_is)
    (case kSh => k_is)
    (case aLa => k_is)
    (case lLa => k_is)
    (case cLa => k_is)
    (case kLa => k_is)
    (case aIn => k_is)
    (case iIn => k_is)
    (case lIn => k_is)
    (case cIn => k_is)
    (case kIn => k_is)
    (case lT0 => k_is)
    (case pg => k_is)
    (case hd => k_is)
    (case po => k_is)
    (case sa => k_is)
    (case mk => k_is)
    (case kc => k_is)
    (case n1 => k_is)
    (case n2 => k_is)
    (case n3 => k_is)
    (case pap1 => k_is)
    (case pbp1 => k_is)
    (case pcp1 => k_is)
    (case pdp1 => k_is)
    (case lP1 => k_is)
    (case cP1 => k_is)
    (case kP1 => k_is)
    (case pap2 => k_is)
    (case pbp2 => k_is)
    (case pcp2 => k_is)
    (case pdp2 => k_is)
    (case lP2 => k_is)
    (case cP2 => k_is)
    (case kP2 => k_is)
    (case pap3 => k_is)
    (case pbp3 => k_is)
    (case pcp3 => k_is)
    (case pdp3 => k_is)
    (case lP3 => k_is)
    (case cP3 => k_is)
    (case kP3 => k_is)
    (case pap4 => k_is)
    (case pbp4 => k_is)
    (case pcp4 => k_is)
    (case pdp4 => k_is)
    (case lP4 => k_is)
    (case cP4 => k_is)
    (case kP4 => k_is)
    (case aEq => k_is)
    (case iEq => k_is)
    (case lEq => k_is)
    (case cEq => k_is)
    (case kEq => k_is)
    (case ne => k_is)
    (case cc => k_is)
    (case cn => k_is)
    (case ct => k_is)
    (case cm => k_is)
    (case st => k_is)
    (case kt => kit_is)
    (case xB => k_exc)
    (case kB => k_is)
    (case bB => k_is)
    (case tB => k_is)
    (case eg => k_is)
    (case eh => k_is)
    (case ed => k_is)
    (case ec => k_is)
    (case em => k_is)
    (case mB => k_is)
    (case mD => k_is)
    (case mT => k_is)
    (case mS => k_is)
    (case kv => kit_is)
    (case lcR => k_is)
    (case h11 => rfl)
    (case cT => kernel_rfl)
    (case lP => kernel_rfl)
    (case tT => exact hTabs _ (by k_mem))
