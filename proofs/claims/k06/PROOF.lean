import PyProof.Rows.All
import Wide.All
import OpenK.AllK
import Wide.FinOn
import HandS.ForMost
import HandS.ForExc
import HandS.Lambda
import HandS.EndTab
import HandS.IsInst
import HandS.ExcValue
import HandS.ExcIs
import PyProof.FactsAll.object_2
import PyProof.InstNe
import KE.KExcIs
import HandS.ExcInit
import HandS.ExcField
import KE.KExcSuper
import PyProof.ReprRoads
import HandS.Defaults
import HandS.MakeKwOnly
import HandS.SetFor
import HandS.OwnEq
import PyProof.DictUpdate
import HandS.DictComp
import HandS.DeepEq
import HandS.Walk
import HandS.Flow
import HandS.Property
import HandS.MakeKw
import KE.KSortedM
import KE.KEqSeq
import PySem.Challenge.RW_backmaps_k06_areas_and_plain_memories_by
set_option Elab.async false
set_option linter.all false
set_option maxRecDepth 100000
set_option maxHeartbeats 4000000
/-! further rules: a caught exception kept as a value; isinstance of it; == and != by an own __eq__ with either answer -/
namespace L3
open PySem PySem.Spec PyProof.Rows L2

/-- an exception object of the class cls, its own dict at d, held as a value -/
def ExV (cls : Value) (d : Option Addr) (a : Addr) : HO := .ext fun h => ∃ (oe : Obj) (vs : Array Value), h.get? a = some oe ∧ Zc cls d oe ∧ oe.data = .fields vs
theorem exV_ok {P : Program} {w : World} {H : Hp} {h : Heap} {a : Addr} {cls : Value} {d : Option Addr} {oe : Obj} {vs : Array Value} (e : h.get? a = some oe) (z : Zc cls d oe) (hd : oe.data = .fields vs) : ObjOk P w H h a (ExV cls d a) :=
  ⟨⟨oe, vs, e, z, hd⟩, ⟨oe, e⟩, fun _ _ ⟨o, v, q, r⟩ k => ⟨o, v, k o q, r⟩⟩
section
variable {X : Cx} {pins : List (Addr × Obj)} {σ : L2.St} {H : Hp} {s sI : Shared}
/-- an object that is new since sI is tracked from now on -/
theorem track (J : Inv X pins σ H s) (JI : Inv X pins σ H sI) {a : Addr} {oe : Obj} {vs : Array Value} {cls : Value} {d : Option Addr} (na : H a = none) (new : sI.heap.get? a = none) (he : s.heap.get? a = some oe) (hz : Zc cls d oe) (hd : oe.data = .fields vs) :
    Inv X pins σ (upd H a (ExV cls d a)) s := by
  have nI : ∀ b o, sI.heap.get? b = some o → b ≠ a := fun b o e z => by
    rw [z, new] at e
    cases e
  have nH : ∀ b u, H b = some u → b ≠ a := fun b u e => ne_of_none e na
  refine ⟨J.ok, J.os, J.bare, ⟨J.base.keep, J.base.slot, fun b o e n hx => ?_, J.base.there, fun b xs e => ?_, fun b o u e => ?_, fun b ps e => ?_⟩, J.loc, J.cell, ?_, fun x c e => ?_, fun p hp => ?_, ?_, J.len⟩
  · obtain ⟨o', e'⟩ := JI.base.there b o e hx
    rw [upd_ne (nI b o' e')]
    exact J.base.free b o e n hx
  · have q := J.base.tups b xs e
    rw [upd_ne (nH b _ q)]
    exact q
  · have q := J.base.frzs b o u e
    rw [upd_ne (nH b _ q)]
    exact q
  · obtain ⟨m, q⟩ := J.base.tbls b ps e
    exact ⟨m, by rw [upd_ne (nH b _ q)]; exact q⟩
  · obtain ⟨m, ⟨o, es, ep, ho, r⟩, _⟩ := JI.loc
    rw [upd_ne (nI _ _ ho)]
    exact J.free
  · obtain ⟨v, o, ho, _⟩ := JI.cell x c e
    rw [upd_ne (nI _ _ ho)]
    exact J.freeC x c e
  · obtain ⟨e1, _⟩ := JI.pin p hp
    obtain ⟨g1, g2, g3, g4, g5⟩ := J.pin p hp
    exact ⟨g1, by rw [upd_ne (nI _ _ e1)]; exact g2, g3, g4, g5⟩
  · exact J.hok.laidN (fun _ _ e => e) na (exV_ok he hz hd)
/-- an exception in the air at a, from here on an object of the abstract heap: what an except clause's suite starts from -/
theorem kept_at (hs : X.stack = X.env :: X.outer) {B : Heap} {sI : Shared} {a : Addr} {cls : Value} {d : Option Addr} (I : Inv X pins σ H sI) (old : ∀ b o, sI.heap.get? b = some o → b ∉ frs X.stack → B.get? b = some o)
    (fly : HandSPX.FlyingZ B (X.env :: X.outer) a (Zc cls d) s.heap) (up : sI.heap.UpToSlots s.heap) (ho : s.os = sI.os) (hb : AllBare s.gens) (na : H a = none) :
    Inv (X.suite a (X.pn ++ pins)) [] σ (upd H a (ExV cls d a)) s := by
  obtain ⟨oe, vs, he, hz, hd⟩ := fly.there
  have off : a ∉ frs X.stack := by
    rw [hs]
    intro hm
    obtain ⟨_, o, e, bad⟩ := fly.2.2.1.mem hm
    cases he.symm.trans e
    exact bad vs hd
  have fresh : sI.heap.get? a = none := Option.eq_none_iff_forall_ne_some.mpr fun o e => by
    have z := old a o e off
    rw [fly.2.1] at z
    cases z
  have K := track (I.landed old fly.1 up ho hb) I na fresh he hz hd
  exact { ok := K.ok.suite _ _, os := K.os, bare := K.bare, base := K.base, loc := K.loc, cell := K.cell, free := K.free, freeC := K.freeC, pin := fun p hp => K.pin p (by simpa using hp), hok := K.hok, len := K.len }
/-- behind the suite -/
theorem out_of_suite {a : Addr} {rest : List (Addr × Obj)} (ok : X.Ok) (K : Inv (X.suite a (X.pn ++ pins)) rest σ H s) : Inv X pins σ H s where
  ok := ok
  os := K.os
  bare := K.bare
  base := K.base
  loc := K.loc
  cell := K.cell
  free := K.free
  freeC := K.freeC
  pin := fun p hp => K.pin p (List.mem_append.mpr (.inl hp))
  hok := K.hok
  len := K.len
end
/-- the ends of an except clause's suite: the name at i goes -/
def goes (i : Nat) (D : Ends) : Ends := ⟨fun τ G => D.nx (τ.set i none) G, D.rt, fun τ G => D.bk (τ.set i none) G, fun τ G => D.ct (τ.set i none) G⟩
/-- what 'except x as n' wishes, if it catches all that the body raises, and the exception is held as a value from the suite on; n is at the slot i of m -/
def wTrk (K : PySem.W.Frag) (c : Value) (i m : Nat) (ts : Addr → TS) (D : Ends) : WX := fun cls d τ G => τ.length = m → PySem.W.exmOne K cls c = some true ∧ ∀ a, G a = none → ts a (goes i D) (τ.set i (some (.ref a))) (upd G a (ExV cls d a))
section
variable {X : Cx} {x n : Str} {c : Value} {i : Nat} {body suite : List Stmt} {b₀ : Stmt} {np pos pos' : Pos} {tb : WX → TS} {ts : Addr → TS}
/-- the clause, at an exception that flies -/
theorem clause_trk {pins : List (Addr × Obj)} {D : Ends} {e : Value} {s₁ : Shared} (ok : X.Ok) (hs : X.stack = X.env :: X.outer) (hf : X.env.frame = some X.env.locals) (hN : X.N.Nodup) (hi : X.N[i]? = some n) (hln : X.env.kindOf n = some .local) (hc : Names X x c)
    (hsu : ∀ (a : Addr) (pn : List (Addr × Obj)), PSs (X.suite a pn) (b₀ :: suite) (ts a)) {xe : Value → Shared → Prop} (air : XE (X.tr (X.pn ++ pins) xe) (wTrk X.K c i X.N.length ts D) e s₁) :
    wpAny (model X.prog X.w) X.A (noteFrame e X.env) (fun _ s₂ => wpAny (model X.prog X.w) X.A (setFlight e none) (fun _ s₃ => wpAny (model X.prog X.w) X.A (handleBy e X.env [.ExceptHandler (some (.Name x np)) (some n) (b₀ :: suite) pos']) (SP X pins D) X.xe s₃) X.xe s₂) X.xe s₁ := by
  have off : ∀ {σ₆ : L2.St} {H₆ : Hp} {s₆ : Shared} {Q : Shared → Prop} {a : Addr}, Inv (X.suite a (X.pn ++ pins)) [] σ₆ H₆ s₆ → (∀ s₇, Inv X pins (σ₆.set i none) H₆ s₇ → Q s₇) →
      wpAny (model X.prog X.w) X.A (do bindName X.env n .none; unbindBehindTheSuite X.env n pos') (fun _ s₇ => Q s₇) X.xe s₆ := fun K q => gone_ok (out_of_suite ok K) hN hi hln q
  rcases air with ⟨a, B, sI, rest, τ, G, cls, d, rfl, J', old, up, sky, na, ho, hb, wish⟩
  have J := J'.ofTry ok
  obtain ⟨mt, run⟩ := wish J'.len
  have kept := fun (h : Heap) (fl : HandSPX.FlyingZ B (X.env :: X.outer) a (Zc cls d) h) (u : sI.heap.UpToSlots h) => kept_at (s := { s₁ with heap := h }) hs J old fl u ho hb na
  apply Sky.land Zc.steady (ok.frames.trans (congrArg some hs)) hf (by rw [← hs]; exact sky)
  intro h₃ fly₃ up₃
  have K₃ := kept h₃ fly₃ (up.trans up₃)
  obtain ⟨oe, vs, he, hz, _⟩ := fly₃.there
  apply wpAny_handleBy_cons (codeAny_handlers_test ?_) (by intro q; cases q)
  have ask := PySem.W.exm_one (M := model X.prog X.w) K₃.kIn (e := a) (fun A Q E s k q => wpAny_typeOf_ref (k _ _ he) (hz.1.symm ▸ q)) mt
  have name : ∀ {Q : Value → Shared → Prop} {E : Value → Shared → Prop}, Q c { s₁ with heap := h₃ } → wpAny (model X.prog X.w) (X.A.mark (some (.ref a))) (eval (.Name x np) X.env) Q E { s₁ with heap := h₃ } := by
    intro Q E q
    rcases hc with ⟨hg, nd, own | ⟨no, bb, nn⟩⟩
    · exact ld_glob (X := X.suite a (X.pn ++ pins)) K₃ hg own q nd
    · exact ld_blt (X := X.suite a (X.pn ++ pins)) K₃ hg no bb q nn nd
  apply name
  apply ask.here
  apply codeAny_handlers_suite_as
  apply HandSPX.lands_againZ fly₃
  intro h₄ fly₄ up₄
  apply store_ok (X := X.suite a (X.pn ++ pins)) (v := .ref a) (kept h₄ fly₄ ((up.trans up₃).trans up₄)) hN hi (.inl hln) rfl _ (.inr hln)
  intro s₅ K₅
  apply wpAny_mono ((hsu a (X.pn ++ pins)).run [] s₅ _ _ _ K₅ (run a na)) _ fun _ _ z => z.elim
  intro f s₆ e₆
  cases f with
  | ret u =>
    obtain ⟨v, _, _, K, r, q⟩ := e₆
    exact off K fun _ J₇ => ⟨v, _, _, J₇, r, q⟩
  | next => exact (match e₆ with | ⟨_, _, K, q⟩ => off K fun _ J₇ => ⟨_, _, J₇, q⟩)
  | brk => exact (match e₆ with | ⟨_, _, K, q⟩ => off K fun _ J₇ => ⟨_, _, J₇, q⟩)
  | cont => exact (match e₆ with | ⟨_, _, K, q⟩ => off K fun _ J₇ => ⟨_, _, J₇, q⟩)
/-- try: body / except x as n: suite, where x catches all that the body raises -/
theorem ps_try_trk (hs : X.stack = X.env :: X.outer) (hf : X.env.frame = some X.env.locals) (hN : X.N.Nodup) (hi : X.N[i]? = some n) (hln : X.env.kindOf n = some .local) (hc : Names X x c)
    (hb : ∀ (W : WX) (pn : List (Addr × Obj)) (xe : Value → Shared → Prop), Takes (X.tr pn xe) W → PassesOwn (model X.prog X.w) X.A X.env xe → PSs (X.tr pn xe) body (tb W))
    (hsu : ∀ (a : Addr) (pn : List (Addr × Obj)), PSs (X.suite a pn) (b₀ :: suite) (ts a)) :
    PS X (.Try body [.ExceptHandler (some (.Name x np)) (some n) (b₀ :: suite) pos'] [] [] pos) (fun D τ G => tb (wTrk X.K c i X.N.length ts D) D τ G) where
  run pins s τ G D I h := by
    apply wpAny_Try_except
    refine wpAny_mono ((hb (wTrk X.K c i X.N.length ts D) (X.pn ++ pins) _ (fun _ _ air => clause_trk I.ok hs hf hN hi hln hc hsu air) PassesOwn.looking).run [] s τ G D (I.toTry _) h) ?_ fun _ _ r => r
    intro f s₁ e₁
    cases f with
    | ret u => exact (match e₁ with | ⟨v, _, _, K, r, q⟩ => ⟨v, _, _, K.ofTry I.ok, r, q⟩)
    | next => exact (match e₁ with | ⟨_, _, K, q⟩ => wpAny_execs_nil ⟨_, _, K.ofTry I.ok, q⟩)
    | brk => exact (match e₁ with | ⟨_, _, K, q⟩ => ⟨_, _, K.ofTry I.ok, q⟩)
    | cont => exact (match e₁ with | ⟨_, _, K, q⟩ => ⟨_, _, K.ofTry I.ok, q⟩)
end
end L3
namespace L3
open PySem PySem.Spec PyProof.Rows L2
/-! ### isinstance of any of these -/
/-- what x is: a value of a kind that TyX tells, or a kept exception of an own class -/
inductive TyV (K : PySem.W.Frag) (H : Hp) : V → Value → Prop where
  | base {x : V} {t : Value} (h : TyX K H x t) : TyV K H x t
  | exc {a D : Addr} (h : H a = some (ExV (.ref D) none a)) (c : L2.ExcC K D) : TyV K H (.ref a) (.ref D)
  | excd {a D dd : Addr} {fs : List (Str × V)} (h : H a = some (ExV (.ref D) (some dd) a)) (hd : H dd = some (.xd fs)) (c : L2.ExcC K D) (hno : ¬ ("__class__" : Str) ∈ fs.map (·.1)) : TyV K H (.ref a) (.ref D)
def rIsV (K : PySem.W.Frag) : List V → Hp → VK → Prop := fun xs H Q => ∃ (x c : V) (t u : Value) (b : Bool), xs = [x, c] ∧ ClsV c u ∧ TyV K H x t ∧ PySem.W.kitOne K t u = some b ∧ Q (.bl b) H
theorem excC_kit {K : PySem.W.Frag} {D x : Addr} {ox : Obj} {od : Option Obj} (c : L2.ExcC K D) : PySem.W.KitX K (.ref x) (.ref D) (fun h => PySem.W.InstAt h x ox D od) :=
  PySem.W.kitx_exc (by obtain ⟨cd, hc, _⟩ := PySem.W.any_some c.hd; rw [hc]; rfl) c.hg c.hk c.hs c.ha c.hn c.ht c.hm
section
variable {X : Cx} {pins : List (Addr × Obj)} {σ : L2.St} {H : Hp} {s : Shared}
theorem exv_inst (I : Inv X pins σ H s) {a D : Addr} (h : H a = some (ExV (.ref D) none a)) : ∃ ox, PySem.W.InstAt s.heap a ox D none := by
  obtain ⟨⟨oe, vs, e, z, hd⟩, _, _⟩ := I.hok a _ h
  refine ⟨oe, ?_⟩
  obtain ⟨oc, od, oda, osl⟩ := oe
  obtain ⟨h1, h2⟩ := z
  dsimp only at h1 h2 hd
  subst h1 h2 hd
  exact ⟨e, rfl, rfl, trivial⟩
theorem exv_instd (I : Inv X pins σ H s) {a D dd : Addr} {fs : List (Str × V)} (h : H a = some (ExV (.ref D) (some dd) a)) (hd : H dd = some (.xd fs)) : ∃ ox od, PySem.W.InstAt s.heap a ox D (some od) ∧ s.heap.get? dd = some od := by
  obtain ⟨⟨oe, vs, e, z, hdt⟩, _, _⟩ := I.hok a _ h
  obtain ⟨mA, ⟨od, es, ep, e2, r⟩, _⟩ := (show ObjOk X.prog X.w H s.heap dd (.xd fs) from I.hok dd _ hd)
  refine ⟨oe, od, ?_, e2⟩
  obtain ⟨oc, o2, oda, osl⟩ := oe
  obtain ⟨h1, h2⟩ := z
  dsimp only at h1 h2 hdt
  subst h1 h2 hdt
  exact ⟨e, rfl, rfl, e2⟩
/-- what the library's isinstance rules ask -/
theorem kitV_of {x : V} {u t : Value} (I : Inv X pins σ H s) (rx : RelV x u) (ty : TyV X.K H x t) : ∃ P : Heap → Prop, PySem.W.KitX X.K u t P ∧ P s.heap ∧ u ≠ .builtin "__main__.__loader__#opaque" := by
  cases ty with
  | base h => exact kit_of I rx h
  | @exc a D h c =>
    obtain rfl : u = .ref a := rx
    obtain ⟨ox, J⟩ := exv_inst I h
    exact ⟨_, excC_kit c, J, fun z => nomatch z⟩
  | @excd a D dd fs h hd c hno =>
    obtain rfl : u = .ref a := rx
    obtain ⟨ox, od, J, _⟩ := exv_instd I h hd
    exact ⟨_, excC_kit c, J, fun z => nomatch z⟩
end
theorem call_isV {X : Cx} : CallR X (.builtin "isinstance") (rIsV X.K) := by
  rintro pins s σ H xs us Q I r ⟨x, c, t, u, b, rfl, k, ty, e, q⟩
  obtain ⟨_, _, rfl, r1, r2⟩ := vals2 r
  have e2 := k.eq r2
  subst e2
  obtain ⟨P, Z, p, hx⟩ := kitV_of I r1 ty
  exact PySem.W.kia_one Z I.kIn p e hx fun n => ⟨.bl b, H, I.tok n, rfl, q⟩
/-! ### == and != by an own __eq__ -/
/-- x == y, x an instance of the class at C whose __eq__ is the text's own -/
def rOwnEq (K : PySem.W.Frag) (C : Addr) (sp : Sp) (E : XK) (neg : Bool) : R2 := fun x y H Q => ∃ (a dx : Addr) (fs : List (Str × V)) (tb : Value), x = .ref a ∧ H a = some (.ins C dx fs) ∧ TyV K H y tb ∧ PySem.W.notFirst K C tb = true ∧
  sp [x, y] H (fun v H' => ∃ b, v = .bl b ∧ Q (.bl (if neg then !b else b)) H') E
section
variable {prog : Program} {w : World} {A : Around} {E : Value → Shared → Prop} {s : Shared} {K : PySem.W.Frag} {x C L f : Addr} {h₀ : Heap} {m : Str → Option Value} {ox : Obj} {od : Option Obj} {name : Str} {b tb : Value}
open PySem.W in
/-- a special method that the class has as a builtin is called with the instance ahead -/
theorem ifBound_B {M : Model} {id : String} {args : List Value} {Q : Option Value → Shared → Prop} (X : K.In s.heap) (I : InstAt s.heap x ox C od) (hs : findIn K (.ref C) name = some (some (.builtin id))) (hb : ∀ self, bindSpecial (.builtin id) self = pure (.builtin id, [self]))
    (h : wpAny M A (call (.builtin id) (.ref x :: args)) (fun v => Q (some v)) E s) : wpAny M A (callSpecialIfBound? (.ref x) name args) Q E s := by
  have ended : wpAny M A (call (.builtin id) ([.ref x] ++ args) >>= fun v => pure (some v)) Q E s :=
    wpAny_bind (wpAny_mono h (fun _ _ => wpAny_pure) fun _ _ e => e)
  unfold callSpecialIfBound? bindSpecialIfBound?
  apply wpAny_holding
  iterate 3 apply wpAny_bind
  apply I.type.here
  apply (looks_findIn X hs).here
  apply wpAny_bind
  apply wpAny_askSetting
  apply wpAny_ite
  split <;> rw [hb]
  all_goals repeat (first | exact ended | apply wpAny_tryCatch | apply wpAny_bind | apply wpAny_pure)
open PySem.W in
/-- object.__ne__ of an instance whose __eq__ is the text's own -/
theorem objNe_own {Q : Fin → Shared → Prop} (X : K.In s.heap) (I : InstAt s.heap x ox C od) (hu : A.units < cLine) (hs : findIn K (.ref C) "__eq__" = some (some (.ref f))) (hf : isFn K (.ref f) = true)
    (h : wpAny (model prog w) A (call (.ref f) [.ref x, b]) (fun v s' => ∃ r, v = .bool r ∧ Q (.done (.ret (.bool (!r)))) s') E s) :
    wpAny (model prog w) A (Builtin.«object.__ne__» ⟨[.ref x, b], []⟩) Q E s := by
  have eqd := fun (R : Option Value → Shared → Prop) (z : ∀ r s', Q (.done (.ret (.bool (!r)))) s' → R (some (.bool r)) s') =>
    ifBound_K (args := [b]) (Q := R) X I hs hf (wpAny_mono h (fun _ s' ⟨r, e, q⟩ => e ▸ z r s' q) fun _ _ e => e)
  unfold Builtin.«object.__ne__»
  repeat (first
    | (with_reducible apply wpAny_cRoomFor hu)
    | (apply wpAny_bind (m := callSpecialIfBound? (.ref x) (Str.ofString "__eq__") [b]); apply eqd; intro r s' q)
    | exact q
    | exact wpAny_pure q
    | exact wpAny_truthy_bool q
    | (apply wpAny_bind (m := truthy (.bool _)); apply wpAny_truthy_bool)
    | wp_step)
open PySem.W in
/-- the comparison's own answer, where the left side is asked first and answers -/
theorem asked_first {Q : Value → Shared → Prop} (hu : A.units < cLine) (X : K.In s.heap) (I : InstAt s.heap x ox C od) (hb : Looks (model prog w) s.heap (typeOf b) tb) (hn : notFirst K C tb = true)
    (one : wpAny (model prog w) A (tryCompare (.ref x) (cmpInfo .NotEq).2.1 b) (fun r s' => ∃ v, r = some v ∧ Q v s') E s) : wpAny (model prog w) A (richCompare .NotEq (.ref x) b) Q E s := by
  have no : (tb != .ref C) = true → subIn K tb (.ref C) = some false := fun z => by
    have hn' : (tb == .ref C || subIn K tb (.ref C) == some false) = true := hn
    rw [show (tb == .ref C) = false from by simpa [bne] using z, Bool.false_or] at hn'
    exact beq_iff_eq.mp hn'
  have rest := fun (k : Option Value → Sem Value) (hk : ∀ v, k (some v) = pure v) => wpAny_bind (f := k) (wpAny_mono one (fun r s' ⟨v, e, q⟩ => show wpAny (model prog w) A (k r) Q E s' by rw [e, hk]; exact wpAny_pure q) fun _ _ e => e)
  simp only [richCompare, oneThing_ref]
  apply wpAny_holding
  apply wpAny_bind
  apply wpAny_cRoomFor hu
  apply wpAny_bind
  apply I.type.here
  apply wpAny_bind
  apply hb.here
  by_cases q : (Value.ref C != tb) = true
  · rw [if_pos q]
    apply wpAny_bind
    apply (looks_subIn X (no (bne_comm.trans q))).here
    exact rest _ fun _ => rfl
  · rw [if_neg q]
    exact wpAny_bind (wpAny_pure (rest _ fun _ => rfl))
open PySem.W in
theorem cmp_neOwn {Q : Value → Shared → Prop} (hu : A.units + 1 < cLine) (X : K.In s.heap) (I : InstAt s.heap x ox C od) (hb : Looks (model prog w) s.heap (typeOf b) tb) (hn : notFirst K C tb = true) (hs : findIn K (.ref C) "__eq__" = some (some (.ref f))) (hf : isFn K (.ref f) = true)
    (hsN : findIn K (.ref C) "__ne__" = some (some (.builtin "object.__ne__"))) (hm : mroIn K C (.type "object") = some true)
    (h : wpAny (model prog w) A.in1 (call (.ref f) [.ref x, b]) (fun v s' => ∃ r, v = .bool r ∧ Q (.bool (!r)) s') E s) : wpAny (model prog w) A (richCompare .NotEq (.ref x) b) Q E s := by
  apply asked_first (Nat.lt_of_succ_lt hu) X I hb hn
  unfold tryCompare
  apply wpAny_bind
  apply ifBound_B X I hsN F.slot_object_ne.bind
  apply wpAny_call (codeAny_call_builtin F.slot_object_ne.plain F.cmpEntry_ne (check_slot F.cmpKind_ne F.cmpSplit_ne (I.type.andThen (looks_mroIn X hm)) (F.cmpArgs_ne _ _) _))
  exact objNe_own X I (A := A.in1) hu hs hf (wpAny_mono h (fun _ _ ⟨r, e, q⟩ => ⟨r, e, wpAny_pure ⟨_, rfl, q⟩⟩) fun _ _ e => e)
end
section
variable {X : Cx} {CX : CXT} {n : Nat} {C f : Addr} {fd : FuncData} {ps : List Str} {sp : Sp} {E : XK}
/-- the call of an own __eq__ that answers with a bool -/
theorem call_eq {A' : Around} {pins : List (Addr × Obj)} {s : Shared} {σ : L2.St} {H : Hp} {a : Addr} {y : V} {u : Value} {Q : Bool → Hp → Prop} (F : FnOk X.prog X.w X.K X.mg X.base CX n f fd ps sp) (hb : L2.Binds X.K fd ps []) (hx : Passes CX X E) (I : Inv X pins σ H s) (ry : RelV y u)
    (hr : Room n A') (he : Env0 X.prog X.w X.K X.mg X.base A' X.stack s H) (hsp : sp [.ref a, y] H (fun v H' => ∃ b, v = .bl b ∧ Q b H') E) :
    wpAny (model X.prog X.w) A' (call (.ref f) [.ref a, u]) (fun v s' => ∃ b, v = .bool b ∧ ∃ H', Inv X pins σ H' s' ∧ Q b H') X.xe s := by
  have bound := hb s [.ref a, u] I.kIn (by simpa using F.len _ _ _ _ hsp)
  apply wpAny_call (codeAny_mono (F.run A' X.stack s H ⟨[.ref a, u], []⟩ [.ref a, u] [.ref a, y] _ E hr he (by simpa using bound) (.cons rfl (.cons ry .nil)) hsp) _)
  rintro (e | fl) s' hq
  · exact hx pins σ H s e s' I hq
  · cases fl with
    | ret v =>
      obtain ⟨_, H', I', rz, b, rfl, q⟩ := I.after hq
      exact ⟨b, rz, H', I', q⟩
    | _ => exact hq.elim
theorem op_eqOwn (F : FnOk X.prog X.w X.K X.mg X.base CX n f fd ps sp) (hs : PySem.W.findIn X.K (.ref C) "__eq__" = some (some (.ref f))) (hf : PySem.W.isFn X.K (.ref f) = true) (hb : L2.Binds X.K fd ps []) (hx : Passes CX X E) (hr : Room n X.A) :
    OpR X (compareOp .Eq) (rOwnEq X.K C sp E false) := by
  rintro pins s σ H x y v u Q I rx ry ⟨a, dx, fs, tb, rfl, ha, ty, hn, hsp⟩
  cases rx
  obtain ⟨_, ⟨od, J, _⟩⟩ := (ins_get I.hok ha).imp fun _ z => z.1.look
  obtain ⟨P, Z, p, _⟩ := kitV_of I ry ty
  obtain ⟨m, hF⟩ := I.fr
  exact PySem.W.cmp_K (op := .Eq) (tb := tb) hr.units0 hF I.ok.mod.kin J (Z.ty _ _ I.kIn p) hn hs hf
    (wpAny_mono (call_eq F hb hx I ry hr I.env0 hsp) (fun _ _ ⟨b, e, H', I', q⟩ => e ▸ ⟨.bl b, H', I', rfl, q⟩) fun _ _ e => e)
theorem op_neOwn (F : FnOk X.prog X.w X.K X.mg X.base CX n f fd ps sp) (hs : PySem.W.findIn X.K (.ref C) "__eq__" = some (some (.ref f))) (hf : PySem.W.isFn X.K (.ref f) = true) (hsN : PySem.W.findIn X.K (.ref C) "__ne__" = some (some (.builtin "object.__ne__")))
    (hm : PySem.W.mroIn X.K C (.type "object") = some true) (hb : L2.Binds X.K fd ps []) (hx : Passes CX X E) (hr : Room (n + 1) X.A) :
    OpR X (compareOp .NotEq) (rOwnEq X.K C sp E true) := by
  rintro pins s σ H x y v u Q I rx ry ⟨a, dx, fs, tb, rfl, ha, ty, hn, hsp⟩
  cases rx
  obtain ⟨_, ⟨od, J, _⟩⟩ := (ins_get I.hok ha).imp fun _ z => z.1.look
  obtain ⟨P, Z, p, _⟩ := kitV_of I ry ty
  exact cmp_neOwn (by have := hr.un; omega) I.kIn J (Z.ty _ _ I.kIn p) hn hs hf hsN hm
    (wpAny_mono (call_eq F hb hx I ry hr.in1 I.env0.in1 hsp) (fun _ _ ⟨b, e, H', I', q⟩ => ⟨b, e, .bl (!b), H', I', rfl, q⟩) fun _ _ e => e)
end
end L3
set_option maxRecDepth 100000
set_option maxHeartbeats 4000000
/-! promises that hold where nothing is being shown yet (no guards): calls of such defs, and the law's end -/
namespace L3
open PySem PySem.Spec PyProof.Rows L2 LamX
/-- a def's promise, where no object is being shown -/
structure FnG (P : Program) (w : World) (K : PySem.W.Frag) (mg : Str → Option Value) (base : Heap) (CX : CXT) (k : Nat) (f : Addr) (fd : FuncData) (ps : List Str) (sp : Sp) : Prop where
  len : ∀ vs H Q E, sp vs H Q E → vs.length = ps.length
  run : ∀ (A : Around) (outer : List Env) (s : Shared) (H : Hp) (args : Args) (us : List Value) (vs : List V) (Q : VK) (E : XK), A.guards = some [] → Room k A → Env0 P w K mg base A outer s H → BindsTo s fd args (ps.zip us) → Vals vs us → sp vs H Q E →
    codeAny (model P w) A (.call (.ref f) args) (CR CX outer P w H s Q E) s
theorem FnG.of {P : Program} {w : World} {K : PySem.W.Frag} {mg : Str → Option Value} {base : Heap} {CX : CXT} {k : Nat} {f : Addr} {fd : FuncData} {ps : List Str} {sp : Sp} (F : FnOk P w K mg base CX k f fd ps sp) : FnG P w K mg base CX k f fd ps sp :=
  ⟨F.len, fun A outer s H args us vs Q E _ => F.run A outer s H args us vs Q E⟩
section
variable {X : Cx} {CX : CXT} {k : Nat} {f : Addr} {fd : FuncData} {ps : List Str} {sp : Sp} {E : XK} {ds : List Value} {dvs : List V}
theorem run_g {pins : List (Addr × Obj)} {σ : L2.St} {H : Hp} {s : Shared} {Q : VK} {us : List Value} {vs : List V} (F : FnG X.prog X.w X.K X.mg X.base CX k f fd ps sp) (gd : X.A.guards = some []) (hr : Room k X.A) (hb : L2.Binds X.K fd ps ds) (hd : Vals dvs ds) (hx : Passes CX X E)
    (I : Inv X pins σ H s) (r : Vals vs us) (h : sp (vs ++ dvs) H Q E) : wpAny (model X.prog X.w) X.A (call (.ref f) us) (EP X pins σ Q) X.xe s := by
  have all : Vals (vs ++ dvs) (us ++ ds) := r.append hd
  have long : (us ++ ds).length = ps.length := all.length ▸ F.len _ _ _ _ h
  apply wpAny_call
  refine codeAny_mono (F.run X.A X.stack s H ⟨us, []⟩ _ _ Q E gd hr I.env0 (hb s us I.kIn long) all h) ?_
  rintro (e | fl) s' hq
  · exact hx pins σ H s e s' I hq
  · cases fl with
    | ret u => exact I.after hq
    | _ => exact hq.elim
/-- f(e, ..) -/
theorem pe_callG {x : Str} {p pos : Pos} {e : Expr} {es : List Expr} {t : TA} (F : FnG X.prog X.w X.K X.mg X.base CX k f fd ps sp) (gd : X.A.guards = some []) (hr : Room k X.A) (hg : Gl X x) (hm : X.mg x = some (.ref f)) (hk : PySem.W.keepIn X.K (.ref f) = true) (hb : L2.Binds X.K fd ps ds) (hd : Vals dvs ds) (hx : Passes CX X E)
    (ha : PA X (e :: es) t) (hdb : (x == ("__debug__" : Str)) = false := by decide) (he : starEach (e :: es) X.env = (false, eval e X.env) :: starEach es X.env := by rfl) (hpl : (backTo pos (starEach es X.env)).any (·.1) = false := by rfl) :
    PE X (.Call (.Name x p) (e :: es) [] pos) (tCall sp dvs E t) where
  run pins s σ H Q I h := by
    apply wpAny_Call_Name_kw
    apply ld_glob I hg hm _ hdb
    refine PySem.W.callWith_K (h₀ := X.base) I.ok.mod.kin hk (thn (ha.run pos pins s σ H _ I h) ?_) he hpl
    rintro us s₁ ⟨vs, H₁, I₁, r, q⟩
    exact ⟨I₁.kIn, run_g F gd hr hb hd hx I₁ r q⟩
end
/-- a def whose body's readings want that nothing is being shown -/
theorem fn_g {CX : CXT} {P : Program} {w : World} {K : PySem.W.Frag} {mg : Str → Option Value} {base : Heap} {k : Nat} {f : Addr} {name qual : Str} {params : Arguments} {body : List Stmt} {scope : Scope} {dV kV doc pm cdv ct oc : Value} {an od : Option Addr} {osl : Array (Option Value)} {N ps : List Str} {sp : Sp}
    (lk : K.lookup f = some ⟨oc, od, .func (PySem.W.fnOf name qual params body scope dV kV doc pm an cdv ct), osl⟩) (hcd : PySem.W.codeIn K cdv qual = true) (S : FnScope N ps scope) (hl : ∀ vs H Q E, sp vs H Q E → vs.length = ps.length)
    (h : ∀ (A : Around) (outer : List Env) (s : Shared) (H : Hp) (vs : List V) (Q : VK) (E : XK), (A.deeper (envOfC qual scope s.heap.objs.size f cdv)).guards = some [] → Room k (A.deeper (envOfC qual scope s.heap.objs.size f cdv)) → sp vs H Q E →
      ∃ t, PSs (cxOf CX P w K mg base N qual scope f cdv A outer s H E) body t ∧ t { nx := fun _ H' => Q .non H', rt := Q } (L2.start N vs) H) :
    FnG P w K mg base CX (k + 1) f (PySem.W.fnOf name qual params body scope dV kV doc pm an cdv ct) ps sp :=
  ⟨hl, fun A outer s H args us vs Q E gd hr e0 hb r hs => run_ofS lk hcd S hr e0 hb r (hl _ _ _ _ hs) fun hr' => h A outer s H vs Q E gd hr' hs⟩
section
variable {K : PySem.W.Frag} {h : Heap} {ts : List Addr} {a : Addr} {vs : Array Value} {xs : List V}
/-- what is tracked as the law begins: the tables, and the script's list as it stands (if the written part has it not) -/
def H₀ (K : PySem.W.Frag) (ts : List Addr) (a : Addr) (vs : Array Value) (xs : List V) : Hp := fun b =>
  if b ∈ ts then some (.tbl #[]) else if b = a ∧ (K.lookup a).isNone = true then some (.frz { cls := .type "list", data := .seq vs } (.lst xs)) else none
theorem H₀_tab {b : Addr} (e : b ∈ ts) : H₀ K ts a vs xs b = some (.tbl #[]) := if_pos e
theorem H₀_at (n : a ∉ ts) (k : K.lookup a = none) : H₀ K ts a vs xs a = some (.frz { cls := .type "list", data := .seq vs } (.lst xs)) := by
  unfold H₀
  rw [if_neg n, if_pos ⟨rfl, by rw [k]; rfl⟩]
theorem H₀_cases (b : Addr) : H₀ K ts a vs xs b = none ∨ (b ∈ ts ∧ H₀ K ts a vs xs b = some (.tbl #[])) ∨ (b = a ∧ K.lookup a = none ∧ H₀ K ts a vs xs b = some (.frz { cls := .type "list", data := .seq vs } (.lst xs))) := by
  unfold H₀
  by_cases t : b ∈ ts
  · exact .inr (.inl ⟨t, if_pos t⟩)
  · rw [if_neg t]
    by_cases e : b = a ∧ (K.lookup a).isNone = true
    · exact .inr (.inr ⟨e.1, Option.isNone_iff_eq_none.mp e.2, if_pos e⟩)
    · exact .inl (if_neg e)
theorem H₀_off (hT : ∀ b ∈ ts, h.get? b = some { cls := .none, data := .fields #[] }) (ha : h.get? a = some { cls := .type "list", data := .seq vs }) {b : Addr} {o : Obj} (e : h.get? b = some o) (n1 : ∀ v n, o.data ≠ .seq v n) (n2 : o.data ≠ .fields #[]) : H₀ K ts a vs xs b = none := by
  rcases H₀_cases (K := K) (ts := ts) (a := a) (vs := vs) (xs := xs) b with z | ⟨t, _⟩ | ⟨rfl, _, _⟩
  · exact z
  · obtain rfl := Option.some.inj (e.symm.trans (hT b t))
    exact (n2 rfl).elim
  · obtain rfl := Option.some.inj (e.symm.trans ha)
    exact (n1 _ _ rfl).elim
end
section
variable {P : Program} {w : World} {K : PySem.W.Frag} {mg mb : Str → Option Value} {CX : CXT} {k : Nat} {fa a : Addr} {cs : List (Addr × Addr)} {fd : FuncData} {x : Str} {sp : Sp} {s₁ : Shared} {vs : List Value} {ns : List Int}
theorem law_g (KX : K.In s₁.heap) (hns : s₁.heap.Ns mainGlobals mg) (hb : s₁.heap.Ns builtinsNs mb) (hbb : ∀ x : Str, x ≠ "__name__" → mb x = bootBuiltins x) (hlim : s₁.heap.NoLimit) (hg : s₁.gens = #[])
    (hT : ∀ p ∈ cs, s₁.heap.get? p.2 = some { cls := .none, data := .fields #[] }) (nT : ∀ p ∈ cs, K.lookup p.2 = none) (C : ∀ p ∈ cs, PySem.W.CodeHd s₁.heap p.1 p.2) (hbm : ∃ (bm : Addr) (ob : Obj), mg "__builtins__" = some (.ref bm) ∧ bm ≠ builtinsNs ∧ s₁.heap.get? bm = some ob ∧ ob.cls = .type "module" ∧ ob.dict = some builtinsNs ∧ ob.data = .plain)
    (ha : s₁.heap.get? a = some { cls := .type "list", data := .seq vs.toArray }) (hi : IntsAre vs ns) (hl : ns.length ≤ sizeLine) (hr : Room k callerA)
    (F : ∀ base : Heap, K.In base → base.Ns mainGlobals mg → (∀ p ∈ cs, TabB base mg p.1 p.2) → FnG P w K mg base CX k fa fd [x] sp) (hbind : ∀ (s : Shared) (u : Value), BindsTo s fd ⟨[u], []⟩ [(x, u)])
    (hsp : ∀ H : Hp, (∀ p ∈ cs, H p.2 = some (.tbl #[])) → SqL K H a (ns.map V.int) → sp [.ref a] H (fun v _ => v = .bl true) fun _ _ _ => False)
    (hCX : ∀ H e s', CX [] H s₁ (fun _ _ _ => False) e s' → False) :
    codeAny (model P w) callerA (.call (.ref fa) ⟨[.ref a], []⟩) (fun r s' => r = .ok (.ret (.bool true)) ∧ OldK s₁.heap s'.heap ∧ s'.os = s₁.os ∧ AllBare s'.gens) s₁ := by
  have values := vals_ints hi
  have long : vs.length = ns.length := hi.length
  have tab : ∀ b ∈ cs.map (·.2), s₁.heap.get? b = some { cls := .none, data := .fields #[] } := fun b m => by
    obtain ⟨p, hp, rfl⟩ := List.mem_map.mp m
    exact hT p hp
  have mem : ∀ p ∈ cs, p.2 ∈ cs.map (·.2) := fun p hp => List.mem_map_of_mem hp
  have na : a ∉ cs.map (·.2) := fun m => by
    cases ha.symm.trans (tab a m)
  let H : Hp := H₀ K (cs.map (·.2)) a vs.toArray (ns.map V.int)
  have stays : ∀ {b o}, s₁.heap.get? b = some o → (∀ v n, o.data ≠ .seq v n) → o.data ≠ .fields #[] → (hidT s₁.heap H).get? b = some o := fun e n1 n2 => hidT_get e (H₀_off tab ha e n1 n2)
  have space : ∀ {b m}, s₁.heap.Ns b m → (hidT s₁.heap H).Ns b m := fun ⟨o, es, ep, e, d, r⟩ => ⟨o, es, ep, stays e (fun _ _ z => by rw [d] at z; cases z) (fun z => by rw [d] at z; cases z), d, r⟩
  have inK : K.In (hidT s₁.heap H) := fun b o e => hidT_get (KX b o e) (by
    rcases H₀_cases (K := K) (ts := cs.map (·.2)) (a := a) (vs := vs.toArray) (xs := ns.map V.int) b with z | ⟨m, _⟩ | ⟨rfl, n, _⟩
    · exact z
    · obtain ⟨p, hp, rfl⟩ := List.mem_map.mp m
      cases (nT p hp).symm.trans e
    · cases n.symm.trans e)
  have mod : L2.Mod K mg (hidT s₁.heap H) := ⟨inK, space hns, ⟨mb, space hb, hbb⟩, hlim.elim fun mc z => ⟨mc, space z.1, z.2⟩⟩
  have tables : ∀ p ∈ cs, TabB (hidT s₁.heap H) mg p.1 p.2 := fun p hp => by
    have at_ := hT p hp
    have apart : ∀ {q o}, s₁.heap.get? q = some o → o.data ≠ .fields #[] → q ≠ p.2 := fun e n z => by
      rw [z, at_] at e
      exact n (Option.some.inj e ▸ rfl)
    constructor
    · obtain ⟨o, us, file, tf, flags, tg, inF, text, tt, e, c, d, r⟩ := C p hp
      exact ⟨o, us, file, tf, flags, tg, inF, text, tt, stays e (fun _ _ z => by rw [d] at z; cases z) (fun z => by rw [d] at z; cases z; cases r.1), c, d, r⟩
    · obtain ⟨bm, ob, b1, b2, b3, b4, b5, b6⟩ := hbm
      refine ⟨bm, ob, b1, b2, fun z => ?_, apart b3 (fun z => by rw [b6] at z; cases z), stays b3 (fun _ _ z => by rw [b6] at z; cases z) (fun z => by rw [b6] at z; cases z), b4, b5, b6⟩
      obtain ⟨o, es, ep, e, d, _⟩ := hns
      obtain rfl := Option.some.inj ((z ▸ b3).symm.trans e)
      cases b6.symm.trans d
    · obtain ⟨o, es, ep, e, d, _⟩ := hns
      exact apart e fun z => by rw [d] at z; cases z
  have held : HOk P w H s₁.heap := fun b u e => by
    rcases H₀_cases (K := K) (ts := cs.map (·.2)) (a := a) (vs := vs.toArray) (xs := ns.map V.int) b with z | ⟨m, z⟩ | ⟨rfl, _, z⟩ <;> cases e.symm.trans z
    · exact tab b m
    · exact ⟨ha, by rw [List.length_map]; exact hl, vs, _, values, ha⟩
  have script : SqL K H a (ns.map V.int) := by
    cases n : K.lookup a with
    | none => exact .inl (.inr ⟨_, H₀_at na n⟩)
    | some o =>
      obtain rfl := Option.some.inj ((KX a o n).symm.trans ha)
      exact .inr ⟨_, vs.toArray, _, n, rfl, rfl, rfl, by rw [List.size_toArray, long]; exact hl, by simpa using values⟩
  have tracked : ∀ p ∈ cs, H p.2 = some (.tbl #[]) := fun p hp => H₀_tab (mem p hp)
  have e0 : Env0 P w K mg (hidT s₁.heap H) callerA [] s₁ H := ⟨rfl, mod, fun b o e => of_hidT e, Nat.le_of_eq (hidT_size _ _), trivial, fun b m => (List.not_mem_nil m).elim, held, .of_eq hg⟩
  refine codeAny_mono ((F _ inK (space hns) tables).run callerA [] s₁ H ⟨[.ref a], []⟩ [.ref a] [.ref a] _ _ rfl hr e0 (hbind s₁ (.ref a)) (.cons rfl .nil) (hsp H tracked script)) ?_
  rintro (e | fl) s' q
  · exact (hCX H e s' q).elim
  cases fl with
  | ret u =>
    obtain ⟨v, H', os, bare, un, held', rv, rfl⟩ := q
    obtain rfl : u = .bool true := rv
    have kept : ∀ b o, b ∉ cs.map (·.2) → s₁.heap.get? b = some o → s'.heap.get? b = some o := fun b o n e => by
      rcases H₀_cases (K := K) (ts := cs.map (·.2)) (a := a) (vs := vs.toArray) (xs := ns.map V.int) b with z | ⟨m, _⟩ | ⟨rfl, _, z⟩
      · exact un.keep b o e z (fun m => (List.not_mem_nil m).elim) (by simp)
      · exact (n m).elim
      · obtain ⟨e', _⟩ : ObjOk P w H' s'.heap b (.frz _ _) := held' b _ (un.frzs b _ _ z)
        exact e'.trans (ha.symm.trans e)
    have grown : ∀ p ∈ cs, ∃ more : Array Value, s'.heap.get? p.2 = some { cls := .none, data := .fields more } := fun p hp => by
      obtain ⟨more, z⟩ := un.tbls p.2 #[] (tracked p hp)
      exact ⟨_, held' p.2 _ z⟩
    refine ⟨rfl, ⟨fun b o e => ?_, fun b o e => ?_⟩, os, bare⟩
    · by_cases m : b ∈ cs.map (·.2)
      · obtain ⟨p, hp, rfl⟩ := List.mem_map.mp m
        obtain ⟨more, g⟩ := grown p hp
        obtain rfl := Option.some.inj ((tab _ m).symm.trans e)
        exact .inr (.inl ⟨((C p hp).tab (hT p hp)).isCodeTable, rfl, #[], more, rfl, by rw [Array.empty_append]; exact g⟩)
      · exact .inl (kept b o m e)
    · by_cases m : b ∈ cs.map (·.2)
      · obtain ⟨p, hp, rfl⟩ := List.mem_map.mp m
        exact (grown p hp).elim fun _ g => ⟨_, g⟩
      · exact ⟨o, kept b o m e⟩
  | _ => exact q.elim
end
/-- what is known of the law's promise at the head's heap h -/
def LawG (l : PySem.W.OpenLaw) (w : World) (K : PySem.W.Frag) (CX : CXT) (k n : Nat) (x : Str) (mg : Str → Option Value) (fa : Addr) (h : Heap) : Prop :=
  ∃ (fd : FuncData) (cs : List (Addr × Addr)) (sp : Sp), (∀ p ∈ cs, h.get? p.2 = some { cls := .none, data := .fields #[] }) ∧ (∀ p ∈ cs, K.lookup p.2 = none) ∧ (∀ p ∈ cs, PySem.W.CodeHd h p.1 p.2) ∧ (∀ (s : Shared) (u : Value), BindsTo s fd ⟨[u], []⟩ [(x, u)]) ∧
    (∀ (H : Hp) (a : Addr) (ns : List Int), ns.length ≤ n → (∀ p ∈ cs, H p.2 = some (.tbl #[])) → SqL K H a (ns.map V.int) → sp [.ref a] H (fun v _ => v = .bl true) fun _ _ _ => False) ∧
    ∀ base : Heap, K.In base → base.Ns mainGlobals mg → (∀ p ∈ cs, TabB base mg p.1 p.2) → FnG l.prog w K mg base CX k fa fd [x] sp
theorem walk_g {l : PySem.W.OpenLaw} {n k : Nat} {q : Program} {loose : List Str} {XP : (Str → Option Value) → Heap → Prop} {YP : World → Heap → Prop} {d : DefRec} {K : Params → PySem.W.Frag} {CX : World → CXT} {x : Str}
    (hn : l.most = some n) (hn2 : n ≤ sizeLine) (hdf : d.params.defaults = []) (hr : Room k callerA) (hY : ∀ (w : World) (h : Heap), YP w h → (K w.params).In h)
    (F : ∀ (w : World) (mg : Str → Option Value) (fa : Addr) (h : Heap), YP w h → (K w.params).In h → h.Ns mainGlobals mg → mg d.name = some (.ref fa) → LawG l w (K w.params) (CX w) k n x mg fa h)
    (hCX : ∀ (w : World) (H : Hp) (s : Shared) (e : Value) (s' : Shared), CX w [] H s (fun _ _ _ => False) e s' → False) : PySem.W.WalkO q loose XP YP l.row.toRowW d [] (fun f vs => PySem.call f vs) := by
  apply Att.attach_callB hn hdf
  intro w s₀ s₁ mg mb fa o pm cd doc a vs ns G Y ho hd hcd hmg hobj hints hlen _ hg
  obtain ⟨fd, cs, sp, hT, nT, C, hb, hsp, hF⟩ := F w mg fa _ Y (hY w _ Y) G.T.g hmg
  exact law_g (hY w _ Y) G.T.g G.T.b G.T.builtins G.T.nolimit hg hT nT C G.T.bmain hobj hints (Nat.le_trans hlen hn2) hr hF hb (fun H hH hS => hsp H a ns hlen hH hS) fun H e s' => hCX w H s₁ e s'
end L3
set_option maxRecDepth 100000
set_option maxHeartbeats 4000000
/-! an exception whose __init__ says super().__init__(text) and then stores what it got -/
namespace L3
open PySem PySem.Spec PyProof.Rows L2 PySem.W
/-- what the written part says of the class at C and its __init__'s code -/
structure SupT (P : Program) (K : Frag) (mg : Str → Option Value) (C cc cda : Addr) (qual : Str) : Prop where
  T : OexC K C
  ii : excInitIn K C [.type "ValueError", .type "Exception", .type "BaseException", .type "object"] "ValueError.__new__" = true
  hcd : codeIn K (.ref cda) qual = true
  file : ∃ (ccl : Value) (cdd : Option Addr) (vs : Array Value) (ccs : Array (Option Value)) (file : Str) (tf : Tok), K.lookup cda = some ⟨ccl, cdd, .fields vs, ccs⟩ ∧ vs[2]? = some (.str file tf) ∧ ((P.main.file : Str) == file) = true
  cell : ∃ (cl : Value) (cld : Option Addr) (csl : Array (Option Value)), K.lookup cc = some ⟨cl, cld, .cell (some (.ref C)), csl⟩
  cls : ∃ cdC, clsIn K C = some cdC
  sup : ks_superIn K C C "__init__" = some (some (.builtin "ValueError.__init__"))
  sve : subIn K (.ref C) (.type "ValueError") = some true
  opq : nsIn K cStatics "thirdparty.any" = some none
  mro : mroIn K C (.ref C) = some true
  nosup : mg "super" = none
  top : (P.main.scope.names.lookup ("super" : Str)).isSome = false
section
variable {P : Program} {w : World} {K : Frag} {mg : Str → Option Value} {base : Heap} {A : Around} {E : Value → Shared → Prop}
/-- super(): the object that looks behind the class -/
theorem super_here {C cc cda x f : Addr} {qual q : Str} {h₀ : Heap} {L : Addr} {m : Str → Option Value} {news : List (Addr × Obj)} {body : List Stmt} {scope : Scope} {p0 p1 : Pos} {attr : Str} {whole : Sem Value} {fd : FuncData} {ar : Arg} {ox : Obj} {odx : Option Obj} {oc : Value} {od : Option Addr} {osl : Array (Option Value)} {s : Shared} {Q : Value → Shared → Prop}
    (S : SupT P K mg C cc cda qual) (M : Mod K mg h₀) (F : Fr h₀ L s.heap m) (N : News h₀ L s.heap news) (lk : K.lookup f = some ⟨oc, od, .func fd, osl⟩) (hp : (fd.params.posonlyargs ++ fd.params.args).head? = some ar) (hv : m ar.arg = some (.ref x)) (I : InstAt s.heap x ox C odx)
    (hat : (attr == ("__class__" : Str)) = false) (hks : scope.names.lookup ("super" : Str) = some .globalImplicit) (hkc : scope.names.lookup ("__class__" : Str) = some .free) (hka : scope.names.lookup ar.arg = some .local) (hk : scope.kind = .function)
    (h : ∀ so h', Fr h₀ L h' m → News h₀ L h' ((so, ks_superObj C x C) :: news) → (∀ p ∈ news, p.1 < so) → Q (.ref so) { s with heap := h' }) :
    PySem.wpAt (model P w) A (.func body (ksEnv q scope L f (.ref cda) cc)) (attributeBase (.Call (.Name "super" p0) [] [] p1) attr (ksEnv q scope L f (.ref cda) cc) whole) Q E s := by
  obtain ⟨_, _, vs, _, file, tf, hcode, hvs, hfile⟩ := S.file
  obtain ⟨_, _, _, hcell⟩ := S.cell
  obtain ⟨cd, hcl⟩ := S.cls
  obtain ⟨mb, hblt, hboot⟩ := M.blt
  have X : K.In s.heap := M.kin.keeps F.keep
  obtain ⟨oC, there, isc⟩ : ∃ o, s.heap.get? C = some o ∧ o.data = .cls cd := by
    revert hcl
    unfold clsIn
    split
    · rename_i e
      intro z
      exact ⟨_, X _ _ e, by cases z; rfl⟩
    · exact fun z => nomatch z
  apply ks_wpAt_super_base (env := ksEnv q scope L f (.ref cda) cc) hks hkc hat rfl (X _ _ lk) rfl hp rfl (X _ _ hcode) rfl hvs hfile S.top
  apply ks_loadName_global (env := ksEnv q scope L f (.ref cda) cc) hk hks
  apply Calls.loadGlobal_builtin (env := ksEnv q scope L f (.ref cda) cc) (M.glob.keeps F.keep) S.nosup (hblt.keeps F.keep) ((hboot _ (by decide +kernel)).trans (by first | boot_by_name | kernel_rfl))
  refine ⟨rfl, ?_⟩
  apply wpAny_loadName_free (env := ksEnv q scope L f (.ref cda) cc) hk hkc rfl ⟨_, X _ _ hcell, rfl⟩
  apply wpAny_loadName_local (env := ksEnv q scope L f (.ref cda) cc) hk hka F.ns hv
  obtain ⟨hh, g, d, t, os⟩ := s
  apply ks_wpAny_isType_cls there isc
  refine ⟨rfl, ?_⟩
  apply ks_wpAny_call_super there isc I.at_ I.cls
  · intro c e
    have n := I.no
    unfold notCls at n
    rw [e] at n
    cases n
  · exact looks_mroIn X S.mro
  · intro h' e k
    obtain ⟨F', N', lt⟩ := ks_newsPush (s := ⟨hh, g, d, t, os⟩) F N rfl e k
    exact h _ _ F' N' lt
/-- super().__init__(text), then the rest: the exception has other args, all else stays -/
theorem sup_first {C cc cda a t₁ f : Addr} {qual q : Str} {h₀ : Heap} {L : Addr} {m : Str → Option Value} {rest : List Stmt} {body : List Stmt} {scope : Scope} {p0 p1 p2 p3 p4 p5 : Pos} {txt : Str} {j : Nat} {fd : FuncData} {ar : Arg} {oc : Value} {od : Option Addr} {osl : Array (Option Value)} {s : Shared} {Q : Flow → Shared → Prop}
    (S : SupT P K mg C cc cda qual) (M : Mod K mg h₀) (F : Fr h₀ L s.heap m) (N : News h₀ L s.heap [(a, excObj C t₁ none .none)]) (lk : K.lookup f = some ⟨oc, od, .func fd, osl⟩) (hp : (fd.params.posonlyargs ++ fd.params.args).head? = some ar) (hv : m ar.arg = some (.ref a))
    (hks : scope.names.lookup ("super" : Str) = some .globalImplicit) (hkc : scope.names.lookup ("__class__" : Str) = some .free) (hka : scope.names.lookup ar.arg = some .local) (hk : scope.kind = .function)
    {pl : Sem Bool} (he : eval (.Call (.Attribute (.Call (.Name "super" p0) [] [] p1) "__init__" p2) [.Constant (.str txt) j p3] [] p4) (ksEnv q scope L f (.ref cda) cc) = (do
      let ov ← attributeBase (.Call (.Name "super" p0) [] [] p1) "__init__" (ksEnv q scope L f (.ref cda) cc) (eval (.Call (.Name "super" p0) [] [] p1) (ksEnv q scope L f (.ref cda) cc))
      standAt p2.atName
      let (g, first) ← holding [ov] (getMethod ov "__init__" pl)
      callWith p4 g first (backTo p4 (starEach [.Constant (.str txt) j p3] (ksEnv q scope L f (.ref cda) cc))) []))
    (hs : swapsWith (.Call (.Attribute (.Call (.Name "super" p0) [] [] p1) "__init__" p2) [.Constant (.str txt) j p3] [] p4) none p5.line (ksEnv q scope L f (.ref cda) cc) = pure false) (hi : interactive (ksEnv q scope L f (.ref cda) cc) = false)
    (h : ∀ t₂ h' k', Fr h₀ L h' m → News h₀ L h' [(a, excObj C t₂ none .none)] → wpAny (model P w) A (execs rest (ksEnv q scope L f (.ref cda) cc)) Q E { s with heap := h', toks := k' }) :
    PySem.wpAt (model P w) A (.func body (ksEnv q scope L f (.ref cda) cc)) (execs (.Expr (.Call (.Attribute (.Call (.Name "super" p0) [] [] p1) "__init__" p2) [.Constant (.str txt) j p3] [] p4) p5 :: rest) (ksEnv q scope L f (.ref cda) cc)) Q E s := by
  have I : InstAt s.heap a (excObj C t₁ none .none) C none := .of_exc0 N List.mem_cons_self
  refine ks_wpAt_execs_cons (ks_wpAt_Expr_any (ks_wpAt_MethodCall (pl := pl) ?_ he) hi hs)
  apply super_here S M F N lk hp hv I rfl hks hkc hka hk
  intro so h₁ F₁ N₁ lt₁
  have I₁ : InstAt h₁ a (excObj C t₁ none .none) C none := .of_exc0 N₁ (.tail _ List.mem_cons_self)
  apply kxs_method (s := { s with heap := h₁ }) kxs_ValueError F₁ M.kin N₁ List.mem_cons_self I₁ S.opq S.sup S.sve (by decide)
  intro u h₂ F₂ N₂ lt₂
  refine kxs_callWith1 N₂ List.mem_cons_self (Calls.spliced_cons (Calls.Constant_str (k := j) (pos := p3) (Calls.spliced_nil ?_)))
  have na : a < so := lt₁ _ List.mem_cons_self
  have nu : a < u := lt₂ (a, _) (.tail _ List.mem_cons_self)
  refine ⟨kxs_at N₂ List.mem_cons_self, ?_⟩
  refine kxs_call F₂ M.kin N₂ PySem.F.excBase_ValueError S.ii List.mem_cons_self (.tail (Nat.ne_of_gt nu) (.tail (Nat.ne_of_gt na) (.head fun _ z => nomatch z))) (by show 1 ≤ sizeLine; decide) ?_
  intro t₂ h₃ F₃ N₃ _
  exact wpAt_of_wpAny (h t₂ h₃ _ F₃ fun p hp => N₃ p (.tail _ (.tail _ (.tail _ hp))))
/-- where an exception gets its dict: what else lies in the heap stays -/
theorem exc_fills {fs₀ : List Addr} {H : Hp} {h h' : Heap} {a C dx t₂ : Addr} {fs : List (Str × V)} {mA : Str → Option Value} (hok : HOk P w H h) (ea : H a = some (exo a C none)) (dn : h.objs.size ≤ dx) (k : ∀ b o, b ≠ a → h.get? b = some o → h'.get? b = some o)
    (hx : h'.get? a = some (excObj C t₂ (some dx) .none)) (hn : h'.Ns1 dx mA) (r : ∀ g, RelO (fs.lookup g) (mA g)) :
    Un fs₀ [] H (upd (upd H dx (exd dx fs)) a (exo a C (some dx))) h h' ∧ HOk P w (upd (upd H dx (exd dx fs)) a (exo a C (some dx))) h' := by
  have nd : H dx = none := hok.fresh dn
  have off : ∀ {b o}, H b = some o → b ≠ dx := fun e => ne_of_none e nd
  have other : ∀ {b o}, H b = some o → (∀ d, o ≠ exo a C d) → b ≠ a := fun e n z => n none (Option.some.inj ((z ▸ e).symm.trans ea))
  have keep : ∀ {b o}, H b = some o → (∀ d, o ≠ exo a C d) → (upd (upd H dx (exd dx fs)) a (exo a C (some dx))) b = some o := fun e n => by rw [upd_ne (other e n), upd_ne (off e), e]
  have none_a : ∀ {b}, H b = none → b ≠ a := fun n z => by rw [z, ea] at n; cases n
  have old : ∀ {b o}, h.get? b = some o → b ≠ dx := fun e => Nat.ne_of_lt (Nat.lt_of_lt_of_le (Heap.lt_size e) dn)
  constructor
  · constructor
    · exact fun b o e n _ _ => k b o (none_a n) e
    · exact fun b o e n _ _ => ⟨o.slots, k b o (none_a n) e⟩
    · exact fun b o e n _ => by rw [upd_ne (none_a n), upd_ne (old e)]; exact n
    · intro b o e _
      by_cases z : b = a
      · exact ⟨_, z ▸ hx⟩
      · exact ⟨o, k b o z e⟩
    · exact fun b xs e => keep e fun d z => exo_tup z.symm
    · exact fun b o u e => keep e fun d z => exo_frz z.symm
    · exact fun b ps e => ⟨#[], by rw [keep e fun d z => exo_tbl z.symm]; simp⟩
  · intro b o e
    by_cases z : b = a
    · subst z
      obtain rfl := Option.some.inj (upd_same.symm.trans e)
      exact exo_ok hx
    rw [upd_ne z] at e
    by_cases y : b = dx
    · subst y
      obtain rfl := Option.some.inj (upd_same.symm.trans e)
      exact exd_ok hn r
    rw [upd_ne y] at e
    refine (hok b o e).stay (fun c v hc q => k c v (hc.elim (fun c' => c' ▸ z) fun c' => other c' fun d x => exo_own x.symm) q) (fun c hc => keep hc fun d x => exo_own x.symm) fun c xs hc => keep hc fun d x => exo_tup x.symm
/-- what such an __init__ promises -/
def spSup (C : Addr) (x : Str) : Sp := fun vs H Q _ => ∃ (a : Addr) (y : V), vs = [.ref a, y] ∧ H a = some (exo a C none) ∧ ∀ dx, H dx = none → dx ≠ a → Q .non (upd (upd H dx (exd dx [(x, y)])) a (exo a C (some dx)))
theorem ok_sup {CX : CXT} {C cc cda f : Addr} {name qual x : Str} {params : Arguments} {scope : Scope} {dV kV doc pm ct oc : Value} {an od : Option Addr} {osl : Array (Option Value)} {p0 p1 p2 p3 p4 p5 q1 q2 q3 q4 : Pos} {txt : Str} {j : Nat} {ar : Arg}
    (S : SupT P K mg C cc cda qual) (hno : findIn K (.ref C) x = some none)
    (lk : K.lookup f = some ⟨oc, od, .func (ksFn name qual params [.Expr (.Call (.Attribute (.Call (.Name "super" p0) [] [] p1) "__init__" p2) [.Constant (.str txt) j p3] [] p4) p5, .Assign [.Attribute (.Name "self" q1) x q2] (.Name x q3) q4] scope dV kV doc pm an (.ref cda) ct cc), osl⟩)
    (hp : (params.posonlyargs ++ params.args).head? = some ar) (har : ar.arg = ("self" : Str)) (hx : x ≠ "self") (hd : (x == ("__debug__" : Str)) = false)
    (hks : scope.names.lookup ("super" : Str) = some .globalImplicit) (hkc : scope.names.lookup ("__class__" : Str) = some .free) (hka : scope.names.lookup ("self" : Str) = some .local) (hkx : scope.names.lookup x = some .local) (hk : scope.kind = .function)
    (hcell : ∀ x ∈ scope.names, x.2 ≠ .cell) (hco : scope.isCoroutine = false) (hgen : scope.isGenerator = false)
    {pl : Sem Bool} (he : ∀ L, eval (.Call (.Attribute (.Call (.Name "super" p0) [] [] p1) "__init__" p2) [.Constant (.str txt) j p3] [] p4) (ksEnv qual scope L f (.ref cda) cc) = (do
      let ov ← attributeBase (.Call (.Name "super" p0) [] [] p1) "__init__" (ksEnv qual scope L f (.ref cda) cc) (eval (.Call (.Name "super" p0) [] [] p1) (ksEnv qual scope L f (.ref cda) cc))
      standAt p2.atName
      let (g, first) ← holding [ov] (getMethod ov "__init__" pl)
      callWith p4 g first (backTo p4 (starEach [.Constant (.str txt) j p3] (ksEnv qual scope L f (.ref cda) cc))) []))
    (hs : ∀ L, swapsWith (.Call (.Attribute (.Call (.Name "super" p0) [] [] p1) "__init__" p2) [.Constant (.str txt) j p3] [] p4) none p5.line (ksEnv qual scope L f (.ref cda) cc) = pure false) (hi : ∀ L, interactive (ksEnv qual scope L f (.ref cda) cc) = false)
    (hs2 : ∀ L, swapsWith (.Name x q3) (some (.Attribute (.Name "self" q1) x q2)) q4.line (ksEnv qual scope L f (.ref cda) cc) = pure false) :
    FnOk P w K mg base CX 1 f (ksFn name qual params [.Expr (.Call (.Attribute (.Call (.Name "super" p0) [] [] p1) "__init__" p2) [.Constant (.str txt) j p3] [] p4) p5, .Assign [.Attribute (.Name "self" q1) x q2] (.Name x q3) q4] scope dV kV doc pm an (.ref cda) ct cc) ["self", x] (spSup C x) := by
  refine ⟨fun vs H Q E ⟨_, _, e, _⟩ => by rw [e]; rfl, fun A outer s H args us vs Q E hr e0 hb r hsp => ?_⟩
  obtain ⟨a, y, rfl, ha, fin⟩ := hsp
  obtain ⟨_, u, rfl, r1, ry⟩ := vals2 r
  cases r1
  have up : ∀ b o, base.get? b = some o → s.heap.get? b = some o := fun b o e => (e0.bs b o e).1
  have KX : K.In s.heap := e0.mod.kin.keeps up
  obtain ⟨t₁, hat⟩ := exo_at e0.hok ha
  have off : ∀ b o, base.get? b = some o → b ∉ [a] := fun b o e z => by
    have n := (e0.bs b o e).2
    rw [List.mem_singleton.mp z, ha] at n
    cases n
  have up₀ : ∀ b o, base.get? b = some o → (hideAll s.heap [a]).get? b = some o := fun b o e => hideAll_get _ (up b o e) (off b o e)
  obtain ⟨mb, hb1, hb2⟩ := e0.mod.blt
  have M : Mod K mg (hideAll s.heap [a]) := ⟨e0.mod.kin.keeps up₀, e0.mod.glob.keeps up₀, ⟨mb, hb1.keeps up₀, hb2⟩, e0.mod.nolimit.keeps up₀⟩
  refine ks_codeAny_call_defAt (body := _) hr.depth (KX _ _ lk) rfl (e0.mod.nolimit.keeps up) (codeRec_of KX S.hcd) rfl hb hcell ?_ (fun h₁ hns hk₁ => ?_) hco hgen hk
  · intro p hp
    simp at hp
    rcases hp with rfl | rfl
    · exact hka
    · exact hkx
  have F : Fr (hideAll s.heap [a]) s.heap.objs.size h₁ _ := ⟨hns, fun b o e => hk₁ b o (of_hideAll _ e), Nat.le_of_eq (hideAll_size _ _)⟩
  have N : News (hideAll s.heap [a]) s.heap.objs.size h₁ [(a, excObj C t₁ none .none)] := fun p hp => by
    rw [List.mem_singleton.mp hp]
    exact ⟨hk₁ _ _ hat, Nat.ne_of_lt (Heap.lt_size hat), hideAll_none _ List.mem_cons_self⟩
  obtain ⟨nm, qn, NN, bs, bm, sn, sub, ab, col, dd, k0, k1, k2, k3, k5, hC, hbm⟩ := S.T.cls
  have hcl : clsIn K C = some { name := nm, bases := bs, mro := .ref C :: bm, ns := NN, qualname := qn, hasDict := true, slotNames := sn, subclasses := sub, abstract := ab, collection := col, hasDel := false } := by
    unfold clsIn
    rw [hC] <;> rfl
  refine sup_first (q := qual) (L := s.heap.objs.size) S M F N lk hp ?_ hks hkc (har ▸ hka) hk (he _) (hs _) (hi _) ?_
  · rw [har]
    show List.lookup ("self" : Str) [(x, u), (("self" : Str), Value.ref a)] = _
    rw [List.lookup_cons, show (("self" : Str) == x) = false from beq_eq_false_iff_ne.mpr fun z => hx z.symm]
    rfl
  intro t₂ h₂ k₂ F₂ N₂
  have M₂ : K.In h₂ := M.kin.keeps F₂.keep
  have at₂ := (N₂ _ List.mem_cons_self).1
  refine wpAny_execs_cons (plainObj_wpAny_Assign_Attribute (wpAny_Name (wpAny_loadName_local (env := ksEnv qual scope s.heap.objs.size f (.ref cda) cc) hk hkx F₂.ns (v := u) ?_ (wpAny_Name (wpAny_loadName_local (env := ksEnv qual scope s.heap.objs.size f (.ref cda) cc) hk hka F₂.ns (v := .ref a) ?_ ?_))) hd) (hs2 _))
  · show List.lookup x [(x, u), (("self" : Str), Value.ref a)] = _
    rw [List.lookup_cons, beq_self_eq_true]
  · show List.lookup ("self" : Str) [(x, u), (("self" : Str), Value.ref a)] = _
    rw [List.lookup_cons, show (("self" : Str) == x) = false from beq_eq_false_iff_ne.mpr fun z => hx z.symm]
    rfl
  refine set_plain (ox := excObj C t₂ none .none) (od := none) M₂ (.of_exc0 N₂ List.mem_cons_self) S.T.sa ?_
  refine HandSPX.exc_osa M₂ at₂ hcl (show HandSPX.refsVE (.ref C :: bm) = true from hbm) rfl hno fun h₃ k₃ dx keep₃ dn dne hx₃ hn₃ => ?_
  have big : s.heap.objs.size ≤ dx := by
    obtain ⟨_, _, _, e, _⟩ := F₂.ns
    exact Nat.le_trans (Nat.le_of_lt (Heap.lt_size e)) dn
  obtain ⟨un, hok⟩ := exc_fills (P := P) (w := w) (fs₀ := frs outer) (fs := [(x, y)]) e0.hok ha big (fun b o n e => keep₃ b o n (F₂.keep b o (hideAll_get _ e fun z => n (List.mem_singleton.mp z)))) hx₃ hn₃ (relO_put (fs := []) ry fun _ => True.intro)
  exact wpAny_execs_nil ⟨.non, _, rfl, e0.bare, un, hok, rfl, fin dx (e0.hok.fresh big) dne⟩
end
/-- an attribute of a kept exception -/
def tExf (C : Addr) (n : Str) (te : TE) : TE := fun σ H Q => te σ H fun x H₁ => ∃ (a d : Addr) (fs : List (Str × V)) (v : V), x = .ref a ∧ H₁ a = some (ExV (.ref C) (some d) a) ∧ H₁ d = some (.xd fs) ∧ fs.lookup n = some v ∧ Q v H₁
theorem pe_exf {X : Cx} {C : Addr} {e : Expr} {te : TE} {pos : Pos} {n : Str} (T : XfC X.K C) (hno : findIn X.K (.ref C) n = some none) (he : PE X e te) (hb : attributeBase e n X.env (eval e X.env) = eval e X.env := by rfl) : PE X (.Attribute e n pos) (tExf C n te) where
  run pins s σ H Q I h := by
    apply attr_of hb
    apply thn (he.run pins s σ H _ I h)
    rintro u s₁ ⟨_, H₁, I₁, rx, a, d, fs, v, rfl, ea, ed, l, q⟩
    obtain rfl : u = .ref a := rx
    have tracked : ObjOk X.prog X.w H₁ s₁.heap d (.xd fs) := I₁.hok d _ ed
    obtain ⟨mA, ns, rel⟩ := tracked
    obtain ⟨od, there, look⟩ := lookIn_ns ns
    have rn := rel n
    rw [l] at rn
    obtain ⟨u, hu, ru⟩ := RelO.some_of rn
    obtain ⟨⟨oe, vs, he', hz, hd⟩, _⟩ := I₁.hok a _ ea
    have J : InstAt s₁.heap a oe C (some od) := ⟨he', hz.1, by unfold notCls; rw [hd] <;> rfl, hz.2.symm ▸ there⟩
    exact HandSPX.exc_get I₁.kIn J T.ga T.gg T.exC (findObj_own T.hdC hno rfl ((look n).trans (congrArg some hu))) (handed_of ru) ⟨v, H₁, I₁.tok _, ru, q⟩
end L3
set_option maxRecDepth 100000
set_option maxHeartbeats 4000000
/-! repr of data; methods by keywords; list.count of bools -/
namespace L3
open PySem PySem.Spec PyProof.Rows L2
/-- a dict of ints -/
def dInt (ps : List (Int × Int)) : List (Key × V) := ps.map fun p => (Sum.inl p.1, V.int p.2)
/-- a value and the data that it is -/
inductive ThV (H : Hp) : V → PyData → Prop where
  | non : ThV H .non .none
  | bl (b : Bool) : ThV H (.bl b) (.bool b)
  | int (i : Int) : ThV H (.int i) (.int i)
  | str (x : Str) : ThV H (.str x) (.str x)
  | lst {a : Addr} {ns : List Int} (e : H a = some (.lst (ns.map V.int))) : ThV H (.ref a) (.list (ns.map .int))
  | tup {a : Addr} {ns : List Int} (e : H a = some (.tup (ns.map V.int))) : ThV H (.ref a) (.tuple (ns.map .int))
  | dct {a : Addr} {ps : List (Int × Int)} (e : H a = some (.dK (dInt ps))) : ThV H (.ref a) (.dict (ps.map fun p => (.int p.1, .int p.2)))
theorem ThV.mono {H H' : Hp} {v : V} {d : PyData} (h : ThV H v d) (k : ∀ a o, v = .ref a → H a = some o → (∀ ps, o ≠ .tbl ps) → H' a = some o) : ThV H' v d := by
  cases h with
  | non => exact .non
  | bl b => exact .bl b
  | int i => exact .int i
  | str x => exact .str x
  | lst e => exact .lst (k _ _ rfl e fun ps z => nomatch z)
  | tup e => exact .tup (k _ _ rfl e fun ps z => nomatch z)
  | dct e => exact .dct (k _ _ rfl e fun ps z => nomatch z)
/-- what can be shown -/
def Fits (d : PyData) : Prop := d.showable = true ∧ d.shown.length ≤ 10000 ∧ ∀ i, d = .int i → i.natAbs < 2 ^ 80
def rRepr : List V → Hp → VK → Prop := fun xs H Q => ∃ v d, xs = [v] ∧ ThV H v d ∧ Fits d ∧ Q (.str d.shown) H
theorem reads_ints {h : Heap} : ∀ {ns : List Int} {us : List Value}, Vals (ns.map V.int) us → ReadsAll h us (ns.map .int) []
  | [], _, r => by cases r; exact .nil
  | n :: ns, _, r => by
    cases r with
    | cons r₁ r₂ =>
      obtain ⟨t, rfl⟩ := r₁
      exact .cons (.int n t) (reads_ints r₂)
theorem pairs_read {prog : Program} {w : World} {h : Heap} : ∀ {ps : List (Int × Int)} {vs : List (Key × Value)} {es : List DictEntry}, KV (dInt ps) vs → Pairs (mixKind prog w) es vs → ReadsAll h (es.map (·.key)) (ps.map fun p => .int p.1) [] ∧ ReadsAll h (es.map (·.val)) (ps.map fun p => .int p.2) []
  | [], _, _, r, p => by
    cases r
    cases p
    exact ⟨.nil, .nil⟩
  | (i, j) :: ps, _, _, r, p => by
    cases r with
    | cons r₁ r₂ =>
      cases p with
      | cons k e p' =>
        obtain ⟨e1, t, e2⟩ := r₁
        obtain ⟨a, b⟩ := pairs_read r₂ p'
        rw [← e1] at k
        rcases keyIs_shape (k := Sum.inl i) k with ⟨i', t', z, ek⟩ | ⟨x, t', z, _⟩
        · obtain rfl := Sum.inl.inj z
          exact ⟨by rw [List.map_cons, ek]; exact .cons (.int i t') a, by rw [List.map_cons, e, e2]; exact .cons (.int j t) b⟩
        · exact nomatch z
/-- objects were made, none of them tracked -/
theorem grown {X : Cx} {pins : List (Addr × Obj)} {σ : L2.St} {H : Hp} {s : Shared} {h' : Heap} {t' : Nat} (I : Inv X pins σ H s) (k : ∀ b o, s.heap.get? b = some o → h'.get? b = some o) : Inv X pins σ H { s with heap := h', toks := t' } :=
  I.un ⟨fun b o e _ _ _ => k b o e, fun b o e _ _ _ => ⟨o.slots, k b o e⟩, fun _ _ _ n _ => n, fun b o e _ => ⟨o, k b o e⟩, fun _ _ e => e, fun _ _ _ e => e, fun b ps e => ⟨#[], by rw [e]; simp⟩⟩
    fun b o e => (I.hok b o e).stay (fun c v _ q => k c v q) (fun _ q => q) fun _ _ q => q
theorem depth_ints : ∀ ns : List Int, PyData.depthAll (ns.map .int) ≤ 1
  | [] => by decide
  | n :: ns => by
    have ih := depth_ints ns
    simp only [List.map_cons, PyData.depthAll, PyData.depth]
    omega
theorem depth_pairs : ∀ ps : List (Int × Int), PyData.depthKv (ps.map fun p => (.int p.1, .int p.2)) ≤ 1
  | [] => by decide
  | p :: ps => by
    have ih := depth_pairs ps
    simp only [List.map_cons, PyData.depthKv, PyData.depth]
    omega
theorem noDict : ∀ ns : List Int, PyData.hasDictAll (ns.map .int) = false
  | [] => rfl
  | n :: ns => by
    simp only [List.map_cons, PyData.hasDictAll, PyData.hasDict]
    rw [noDict ns]
    rfl
section
variable {X : Cx} {k : Nat}
theorem call_repr (gd : X.A.guards = some []) (hr : Room k X.A) : CallR X (.builtin "repr") rRepr := by
  rintro pins s σ H xs us Q I r ⟨v, d, rfl, t, ⟨h1, h3, _⟩, q⟩
  obtain ⟨u, rfl, ru⟩ := vals1 r
  have h2 : d.shown.length ≤ sizeLine := by rw [sizeLine_eq]; omega
  have room := hr.un
  have shown : ∀ {a : Addr} {as : List Addr}, u = .ref a → Reads s.heap u d as → (d.hasDict = true → sysModules ∉ as) → d.depth ≤ 9 → wpAny (model X.prog X.w) X.A (call (.builtin "repr") [u]) (EP X pins σ Q) X.xe s := by
    rintro a as rfl rd hs hd
    exact repr_of_reads' rd h1 hs gd (by omega) (fun _ _ e => e) (fun h' u' tk keep => ⟨.str d.shown, H, grown I keep, ⟨_, rfl⟩, q⟩) h2
  cases t with
  | non => cases ru; exact P.repr_of_none ⟨.str _, H, I.tok _, ⟨_, rfl⟩, q⟩
  | bl b => cases ru; exact P.repr_of_bool ⟨.str _, H, I.tok _, ⟨_, rfl⟩, q⟩
  | int i => obtain ⟨_, rfl⟩ := ru; exact P.repr_of_int (by simpa [PyData.showable] using h1) ⟨.str _, H, I.tok _, ⟨_, rfl⟩, q⟩
  | str x => obtain ⟨_, rfl⟩ := ru; exact P.repr_of_str ⟨.str _, H, I.tok _, ⟨_, rfl⟩, q⟩ h2
  | @lst a ns e =>
    obtain rfl : u = .ref a := ru
    obtain ⟨its, rv, ⟨o, n, ho, hc, _, hd⟩, _⟩ := I.list (SqL.of e)
    have dp := depth_ints ns
    exact shown rfl (.list ho hc hd (by simpa using reads_ints rv)) (fun z => absurd z (by simp only [PyData.hasDict]; rw [noDict ns]; decide)) (by simp only [PyData.depth]; omega)
  | @tup a ns e =>
    obtain rfl : u = .ref a := ru
    obtain ⟨its, rv, ⟨o, ho, hc, n, hd⟩, _⟩ := I.tuple (SqT.of e)
    have dp := depth_ints ns
    exact shown rfl (.tuple ho hc hd (by simpa using reads_ints rv)) (fun z => absurd z (by simp only [PyData.hasDict]; rw [noDict ns]; decide)) (by simp only [PyData.depth]; omega)
  | @dct a ps e =>
    obtain rfl : u = .ref a := ru
    have z : ObjOk X.prog X.w H s.heap a (.dK (dInt ps)) := I.hok a _ e
    obtain ⟨_, ns, vs, kv, o, es, n, ho, ⟨hc, _⟩, hd, _, pr, _⟩ := z
    obtain ⟨r1, r2⟩ := pairs_read kv pr
    have rd := Reads.dict (kvs := ps.map fun p => (.int p.1, .int p.2)) ho hc hd (by rw [List.map_map]; exact r1) (by rw [List.map_map]; exact r2)
    exact shown rfl rd (fun _ m => by simp at m; rw [m] at ns; simp at ns) (by have dp := depth_pairs ps; simp only [PyData.depth]; omega)
end
/-! ### methods called by keywords -/
def tMethK (C : Addr) (m : Str) (n q : Nat) (sp : Sp) (gV : List V → List V → List V) (E : XK) (ta : TE) (t tk : TA) : TE := fun σ H Q => ta σ H fun x H₁ => ∃ (a dx : Addr) (fs : List (Str × V)), x = .ref a ∧ H₁ a = some (.ins C dx fs) ∧ fs.lookup m = none ∧
  t σ H₁ fun vs H₂ => tk σ H₂ fun zs H₃ => vs.length = n ∧ zs.length = q ∧ sp (gV (.ref a :: vs) zs) H₃ Q E
section
variable {X : Cx} {CX : CXT} {k n : Nat} {C f : Addr} {fd : FuncData} {ps ks : List Str} {sp : Sp} {E : XK} {m : Str} {apos pos : Pos} {o e : Expr} {es : List Expr} {kws : List Keyword} {ta : TE} {t tk : TA} {g : List Value → List Value → List Value} {gV : List V → List V → List V} {pl : Sem Bool}
/-- o.m(k = v, ..) -/
theorem pe_methK0 (he : PE X o ta) (c : Cls X.K C) (hm : Meth X.K C m f) (F : FnOk X.prog X.w X.K X.mg X.base CX k f fd ps sp) (hr : Room k X.A) (hb : KBn X.K fd ps 1 ks g gV) (hx : Passes CX X E) (hkw : PK X kws tk)
    (hall : (backToKw pos (keywordEach kws X.env)).all (·.1.isSome) = true := by rfl) (hks : (backToKw pos (keywordEach kws X.env)).filterMap (·.1) = ks := by rfl)
    (hpl : ((backTo pos (starEach [] X.env)).any (·.1) || (backToKw pos (keywordEach kws X.env)).any (·.1.isNone)) = false := by rfl)
    (ht : eval (.Call (.Attribute o m apos) [] kws pos) X.env = (do
      let ov ← eval o X.env
      standAt apos.atName
      let (f, first) ← holding [ov] (getMethod ov m pl)
      callWith pos f first (backTo pos (starEach [] X.env)) (backToKw pos (keywordEach kws X.env))) := by rfl) :
    PE X (.Call (.Attribute o m apos) [] kws pos) (tMethK C m 0 ks.length sp gV E ta tNil tk) where
  run pins s σ H Q I h := by
    refine PySem.W.methodCall_KW (pl := pl) (thn (he.run pins s σ H _ I h) ?_) ht
    rintro u s₁ ⟨_, H₁, I₁, rx, a, dx, fs, rfl, ea, l, q⟩
    obtain rfl : u = .ref a := rx
    apply getmeth_ok I₁ ea c hm l
    refine PySem.W.callWith_KW0 (first := [.ref a]) (h₀ := X.base) I₁.ok.mod.kin hm.kp hall (thn (hkw.run pos pins s₁ σ H₁ _ I₁ q) ?_) hpl
    rintro ws s₂ ⟨zs, H₂, I₂, rz, _, l2, q₂⟩
    rw [hks]
    exact ⟨I₂.kIn, run_fnN (vs := [.ref a]) F hr hb hx I₂ (.cons rfl .nil) rz rfl l2 q₂⟩
/-- o.m(e, .., k = v, ..) -/
theorem pe_methKN (he : PE X o ta) (c : Cls X.K C) (hm : Meth X.K C m f) (F : FnOk X.prog X.w X.K X.mg X.base CX k f fd ps sp) (hr : Room k X.A) (hb : KBn X.K fd ps (n + 1) ks g gV) (hx : Passes CX X E) (ha : PA X (e :: es) t) (hkw : PK X kws tk)
    (hall : (backToKw pos (keywordEach kws X.env)).all (·.1.isSome) = true := by rfl) (hks : (backToKw pos (keywordEach kws X.env)).filterMap (·.1) = ks := by rfl)
    (hst : starEach (e :: es) X.env = (false, eval e X.env) :: starEach es X.env := by rfl) (hpl : ((backTo pos (starEach (e :: es) X.env)).any (·.1) || (backToKw pos (keywordEach kws X.env)).any (·.1.isNone)) = false := by rfl)
    (ht : eval (.Call (.Attribute o m apos) (e :: es) kws pos) X.env = (do
      let ov ← eval o X.env
      standAt apos.atName
      let (f, first) ← holding [ov] (getMethod ov m pl)
      callWith pos f first (backTo pos (starEach (e :: es) X.env)) (backToKw pos (keywordEach kws X.env))) := by rfl) :
    PE X (.Call (.Attribute o m apos) (e :: es) kws pos) (tMethK C m n ks.length sp gV E ta t tk) where
  run pins s σ H Q I h := by
    refine PySem.W.methodCall_KW (pl := pl) (thn (he.run pins s σ H _ I h) ?_) ht
    rintro u s₁ ⟨_, H₁, I₁, rx, a, dx, fs, rfl, ea, l, q⟩
    obtain rfl : u = .ref a := rx
    apply getmeth_ok I₁ ea c hm l
    refine PySem.W.callWith_KW (first := [.ref a]) (h₀ := X.base) I₁.ok.mod.kin hm.kp hall (thn (ha.run pos pins s₁ σ H₁ _ I₁ q) ?_) hpl hst
    rintro us s₂ ⟨vs, H₂, I₂, r, q₂⟩
    refine thn (hkw.run pos pins s₂ σ H₂ _ I₂ q₂) ?_
    rintro ws s₃ ⟨zs, H₃, I₃, rz, l1, l2, q₃⟩
    rw [hks]
    exact ⟨I₃.kIn, run_fnN (us := .ref a :: us) (vs := .ref a :: vs) F hr hb hx I₃ (.cons rfl r) rz (congrArg (· + 1) l1) l2 q₃⟩
end
/-! ### list.count of bools -/
def isBv (b : Bool) : Value → Bool | .bool c => c == b | _ => false
def rCntB (K : PySem.W.Frag) : V → List V → Hp → VK → Prop := fun x xs H Q => ∃ (p : Addr) (bs : List Bool) (b : Bool), x = .ref p ∧ xs = [.bl b] ∧ SqL K H p (bs.map V.bl) ∧ Q (.int (bs.count b : Nat)) H
theorem vals_bools : ∀ {bs : List Bool} {us : List Value}, Vals (bs.map V.bl) us → us = bs.map Value.bool
  | [], _, r => by cases r; rfl
  | b :: bs, _, r => by
    cases r with
    | cons r₁ r₂ =>
      cases r₁
      rw [vals_bools r₂]
      rfl
theorem count_bools (b : Bool) : ∀ bs : List Bool, (bs.map Value.bool).countP (isBv b) = bs.count b
  | [] => rfl
  | c :: bs => by
    rw [List.map_cons, List.countP_cons, List.count_cons, count_bools b bs]
    rfl
theorem mt_countB {X : Cx} : MtR X "list.count" (rCntB X.K) := by
  rintro pins s σ H x xs v us Q I rx rxs ⟨p, bs, b, rfl, rfl, hs, q⟩
  obtain rfl : v = .ref p := rx
  obtain ⟨u, rfl, ru⟩ := rxs.one
  cases ru
  obtain ⟨its, rv, ⟨⟨cls, dd, data, sl⟩, n, ho, hc, hdn, hd⟩, _⟩ := I.list hs
  dsimp only at hc hd
  subst hc hd
  obtain rfl := vals_bools rv
  refine call_meets PySem.F.slot_list_count ⟨_, ho, rfl⟩ PySem.F.entry_list_count (PySem.F.args_list_count_2 _ _) (SeqAt.list_countAt p (bs.map Value.bool).toArray n dd sl (.bool b) (isBv b)) ⟨ho, fun y hy => ?_, ?_⟩
  · obtain ⟨c, _, rfl⟩ := List.mem_map.mp (List.mem_toArray.mp hy)
    have z := eqAt_V (A := X.A.in1) (s := s) (x := .bl b) (y := .bl c) rfl rfl rfl rfl
    exact z
  · refine ⟨.int (bs.count b : Nat), H, I.tok _, ⟨s.toks, ?_⟩, q⟩
    rw [← count_bools b bs]
end L3
set_option maxRecDepth 100000
set_option maxHeartbeats 4000000
/-! != of two lists whose items are equal by their own == -/
namespace L3
open PySem PySem.Spec PySem.SeqAt PyProof.Rows L2
open AutoSeq1 (wpAny_loadPart')
open MeetsSeq MeetsSeq2 MeetsSeq3 SeqRoads2
section
variable {prog : Program} {w : World} {A : Around} {R : Result → Shared → Prop} {l b : Addr} {N : Nat} {I : Nat → Shared → Prop}
theorem ne_turns (hl : GQ.ListI prog w A (fun e s' => R (.error e) s') l b N I) (fin : ∀ s, I N s → R (.ok (.ret (.bool false))) s) : ∀ (left i : Nat), i + left = N → ∀ s, I i s →
    wpAny (model prog w) A.in1 (Builtin.«list.__eq__.loop» ⟨[.ref l, .ref b, rawInt i, rawInt 3], []⟩) (GQ.FinOf prog w A R) (fun e s' => R (.error e) s') s
  | 0, i, e, s, h => by
    obtain rfl : i = N := e
    obtain ⟨xs, ys, _, _, ex, ey, zx, zy, _⟩ := hl _ _ h
    have done := fin s h
    obtain ⟨hp, g, d, tk, os⟩ := s
    wp_walk using wpAny_loadPart' ex, wpAny_loadPart' ey
    rw [show xs[((i : Nat) : Int).toNat]? = none from by simp [zx], show ys[((i : Nat) : Int).toNat]? = none from by simp [zy]]
    wp_walk using wpAny_loadPart' ex, wpAny_loadPart' ey
    show R (.ok (.ret (.bool (xs.size != ys.size)))) _
    simpa [zx, zy] using done
  | left + 1, i, e, s, h => by
    obtain ⟨xs, ys, _, _, ex, ey, zx, zy, turn⟩ := hl _ _ h
    have ix : i < xs.size := by omega
    have iy : i < ys.size := by omega
    have step := turn ix iy
    obtain ⟨hp, g, d, tk, os⟩ := s
    wp_walk using wpAny_loadPart' ex, wpAny_loadPart' ey
    rw [show xs[((i : Nat) : Int).toNat]? = some xs[i] from by simp [ix], show ys[((i : Nat) : Int).toNat]? = some ys[i] from by simp [iy]]
    refine wpAny_bind (wpAny_mono step ?_ fun _ _ x => x)
    rintro r s₂ ⟨rfl, h₂⟩
    have rest := ne_turns hl fin left (i + 1) (by omega) s₂ h₂
    obtain ⟨hp2, g2, d2, tk2, os2⟩ := s₂
    wp_walk
    rw [show ((i : Int) + 1) = ((i + 1 : Nat) : Int) from by omega]
    exact ⟨plainId_quiet plain_eq_loop _, codeAny_builtin entry_eq_loop (by rw [Around.under_plainId plain_eq_loop _]; exact rest)⟩
theorem ne_lists (hl : GQ.ListI prog w A (fun e s' => R (.error e) s') l b N I) (fin : ∀ s, I N s → R (.ok (.ret (.bool false))) s) {s : Shared} (h : I 0 s) :
    wpAny (model prog w) A.in1 (Builtin.«list.__ne__» ⟨[.ref l, .ref b], []⟩) (GQ.FinOf prog w A R) (fun e s' => R (.error e) s') s := by
  obtain ⟨xs, ys, _, _, ex, ey, zx, zy, _⟩ := hl _ _ h
  have all := ne_turns hl fin N 0 (Nat.zero_add N) s h
  obtain ⟨hp, g, d, tk, os⟩ := s
  have sub := AutoSeq1.sub_list_list
  have same : ¬ (xs.size != ys.size) = true := by simp [zx, zy]
  wp_walk using wpAny_loadPart' ex, wpAny_loadPart' ey
  exact ⟨plainId_quiet plain_eq_loop _, codeAny_builtin entry_eq_loop (by rw [Around.under_plainId plain_eq_loop _]; exact all)⟩
end
section
variable {X : Cx} {n : Nat} {D : Eqv}
def rNeList (D : Eqv) : R2 := fun x y H Q => DList D x y H ∧ ∀ H', Ext H H' → Q (.bl false) H'
theorem op_neList (hD : Mon D) (h : EqG X n D) (hr : Room (n + 2) X.A) : OpR X (compareOp .NotEq) (rNeList D) := by
  rintro pins s σ H x y u v Q I rx ry ⟨⟨a, b, xs, ys, rfl, rfl, ha, hb, p⟩, q⟩
  cases rx
  cases ry
  have sb : Sub X (n + 1) X.A := ⟨hr.mono (by omega), rfl⟩
  show wpAny (model X.prog X.w) X.A (richCompare .NotEq (.ref a) (.ref b)) (EP X pins σ Q) X.xe s
  obtain ⟨_, _, _, _, ea⟩ := I.hok a _ ha
  obtain ⟨_, _, _, _, eb⟩ := I.hok b _ hb
  refine wpAny_richCompare_same_room (op := .NotEq) ⟨_, ea, rfl⟩ ⟨_, eb, rfl⟩ PySem.F.slot_list_ne (GQ.call_here PySem.F.slot_list_ne ⟨_, ea, rfl⟩ PySem.F.entry_list_ne (PySem.F.args_list_ne_2 _ _) ?_) hr.units0
  refine ne_lists (N := xs.length) (I := fun _ s' => LoopI X pins σ H s') (fun i s' hI => ?_) (fun s' hI => ?_) ⟨H, I, Ext.rfl'⟩
  · obtain ⟨H₁, I₁, e₁⟩ := id hI
    obtain ⟨_, its, k, r, e⟩ := I₁.hok a _ (e₁ _ _ ha)
    obtain ⟨_, its2, k2, r2, e2⟩ := I₁.hok b _ (e₁ _ _ hb)
    exact ⟨its.toArray, its2.toArray, k, k2, e, e2, by rw [List.size_toArray, ← r.length], by rw [List.size_toArray, ← r2.length, ← p.1], fun h1 h2 => turnG hD h sb p r r2 i h1 h2 s' hI⟩
  · obtain ⟨H₁, I₁, e₁⟩ := hI
    exact ⟨(fun z => nomatch z), .bl false, H₁, I₁, rfl, q H₁ e₁⟩
end
/-- the exception as it stands behind such an __init__ -/
theorem mk_sup {C : Addr} {x : Str} {y : V} {H : Hp} {Q : XK} {E : XK} (h : ∀ d, H d = none → Q (.ref C) (some d) (upd H d (.xd [(x, y)]))) : ∀ a, H a = none → spSup C x [.ref a, y] (upd H a (exo a C none))
    (fun v H₂ => v = .non ∧ ∃ (d : Addr) (fs : List (Str × V)), H₂ a = some (exo a C (some d)) ∧ H₂ d = some (exd d fs) ∧ H d = none ∧ Q (.ref C) (some d) (upd (L2.del H₂ a) d (.xd fs))) E := fun a na => by
  refine ⟨a, y, rfl, upd_same, fun d nd da => ⟨rfl, d, [(x, y)], upd_same, by rw [upd_ne da, upd_same], ?_, ?_⟩⟩
  · rw [upd_ne da] at nd
    exact nd
  · rw [upd_ne da] at nd
    have e : upd (L2.del (upd (upd (upd H a (exo a C none)) d (exd d [(x, y)])) a (exo a C (some d))) a) d (.xd [(x, y)]) = upd H d (.xd [(x, y)]) := by
      funext b
      by_cases z : b = d
      · rw [z, upd_same, upd_same]
      · rw [upd_ne z, upd_ne z]
        by_cases z' : b = a
        · rw [z', L2.del_same, na]
        · rw [L2.del_ne z', upd_ne z', upd_ne z, upd_ne z']
    rw [e]
    exact h d nd
end L3
set_option maxRecDepth 100000
set_option maxHeartbeats 4000000
/-! dicts: update by another dict -/
namespace L3
open PySem PySem.Spec PyProof.Rows L2
theorem length_mergeK : ∀ (ms ks : List (Key × V)), (mergeK ks ms).length ≤ ks.length + ms.length
  | [], ks => Nat.le_refl _
  | m :: ms, ks => by
    have h := length_mergeK ms (putK ks m.1 m.2)
    have e := length_putK ks m.1 m.2
    show (mergeK (putK ks m.1 m.2) ms).length ≤ _
    rw [List.length_cons]
    omega
/-- a.update(b), two dicts that are not one -/
def rUpdD : V → List V → Hp → VK → Prop := fun x xs H Q => ∃ (a b : Addr) (ks ms : List (Key × V)), x = .ref a ∧ xs = [.ref b] ∧ a ≠ b ∧ H a = some (.dK ks) ∧ H b = some (.dK ms) ∧ ks.length + ms.length ≤ sizeLine ∧ Q .non (upd H a (.dK (mergeK ks ms)))
theorem mt_updD {X : Cx} : MtR X "dict.update" rUpdD := by
  rintro pins s σ H x xs v us Q I rx rxs ⟨a, b, ks, ms, rfl, rfl, nab, ha, hb, hl, q⟩
  obtain rfl : v = .ref a := rx
  obtain ⟨u, rfl, ru⟩ := rxs.one
  obtain rfl : u = .ref b := ru
  obtain ⟨z1, lo1, vs, rel1, dd1⟩ := dk_of I.hok ha
  obtain ⟨z2, lo2, ws, rel2, dd2⟩ := dk_of I.hok hb
  refine call_meetsIn PySem.F.slot_dict_update dd1.typeIs PySem.F.entry_dict_update (PySem.F.args_dict_update_2 _ _) (meets_dict_update (mixKind X.prog X.w) a b nab lo2)
    ⟨vs, ws, dd1, dd2, (by rw [← rel1.length, ← rel2.length]; exact hl), fun h' d1 d2 hs => ?_⟩
  have J := d_write (t' := s.toks) (ob := .dK (mergeK ks ms)) I (by rw [ha]; exact True.intro) hs (let ⟨q, _, _, hq, _⟩ := d1; ⟨q, hq⟩) (dk_new (Nat.le_trans (length_mergeK ms ks) hl) lo1 (rel2.merge rel1) d1)
  exact ⟨.non, _, J, rfl, q⟩
/-- a dict comprehension over any walk: Pv by the turn and the heap, the new dict at D within -/
theorem dc_it {J : It} {n : Nat} {G : Hp → Prop} {Y : Nat → Hp → V → Hp → Prop} (w : Walk J n G Y) {g : TG} {tt : TT} {tk tv : TE} {vs : List Nat} {σ : L2.St} {H1 : Hp} {D : Addr} {Qd : Hp → Prop} (Pv : Nat → Hp → Prop) (h0 : Pv 0 (upd H1 D (.dK []))) (hG : ∀ i H, i ≤ n → Pv i H → G H)
    (hs : ∀ i x H H', i < n → Pv i H → Y i H x H' → g x (wipe σ vs) H' fun σ2 H2 => wipe σ2 vs = wipe σ vs ∧ tt σ2 H2 fun b H3 =>
      if b = true then tk σ2 H3 fun y H4 => tv σ2 H4 fun z H5 => ∃ kvs k, y = kV k ∧ H5 D = some (.dK kvs) ∧ kvs.length < sizeLine ∧ Pv (i + 1) (upd H5 D (.dK (putK kvs k z))) else Pv (i + 1) H3) (hd : ∀ H, Pv n H → Qd H) :
    ∃ W : Nat → Nat → Hp → Prop, (∃ m, W 0 m (upd H1 D (.dK []))) ∧ ∀ i m H, W i m H →
      (J.stop i H ∧ Qd H) ∨ (J.go i H ∧ ∃ Nx : Hp → Prop, (∀ H', Nx H' → ∃ m', m' < m ∧ W (i + 1) m' H') ∧ ∀ x H', J.yld i H x H' → g x (wipe σ vs) H' fun σ2 H2 => wipe σ2 vs = wipe σ vs ∧ tt σ2 H2 fun b H3 =>
        if b = true then tk σ2 H3 fun y H4 => tv σ2 H4 fun z H5 => ∃ kvs k, y = kV k ∧ H5 D = some (.dK kvs) ∧ kvs.length < sizeLine ∧ Nx (upd H5 D (.dK (putK kvs k z))) else Nx H3) := by
  refine ⟨fun i m H => m = n - i ∧ i ≤ n ∧ Pv i H, ⟨n, by simp, Nat.zero_le _, h0⟩, ?_⟩
  rintro i m H ⟨rfl, hi, p⟩
  have q := hG i H hi p
  rcases Nat.lt_or_ge i n with hlt | hge
  · refine .inr ⟨w.goes i H hlt q, Pv (i + 1), ?_, fun x H' y => hs i x H H' hlt p (w.yields i H x H' hlt q y)⟩
    intro H' p'
    exact ⟨n - (i + 1), by omega, rfl, hlt, p'⟩
  · obtain rfl : i = n := Nat.le_antisymm hi hge
    exact .inl ⟨w.stops H q, hd H p⟩
end L3
set_option maxRecDepth 100000
set_option maxHeartbeats 4000000
/-! plain memories: lists of pairs as dicts, without a program -/
namespace Pm
open PySem L2
section
variable {α β γ : Type} [DecidableEq α]
def lk (l : List (α × β)) (a : α) : Option β := (l.find? fun p => decide (p.1 = a)).map (·.2)
def pt (l : List (α × β)) (a : α) (b : β) : List (α × β) := if (l.any fun p => decide (p.1 = a)) = true then l.map (fun p => if p.1 = a then (p.1, b) else p) else l ++ [(a, b)]
def dr (l : List (α × β)) (a : α) : List (α × β) := l.filter fun p => decide (p.1 ≠ a)
theorem lk_nil (a : α) : lk ([] : List (α × β)) a = none := rfl
theorem lk_cons (p : α × β) (l : List (α × β)) (a : α) : lk (p :: l) a = if p.1 = a then some p.2 else lk l a := by
  by_cases e : p.1 = a <;> simp [lk, List.find?_cons, e]
theorem any_lk (a : α) : ∀ l : List (α × β), (l.any fun p => decide (p.1 = a)) = (lk l a).isSome
  | [] => rfl
  | p :: l => by
    rw [List.any_cons, any_lk a l, lk_cons]
    by_cases e : p.1 = a <;> simp [e]
theorem lk_map_pt (a c : α) (b : β) : ∀ l : List (α × β), lk (l.map fun p => if p.1 = a then (p.1, b) else p) c = if c = a then (lk l a).map fun _ => b else lk l c
  | [] => by simp [lk]
  | p :: l => by
    rw [List.map_cons, lk_cons, lk_map_pt a c b l, lk_cons, lk_cons]
    by_cases e : p.1 = a
    · by_cases f : c = a
      · subst f; simp [e]
      · have g : ¬ p.1 = c := fun z => f (z.symm.trans e)
        have g' : ¬ a = c := fun z => f z.symm
        simp [e, f, g']
    · by_cases f : c = a
      · subst f; simp [e]
      · simp [e, f]
theorem lk_app (l : List (α × β)) (p : α × β) (c : α) : lk (l ++ [p]) c = (lk l c).or (if p.1 = c then some p.2 else none) := by
  induction l with
  | nil => rw [List.nil_append, lk_cons]; rfl
  | cons q l ih =>
    rw [List.cons_append, lk_cons, lk_cons, ih]
    by_cases e : q.1 = c <;> simp [e]
theorem lk_pt (l : List (α × β)) (a c : α) (b : β) : lk (pt l a b) c = if c = a then some b else lk l c := by
  unfold pt
  rw [any_lk]
  cases h : lk l a with
  | some x =>
    simp only [Option.isSome_some, if_true]
    rw [lk_map_pt, h]
    rfl
  | none =>
    rw [if_neg (by simp), lk_app]
    by_cases e : c = a
    · subst e; simp [h]
    · have e' : ¬ a = c := fun z => e z.symm
      simp [e, e']
theorem lk_dr (l : List (α × β)) (a c : α) : lk (dr l a) c = if c = a then none else lk l c := by
  induction l with
  | nil => simp [dr, lk]
  | cons p l ih =>
    unfold dr at ih ⊢
    rw [List.filter_cons]
    by_cases e : p.1 = a
    · rw [if_neg (by simp [e]), ih, lk_cons]
      by_cases f : c = a
      · simp [f]
      · have g : ¬ p.1 = c := fun z => f (z.symm.trans e)
        simp [f, g]
    · rw [if_pos (by simp [e]), lk_cons, ih, lk_cons]
      by_cases f : c = a
      · subst f; simp [e]
      · simp [f]
theorem lk_none (l : List (α × β)) (a : α) : lk l a = none ↔ a ∉ l.map (·.1) := by
  induction l with
  | nil => simp [lk]
  | cons p l ih =>
    rw [lk_cons, List.map_cons, List.mem_cons]
    by_cases e : p.1 = a
    · simp [e]
    · have e' : ¬ a = p.1 := fun z => e z.symm
      simp [e, e', ih]
theorem lk_mem {l : List (α × β)} {a : α} {b : β} (h : lk l a = some b) : (a, b) ∈ l := by
  induction l with
  | nil => cases h
  | cons p l ih =>
    rw [lk_cons] at h
    by_cases e : p.1 = a
    · rw [if_pos e] at h
      cases h
      exact List.mem_cons.mpr (.inl (by rw [← e]))
    · rw [if_neg e] at h
      exact List.mem_cons_of_mem _ (ih h)
theorem lk_of_mem {l : List (α × β)} {p : α × β} (n : (l.map (·.1)).Nodup) (h : p ∈ l) : lk l p.1 = some p.2 := by
  induction l with
  | nil => cases h
  | cons q l ih =>
    rw [List.map_cons, List.nodup_cons] at n
    rw [lk_cons]
    rcases List.mem_cons.mp h with e | h'
    · subst e; simp
    · have : ¬ q.1 = p.1 := fun z => n.1 (z ▸ List.mem_map.mpr ⟨p, h', rfl⟩)
      rw [if_neg this]
      exact ih n.2 h'
theorem pt_new {l : List (α × β)} {a : α} (b : β) (h : lk l a = none) : pt l a b = l ++ [(a, b)] := by
  unfold pt
  rw [any_lk, h, if_neg (by simp)]
theorem keys_pt_old {l : List (α × β)} {a : α} (b : β) (h : (lk l a).isSome = true) : (pt l a b).map (·.1) = l.map (·.1) := by
  unfold pt
  rw [any_lk, h, if_pos rfl, List.map_map]
  refine List.map_congr_left fun p _ => ?_
  by_cases e : p.1 = a <;> simp [e]
theorem mem_keys_pt (l : List (α × β)) (a c : α) (b : β) : c ∈ (pt l a b).map (·.1) ↔ c = a ∨ c ∈ l.map (·.1) := by
  have h : ∀ l : List (α × β), c ∈ l.map (·.1) ↔ ¬ lk l c = none := fun l => by rw [lk_none]; simp
  rw [h, h, lk_pt]
  by_cases e : c = a <;> simp [e]
theorem nodup_pt {l : List (α × β)} {a : α} {b : β} (n : (l.map (·.1)).Nodup) : ((pt l a b).map (·.1)).Nodup := by
  cases h : lk l a with
  | some x => rw [keys_pt_old b (by rw [h]; rfl)]; exact n
  | none =>
    rw [pt_new b h, List.map_append, List.nodup_append]
    refine ⟨n, by simp, fun x hx y hy => ?_⟩
    simp at hy
    subst hy
    intro e
    subst e
    exact (lk_none l x).mp h hx
theorem nodup_dr {l : List (α × β)} {a : α} (n : (l.map (·.1)).Nodup) : ((dr l a).map (·.1)).Nodup :=
  List.Sublist.nodup (List.Sublist.map _ List.filter_sublist) n
theorem length_pt (l : List (α × β)) (a : α) (b : β) : (pt l a b).length ≤ l.length + 1 := by
  unfold pt
  split
  · rw [List.length_map]; omega
  · rw [List.length_append]; simp
theorem length_dr (l : List (α × β)) (a : α) : (dr l a).length ≤ l.length := List.length_filter_le _ _
/-- a map of the values -/
theorem pt_vals (f : β → γ) (l : List (α × β)) (a : α) (b : β) : (pt l a b).map (fun p => (p.1, f p.2)) = pt (l.map fun p => (p.1, f p.2)) a (f b) := by
  unfold pt
  rw [List.any_map]
  show List.map _ (if (l.any fun p => decide (p.1 = a)) = true then _ else _) = if (l.any fun p => decide (p.1 = a)) = true then _ else _
  split
  · rw [List.map_map, List.map_map]
    refine List.map_congr_left fun p _ => ?_
    by_cases e : p.1 = a <;> simp [e]
  · rw [List.map_append]; rfl
theorem dr_vals (f : β → γ) (l : List (α × β)) (a : α) : (dr l a).map (fun p => (p.1, f p.2)) = dr (l.map fun p => (p.1, f p.2)) a := by
  unfold dr
  rw [List.filter_map]
  rfl
theorem lk_vals (f : β → γ) (l : List (α × β)) (a : α) : lk (l.map fun p => (p.1, f p.2)) a = (lk l a).map f := by
  induction l with
  | nil => rfl
  | cons p l ih =>
    rw [List.map_cons, lk_cons, lk_cons, ih]
    by_cases e : p.1 = a <;> simp [e]
end
/-- as the dict holds them -/
def kv {α β : Type} (kf : α → Key) (vf : β → V) (l : List (α × β)) : List (Key × V) := l.map fun p => (kf p.1, vf p.2)
section
variable {α β : Type} [DecidableEq α] {kf : α → Key} {vf : β → V}
theorem kv_val (inj : ∀ a b, kf a = kf b → a = b) (l : List (α × β)) (a : α) : valV (kv kf vf l) (kf a) = (lk l a).map vf := by
  induction l with
  | nil => rfl
  | cons p l ih =>
    rw [lk_cons]
    by_cases e : p.1 = a
    · rw [if_pos e]
      exact valV_pos (congrArg kf e)
    · rw [if_neg e, ← ih]
      exact valV_neg fun z => e (inj _ _ z)
theorem kv_put (inj : ∀ a b, kf a = kf b → a = b) (l : List (α × β)) (a : α) (b : β) : putK (kv kf vf l) (kf a) (vf b) = kv kf vf (pt l a b) := by
  unfold putK pt
  rw [show ((kv kf vf l).any fun q => decide (q.1 = kf a)) = (l.any fun p => decide (p.1 = a)) from by
    unfold kv
    rw [List.any_map]
    congr 1
    funext p
    exact decide_eq_decide.mpr ⟨inj _ _, congrArg kf⟩]
  split
  · unfold kv
    rw [List.map_map, List.map_map]
    refine List.map_congr_left fun p _ => ?_
    by_cases e : p.1 = a
    · simp [e]
    · have z : ¬ kf p.1 = kf a := fun z => e (inj _ _ z)
      simp [e, z]
  · unfold kv
    rw [List.map_append]; rfl
theorem kv_drop (inj : ∀ a b, kf a = kf b → a = b) (l : List (α × β)) (a : α) : dropK (kv kf vf l) (kf a) = kv kf vf (dr l a) := by
  unfold dropK dr kv
  rw [List.filter_map]
  congr 1
  refine List.filter_congr fun p _ => ?_
  exact decide_eq_decide.mpr ⟨fun z e => z (congrArg kf e), fun z e => z (inj _ _ e)⟩
theorem kv_length (l : List (α × β)) : (kv kf vf l).length = l.length := List.length_map _
end
/-- places with contents, in the order of the dict -/
abbrev Pl := List (Int × Int)
def dI : Pl → List (Key × V) := kv Sum.inl V.int
def injI : ∀ a b : Int, (Sum.inl a : Key) = Sum.inl b → a = b := fun _ _ e => Sum.inl.inj e
def injS : ∀ a b : Str, (Sum.inr a : Key) = Sum.inr b → a = b := fun _ _ e => Sum.inr.inj e
theorem dI_val (d : Pl) (i : Int) : valV (dI d) (Sum.inl i) = (lk d i).map V.int := kv_val injI d i
theorem dI_put (d : Pl) (i v : Int) : putK (dI d) (Sum.inl i) (.int v) = dI (pt d i v) := kv_put injI d i v
theorem dI_drop (d : Pl) (i : Int) : dropK (dI d) (Sum.inl i) = dI (dr d i) := kv_drop injI d i
theorem dI_length (d : Pl) : (dI d).length = d.length := kv_length d
/-- many are put -/
def pts (d : Pl) (l : List (Int × Int)) : Pl := l.foldl (fun acc p => pt acc p.1 p.2) d
theorem dI_merge : ∀ (l d : Pl), mergeK (dI d) (dI l) = dI (pts d l)
  | [], d => rfl
  | p :: l, d => by
    show mergeK (putK (dI d) (Sum.inl p.1) (.int p.2)) (dI l) = dI (pts (pt d p.1 p.2) l)
    rw [dI_put]
    exact dI_merge l _
def zeros (b : Int) (n : Nat) : Pl := (List.range n).map fun i : Nat => (b + (i : Int), 0)
theorem zeros_succ (b : Int) (n : Nat) : zeros b (n + 1) = zeros b n ++ [(b + (n : Int), 0)] := by
  unfold zeros
  rw [List.range_succ, List.map_append]; rfl
theorem lk_zeros (b : Int) (n : Nat) (c : Int) : lk (zeros b n) c = if b ≤ c ∧ c < b + n then some 0 else none := by
  induction n with
  | zero =>
    rw [if_neg (by omega)]
    rfl
  | succ n ih =>
    rw [zeros_succ, lk_app, ih]
    by_cases h : b ≤ c ∧ c < b + n
    · rw [if_pos h, if_pos (show b ≤ c ∧ c < b + ((n + 1 : Nat) : Int) by omega)]; rfl
    · rw [if_neg h]
      by_cases e : b + (n : Int) = c
      · rw [if_pos (show b ≤ c ∧ c < b + ((n + 1 : Nat) : Int) by omega)]; simp [e]
      · rw [if_neg (show ¬ (b ≤ c ∧ c < b + ((n + 1 : Nat) : Int)) by omega)]; simp [e]
theorem lk_pts (l d : Pl) (c : Int) (v : Int) (h : ∀ p ∈ l, p.2 = v) : lk (pts d l) c = if c ∈ l.map (·.1) then some v else lk d c := by
  induction l generalizing d with
  | nil => simp [pts]
  | cons p l ih =>
    show lk (pts (pt d p.1 p.2) l) c = _
    rw [ih _ fun q hq => h q (List.mem_cons_of_mem _ hq), lk_pt]
    simp only [List.map_cons, List.mem_cons]
    have e := h p List.mem_cons_self
    by_cases h1 : c ∈ l.map (·.1)
    · simp [h1]
    · by_cases h2 : c = p.1
      · simp [h1, h2, e]
      · simp [h1, h2]
def mapP (d : Pl) (b : Int) (n : Nat) : Pl := pts d (zeros b n)
theorem keys_zeros (b : Int) (n : Nat) (c : Int) : c ∈ (zeros b n).map (·.1) ↔ b ≤ c ∧ c < b + n := by
  have h := lk_none (zeros b n) c
  rw [lk_zeros] at h
  by_cases e : b ≤ c ∧ c < b + n
  · rw [if_pos e] at h
    simp only [e, and_self, iff_true]
    exact Decidable.byContradiction fun z => by simpa using h.mpr z
  · rw [if_neg e] at h
    simp only [e, iff_false]
    exact h.mp rfl
theorem lk_mapP (d : Pl) (b : Int) (n : Nat) (c : Int) : lk (mapP d b n) c = if b ≤ c ∧ c < b + n then some 0 else lk d c := by
  unfold mapP
  rw [lk_pts _ _ _ 0 (fun p hp => by
    unfold zeros at hp
    obtain ⟨i, _, rfl⟩ := List.mem_map.mp hp
    rfl)]
  by_cases h : b ≤ c ∧ c < b + n
  · rw [if_pos h, if_pos ((keys_zeros b n c).mpr h)]
  · rw [if_neg h, if_neg fun z => h ((keys_zeros b n c).mp z)]
def unmapP (d : Pl) (b : Int) : Nat → Pl
  | 0 => d
  | n + 1 => dr (unmapP d b n) (b + (n : Int))
theorem lk_unmapP (d : Pl) (b : Int) (n : Nat) (c : Int) : lk (unmapP d b n) c = if b ≤ c ∧ c < b + n then none else lk d c := by
  induction n with
  | zero => rw [if_neg (by omega)]; rfl
  | succ n ih =>
    show lk (dr _ _) c = _
    rw [lk_dr, ih]
    by_cases e : c = b + (n : Int)
    · rw [if_pos e, if_pos (by omega)]
    · rw [if_neg e]
      by_cases h : b ≤ c ∧ c < b + n
      · rw [if_pos h, if_pos (by omega)]
      · rw [if_neg h, if_neg (by omega)]
/-- inside[to + i] = inside.pop(b + i), i below n -/
def moveP (d : Pl) (b to : Int) : Nat → Pl
  | 0 => d
  | n + 1 => let e := moveP d b to n; pt (dr e (b + (n : Int))) (to + (n : Int)) ((lk e (b + (n : Int))).getD 0)
/-- the first place from b on, of n, that d has -/
def used (d : Pl) (b : Int) : Nat → Option Int
  | 0 => none
  | n + 1 => match used d b n with
    | some i => some i
    | none => if (lk d (b + (n : Int))).isSome = true then some (b + (n : Int)) else none
/-- the first one that it lacks -/
def lacks (d : Pl) (b : Int) : Nat → Option Int
  | 0 => none
  | n + 1 => match lacks d b n with
    | some i => some i
    | none => if (lk d (b + (n : Int))).isSome = true then none else some (b + (n : Int))
theorem used_none (d : Pl) (b : Int) (n : Nat) : used d b n = none ↔ ∀ i : Nat, i < n → lk d (b + (i : Int)) = none := by
  induction n with
  | zero => simp [used]
  | succ n ih =>
    unfold used
    cases h : used d b n with
    | some i =>
      rw [h] at ih
      simp only [reduceCtorEq, false_iff] at ih ⊢
      exact fun z => ih fun i hi => z i (by omega)
    | none =>
      rw [h] at ih
      have ih' := ih.mp rfl
      cases e : lk d (b + (n : Int)) with
      | some x =>
        simp only [Option.isSome_some, if_true, reduceCtorEq, false_iff]
        exact fun z => by rw [z n (by omega)] at e; cases e
      | none =>
        simp only [Option.isSome_none, Bool.false_eq_true, if_false, true_iff]
        intro i hi
        by_cases q : i = n
        · rw [q]; exact e
        · exact ih' i (by omega)
theorem lacks_none (d : Pl) (b : Int) (n : Nat) : lacks d b n = none ↔ ∀ i : Nat, i < n → (lk d (b + (i : Int))).isSome = true := by
  induction n with
  | zero => simp [lacks]
  | succ n ih =>
    unfold lacks
    cases h : lacks d b n with
    | some i =>
      rw [h] at ih
      simp only [reduceCtorEq, false_iff] at ih ⊢
      exact fun z => ih fun i hi => z i (by omega)
    | none =>
      rw [h] at ih
      have ih' := ih.mp rfl
      cases e : lk d (b + (n : Int)) with
      | some x =>
        simp only [Option.isSome_some, if_true, true_iff]
        intro i hi
        by_cases q : i = n
        · rw [q, e]; rfl
        · exact ih' i (by omega)
      | none =>
        simp only [Option.isSome_none, Bool.false_eq_true, if_false, reduceCtorEq, false_iff]
        exact fun z => by have := z n (by omega); rw [e] at this; cases this
/-- a move of n places that are there to places that are free -/
theorem lk_moveP (d : Pl) (b to : Int) (n : Nat) (h1 : ∀ i : Nat, i < n → (lk d (b + (i : Int))).isSome = true) (h2 : ∀ i : Nat, i < n → lk d (to + (i : Int)) = none) (c : Int) :
    lk (moveP d b to n) c = if to ≤ c ∧ c < to + n then lk d (b + (c - to)) else if b ≤ c ∧ c < b + n then none else lk d c := by
  induction n generalizing c with
  | zero => rw [if_neg (by omega), if_neg (by omega)]; rfl
  | succ n ih =>
    have ih' := ih (fun i hi => h1 i (by omega)) (fun i hi => h2 i (by omega))
    have ne : ∀ i j : Nat, i < n + 1 → j < n + 1 → b + (i : Int) ≠ to + (j : Int) := fun i j hi hj e => by
      have a := h1 i hi
      rw [e, h2 j hj] at a
      cases a
    show lk (pt (dr (moveP d b to n) _) _ _) c = _
    have eb : lk (moveP d b to n) (b + (n : Int)) = lk d (b + (n : Int)) := by
      rw [ih']
      rw [if_neg (fun z => ne n ((b + n - to).toNat) (by omega) (by omega) (by omega)), if_neg (by omega)]
    rw [lk_pt, lk_dr, eb, ih']
    obtain ⟨x, hx⟩ := Option.isSome_iff_exists.mp (h1 n (by omega))
    by_cases e1 : c = to + (n : Int)
    · subst e1
      rw [if_pos rfl, if_pos (by omega), hx, show b + (to + (n : Int) - to) = b + (n : Int) by omega, hx]
      rfl
    · rw [if_neg e1]
      by_cases e2 : c = b + (n : Int)
      · subst e2
        rw [if_pos rfl, if_neg (fun z => ne n ((b + n - to).toNat) (by omega) (by omega) (by omega)), if_pos (by omega)]
      · rw [if_neg e2]
        have A : (to ≤ c ∧ c < to + ((n + 1 : Nat) : Int)) ↔ (to ≤ c ∧ c < to + n) := by omega
        have B : (b ≤ c ∧ c < b + ((n + 1 : Nat) : Int)) ↔ (b ≤ c ∧ c < b + n) := by omega
        simp only [A, B]
end Pm
set_option maxRecDepth 100000
set_option maxHeartbeats 4000000
/-! the draws -/
namespace Bm
open PySem L2
def top (i : Nat) : Stmt := PySem.Challenge.pw_backmaps_k06_areas_and_plain_memories_by.main.body.getD i (.Pass ⟨0, 0, 0, 0⟩)
abbrev sState : Stmt := top 26
abbrev sDraw : Stmt := top 27
abbrev sPick : Stmt := top 28

/-- the state of the draws stands at d, its stock at st -/
def Dr (d st : Addr) (H : Hp) : Prop := ∃ (ms : List Int) (sp mx : Int), H d = some (.lst [.ref st, .int sp, .int mx]) ∧ H st = some (.lst (ms.map V.int)) ∧ 0 < ms.length ∧ ms.length ≤ 63 ∧ 0 ≤ mx ∧ mx < 2147483647
/-- all but the state of the draws is kept -/
def Kp (d st : Addr) (H H' : Hp) : Prop := ∀ b o, H b = some o → b ≠ d → b ≠ st → H' b = some o
theorem Kp.refl {d st : Addr} {H : Hp} : Kp d st H H := fun _ _ h _ _ => h
theorem Kp.trans {d st : Addr} {H H1 H2 : Hp} (a : Kp d st H H1) (b : Kp d st H1 H2) : Kp d st H H2 := fun c o h n1 n2 => b c o (a c o h n1 n2) n1 n2

def spState (K : PySem.W.Frag) : Sp := fun vs H Q _ => ∃ (a : Addr) (ns : List Int), vs = [.ref a] ∧ SqL K H a (ns.map V.int) ∧ ns.length ≤ 63 ∧
  ∀ (d st : Addr) (H' : Hp), Same H H' → H d = none → H st = none → Dr d st H' → Q (.ref d) H'
def spDraw : Sp := fun vs H Q _ => ∃ (d st : Addr) (b : Int), vs = [.ref d, .int b] ∧ Dr d st H ∧ 0 < b ∧ b < 1073741824 ∧
  ∀ (r : Int) (H' : Hp), 0 ≤ r → r < b → Dr d st H' → Kp d st H H' → Q (.int r) H'
structure TB (mg : Str → Option Value) : Prop where
  int_ : mg "int" = none
  len_ : mg "len" = none
  abs_ : mg "abs" = none
section
variable {P : Program} {w : World} {K : PySem.W.Frag} {mg : Str → Option Value} {base : Heap}
theorem scDraw : FnScope ["_law_draw_here", "_law_below", "_law_stock", "_law_spot", "_law_lump"] ["_law_draw_here", "_law_below"] (defScope sDraw) := ⟨rfl, rfl, rfl, by decide +kernel, rfl, by decide +kernel, by decide +kernel⟩
theorem ok_draw {f : Addr} {fd : FuncData} (F : Fun K "_law_draw" "_law_draw" sDraw f fd) (T : TB mg) : FnOk P w K mg base CX0 1 f fd ["_law_draw_here", "_law_below"] spDraw := by
  refine F.ok scDraw (fun vs H Q E h => ?_) (fun cdv A outer s H vs Q E hr h => ?_)
  · obtain ⟨d, st, b, rfl, _⟩ := h
    rfl
  · obtain ⟨d, st, b, rfl, ⟨ms, sp, mx, hd, hs, hp, hl, hm0, hm1⟩, hb0, hb1, k⟩ := h
    have nds : d ≠ st := ne_of hd hs (by
      intro z
      have z1 := HO.lst.inj z
      cases ms with
      | nil => simp at z1
      | cons m r => simp at z1)
    refine ⟨_, pss_cons (ps_set (i := 2) scDraw.nd rfl (Or.inl rfl) (pe_ix ix_list (pv 0) pe_int (fun _ _ => rfl)))
      (pss_cons (ps_set (i := 3) scDraw.nd rfl (Or.inl rfl) (pe_op op_modN (pe_callTy call_int1 (by rfl) T.int_ (by decide +kernel) (pa_cons (pe_ix ix_list (pv 0) pe_int (fun _ _ => rfl)) pa_nil)) (pe_callB call_len_seq (by rfl) T.len_ PySem.boot_len (pa_cons (pv 2) pa_nil))))
      (pss_cons (ps_set (i := 4) scDraw.nd rfl (Or.inl rfl) (pe_ix ix_list (pv 2) (pv 3) (fun _ _ => rfl)))
      (pss_cons (ps_if (pt_cmpR op_ge (pv 4) (pe_op op_pow pe_int pe_int) (nomark _))
        (pss_cons (ps_asg (pe_op op_fdivN (pv 4) (pv 1)) (pg_sub (pv 2) (pv 3) set_list))
          (pss_one (ps_ret (pe_op op_modN (pe_callTy call_int1 (by rfl) T.int_ (by decide +kernel) (pa_cons (pv 4) pa_nil)) (pv 1))))) pss_nil)
      (pss_cons (ps_asg (pe_op op_add (pe_ix ix_list (pv 0) pe_int (fun _ _ => rfl)) pe_int) (pg_sub (pv 0) pe_int set_list))
      (pss_cons (ps_asg (pe_op op_modN (pe_callTy call_int1 (by rfl) T.int_ (by decide +kernel) (pa_cons (pe_op op_add (pe_op op_add (pe_op op_add (pe_op op_mul (pe_ix ix_list (pv 0) pe_int (fun _ _ => rfl)) pe_int) (pv 4)) (pe_op op_mul pe_int (pe_ix ix_list (pv 0) pe_int (fun _ _ => rfl)))) pe_int) pa_nil)) pe_int) (pg_sub (pv 0) pe_int set_list))
      (pss_one (ps_ret (pe_op op_modN (pe_callTy call_int1 (by rfl) T.int_ (by decide +kernel) (pa_cons (pe_op op_fdivN (pe_op op_modN (pe_callTy call_int1 (by rfl) T.int_ (by decide +kernel) (pa_cons (pe_op op_mul (pe_ix ix_list (pv 0) pe_int (fun _ _ => rfl)) (pe_ix ix_list (pv 0) pe_int (fun _ _ => rfl))) pa_nil)) pe_int) pe_int) pa_nil)) (pv 1))))))))), ?_⟩
    have hpz : ((ms.map V.int).length : Int) ≠ 0 := by rw [List.length_map]; omega
    -- stock = d[0]; spot = int(d[1]) % len(stock)
    refine ⟨_, rfl, _, _, _, _, rfl, rfl, SqL.of hd, rfl, ?_⟩
    refine ⟨_, rfl, _, _, _, _, rfl, rfl, SqL.of hd, rfl, Or.inl ⟨_, rfl, _, rfl, _, _, rfl, .inl (SqL.of hs), _, _, rfl, rfl, hpz, ?_⟩⟩
    -- lump = stock[spot]
    obtain ⟨j, hj, ej⟩ : ∃ j : Nat, j < ms.length ∧ sp.fmod ((ms.map V.int).length : Int) = (j : Int) := by
      rw [List.length_map]
      rw [Int.fmod_eq_emod_of_nonneg _ (by omega)]
      have h1 := Int.emod_nonneg sp (show ((ms.length : Int)) ≠ 0 by omega)
      have h2 := Int.emod_lt_of_pos sp (show (0 : Int) < (ms.length : Int) by omega)
      exact ⟨(sp % (ms.length : Int)).toNat, by omega, by omega⟩
    have hat : atI (ms.map V.int) (sp.fmod ((ms.map V.int).length : Int)) = some (V.int ms[j]) := by
      rw [ej]
      exact atI_nat (by rw [List.getElem?_map, List.getElem?_eq_getElem hj] <;> rfl)
    have hix : ixN (ms.map V.int).length (sp.fmod ((ms.map V.int).length : Int)) = some j := by
      rw [ej]
      unfold ixN
      rw [List.length_map, if_pos (by omega), if_pos (by omega)]
      simp
    refine ⟨_, rfl, _, rfl, _, _, _, _, rfl, rfl, SqL.of hs, hat, ?_⟩
    have hb2 : b.natAbs < 1073741824 := by omega
    -- if lump >= 10 ** 18
    refine ⟨_, rfl, _, _, rfl, rfl, ⟨by decide, by decide, by decide⟩, _, _, rfl, rfl, _, rfl, ?_⟩
    refine ite2 (fun _ => ?_) (fun _ => ?_)
    · refine ⟨_, rfl, _, rfl, _, _, rfl, rfl, ⟨by omega, hb2⟩, _, rfl, _, rfl, _, _, _, j, rfl, rfl, hs, hix, ?_⟩
      refine ⟨_, rfl, Or.inl ⟨_, rfl, _, rfl, _, _, rfl, rfl, by omega, ?_⟩⟩
      refine k _ _ ?_ ?_ ⟨ms.set j (ms[j].fdiv b), sp, mx, by rw [upd_ne nds]; exact hd, ?_, by rw [List.length_set]; exact hp, by rw [List.length_set]; exact hl, hm0, hm1⟩ fun c o e n1 n2 => ?_
      · rw [Int.fmod_eq_emod_of_nonneg _ (by omega)]
        exact Int.emod_nonneg _ (by omega)
      · rw [Int.fmod_eq_emod_of_nonneg _ (by omega)]
        exact Int.emod_lt_of_pos _ hb0
      · rw [upd_same, List.map_set]
      · rw [upd_ne n2]
        exact e
    · -- d[1] = d[1] + 1
      refine ⟨_, rfl, _, _, _, _, rfl, rfl, SqL.of hd, rfl, _, _, rfl, rfl, _, rfl, _, _, _, 1, rfl, rfl, hd, rfl, ?_⟩
      -- d[2] = int(d[2] * 48271 + lump + 7919 * d[1] + 12345) % 2147483647
      refine ⟨_, rfl, _, _, _, _, rfl, rfl, SqL.of upd_same, rfl, _, _, rfl, rfl, .inl ⟨by omega, by omega⟩, _, rfl, _, _, rfl, rfl, ?_⟩
      refine ⟨_, rfl, _, _, _, _, rfl, rfl, SqL.of upd_same, rfl, _, _, rfl, rfl, .inl ⟨by decide, by decide⟩, _, _, rfl, rfl, _, _, rfl, rfl, .inl ⟨_, rfl, _, _, rfl, rfl, (by show (2147483647 : Int) ≠ 0; decide), _, rfl, _, _, _, 2, rfl, rfl, upd_same, rfl, ?_⟩⟩
      -- int(int(d[2] * d[2]) % 2147483629 // 16) % below
      have hz0 := Int.emod_nonneg (mx * 48271 + ms[j] + 7919 * (sp + 1) + 12345) (show (2147483647 : Int) ≠ 0 by decide)
      have hz1 := Int.emod_lt_of_pos (mx * 48271 + ms[j] + 7919 * (sp + 1) + 12345) (show (0 : Int) < 2147483647 by decide)
      rw [← Int.fmod_eq_emod_of_nonneg _ (by decide)] at hz0 hz1
      refine ⟨_, rfl, _, _, _, _, rfl, rfl, SqL.of upd_same, rfl, _, rfl, _, _, _, _, rfl, rfl, SqL.of upd_same, rfl, _, _, rfl, rfl, .inl ⟨by show _ < _; omega, by show _ < _; omega⟩, .inl ⟨_, rfl, _, _, rfl, rfl, (by show (2147483629 : Int) ≠ 0; decide), _, _, rfl, rfl, ⟨by decide, by decide⟩, .inl ⟨_, rfl, _, rfl, _, _, rfl, rfl, by omega, ?_⟩⟩⟩
      refine k _ _ ?_ ?_ ⟨ms, sp + 1, _, upd_same, by rw [upd_ne nds.symm, upd_ne nds.symm]; exact hs, hp, hl, hz0, hz1⟩ fun c o e n1 n2 => ?_
      · rw [Int.fmod_eq_emod_of_nonneg _ (by omega)]
        exact Int.emod_nonneg _ (by omega)
      · rw [Int.fmod_eq_emod_of_nonneg _ (by omega)]
        exact Int.emod_lt_of_pos _ hb0
      · rw [upd_ne n1, upd_ne n1]
        exact e
end
end Bm
set_option maxRecDepth 100000
set_option maxHeartbeats 4000000
namespace Bm
open PySem L2
section
variable {P : Program} {w : World} {K : PySem.W.Frag} {mg : Str → Option Value} {base : Heap}
theorem scState : FnScope ["_law_script", "_law_lump"] ["_law_script"] (defScope sState) := ⟨rfl, rfl, rfl, by decide +kernel, rfl, by decide +kernel, by decide +kernel⟩
theorem ok_state {f : Addr} {fd : FuncData} (F : Fun K "_law_state" "_law_state" sState f fd) (T : TB mg) : FnOk P w K mg base CX0 1 f fd ["_law_script"] (spState K) := by
  refine F.ok scState (fun vs H Q E h => ?_) (fun cdv A outer s H vs Q E hr h => ?_)
  · obtain ⟨a, ns, rfl, _⟩ := h
    rfl
  · obtain ⟨a, ns, rfl, hS, hl, k⟩ := h
    refine ⟨_, pss_one (ps_ret (pe_lst (pa_cons (pe_orT
        (pe_lc (own := [("_law_lump", 1)]) (g := gName 1) (tt := tYes) rfl scState.nd (pi_list (pe_slice sl_list (pv 0) po_none (po_some pe_int))) (blkOk_by (own := [("_law_lump", 1)]) (N := ["_law_script", "_law_lump"]) (sc := defScope sState) (by decide +kernel))
          (fun _ _ _ _ _ => pg_name (i := 1) scState.nd rfl (Or.inl rfl)) (fun _ _ _ _ _ => pts_nil) (fun _ _ _ _ _ => pe_callB call_abs (by rfl) T.abs_ (by decide +kernel) (pa_cons (pv 1) pa_nil)))
        (pe_one (pe_lst (pa_cons pe_int pa_nil)))) (pa_cons pe_int (pa_cons pe_int pa_nil))))), ?_⟩
    have dr : ∀ (H1 : Hp) (D : Addr) (acc : List Int), Same H H1 → H D = none → H1 D = some (.lst (acc.map V.int)) → 0 < acc.length → acc.length ≤ 63 → ∀ l, H1 l = none → Q (.ref l) (upd H1 l (.lst [.ref D, .int 0, .int 1])) := fun H1 D acc s1 nD hD h0 h63 l nl => by
      refine k l D _ (fun b o e => ?_) (s1.free nl) nD ⟨acc, 0, 1, upd_same, ?_, h0, h63, by decide, by decide⟩
      · rw [upd_ne (ne_of_none (s1 b o e) nl)]
        exact s1 b o e
      · rw [upd_ne (ne_of_none hD nl)]
        exact hD
    refine ⟨_, rfl, _, rfl, _, _, rfl, hS, fun p np => ?_⟩
    have hcut : (cutV (ns.map V.int) none (some 63)).length ≤ 63 := Nat.le_trans (cutV_length _ _ _) (by rw [List.length_map]; exact hl)
    have hint : ∀ y ∈ cutV (ns.map V.int) none (some 63), ∃ n, y = V.int n := fun y hy => by
      unfold cutV at hy
      have h1 := List.mem_of_mem_drop (List.mem_of_mem_take hy)
      obtain ⟨n, _, e⟩ := List.mem_map.mp h1
      exact ⟨n, e.symm⟩
    generalize cutV (ns.map V.int) none (some 63) = xs at hcut hint ⊢
    have s0 : Same H (upd H p (.lst xs)) := fun b o e => by rw [upd_ne (ne_of_none e np)]; exact e
    refine ⟨p, rfl, ⟨_, SqL.of upd_same⟩, fun D nD => ?_⟩
    have nD0 : H D = none := s0.free nD
    have npD : p ≠ D := fun e => by rw [← e, upd_same] at nD; cases nD
    refine lc_list (K := K) (a := p) (xs := xs) (fun i H1 => Same H H1 ∧ H1 p = some (.lst xs) ∧ ∃ acc : List Int, acc.length = i ∧ H1 D = some (.lst (acc.map V.int))) ⟨fun b o e => ?_, ?_, [], rfl, upd_same⟩ (fun i H1 _ h => SqL.of h.2.1) ?_ ?_
    · rw [upd_ne (ne_of_none (s0 b o e) nD)]
      exact s0 b o e
    · rw [upd_ne npD, upd_same]
    · rintro i y H1 hi ⟨s1, h1, acc, ha, hD⟩
      obtain ⟨n, rfl⟩ := hint y (List.mem_of_getElem? hi)
      have hil : i < xs.length := (List.getElem?_eq_some_iff.mp hi).1
      refine ⟨rfl, ?_⟩
      refine ⟨_, rfl, n, rfl, _, hD, ?_, fun b o e => ?_, ?_, acc ++ [if n < 0 then -n else n], ?_, ?_⟩
      · rw [List.length_map]
        exact small1000 (by omega)
      · rw [upd_ne (ne_of_none e nD0)]
        exact s1 b o e
      · rw [upd_ne npD]
        exact h1
      · rw [List.length_append, ha]
        rfl
      · rw [upd_same, List.map_append]
        rfl
    · rintro H1 ⟨s1, h1, acc, ha, hD⟩
      refine ⟨_, .inl ⟨_, SqL.of hD, rfl⟩, ?_⟩
      cases acc with
      | nil =>
        refine iteF ?_
        refine ⟨by show 1 ≤ sizeLine; decide, fun q hq => ?_⟩
        have s2 : Same H (upd H1 q (.lst [V.int 7])) := fun b o e => by
          rw [upd_ne (ne_of_none (s1 b o e) hq)]
          exact s1 b o e
        exact ⟨by show 3 ≤ sizeLine; decide, dr _ q [7] s2 (s1.free hq) upd_same (by decide) (by decide)⟩
      | cons m r =>
        refine iteT ?_
        exact ⟨by show 3 ≤ sizeLine; decide, dr _ D (m :: r) s1 nD0 hD (by simp) (by rw [ha]; exact hcut)⟩
end
end Bm
set_option maxRecDepth 100000
set_option maxHeartbeats 4000000
namespace Bm
open PySem L2
abbrev sIsInt : Stmt := top 12
abbrev sIsPlace : Stmt := top 13
abbrev sIsStretch : Stmt := top 14
abbrev sNeed : Stmt := top 15
/-- a value of the kinds that the laws hand over -/
inductive AnyV (H : Hp) : V → Prop where
  | non : AnyV H .non
  | bl (b : Bool) : AnyV H (.bl b)
  | int (i : Int) : AnyV H (.int i)
  | str (x : Str) : AnyV H (.str x)
  | lst {a : Addr} {xs : List V} (e : H a = some (.lst xs)) : AnyV H (.ref a)
  | tup {a : Addr} {xs : List V} (e : H a = some (.tup xs)) : AnyV H (.ref a)
  | dK {a : Addr} {kvs : List (Key × V)} (e : H a = some (.dK kvs)) : AnyV H (.ref a)
def isI : V → Bool | .int _ => true | _ => false
def isB : V → Bool | .bl _ => true | _ => false
theorem AnyV.mono {H H' : Hp} {v : V} (h : AnyV H v) (k : ∀ a o, v = .ref a → H a = some o → (∀ ps, o ≠ .tbl ps) → H' a = some o) : AnyV H' v := by
  cases h with
  | non => exact .non
  | bl b => exact .bl b
  | int i => exact .int i
  | str x => exact .str x
  | lst e => exact .lst (k _ _ rfl e fun ps z => by cases z)
  | tup e => exact .tup (k _ _ rfl e fun ps z => by cases z)
  | dK e => exact .dK (k _ _ rfl e fun ps z => by cases z)
theorem AnyV.ty {K : PySem.W.Frag} {H : Hp} {v : V} (h : AnyV H v) : ∃ t : String, TyX K H v (.type t) ∧ PySem.W.kitOne K (.type t) (.type "int") = some (isI v || isB v) ∧ PySem.W.kitOne K (.type t) (.type "bool") = some (isB v) := by
  cases h with
  | non => exact ⟨_, .base .non, kit_ty (by decide +kernel), kit_ty (by decide +kernel)⟩
  | bl b => exact ⟨_, .base (.bl b), kit_ty (by show kitB "bool" "int" = some true; decide +kernel), kit_ty (by show kitB "bool" "bool" = some true; decide +kernel)⟩
  | int i => exact ⟨_, .base (.int i), kit_ty (by show kitB "int" "int" = some true; decide +kernel), kit_ty (by show kitB "int" "bool" = some false; decide +kernel)⟩
  | str x => exact ⟨_, .base (.str x), kit_ty (by show kitB "str" "int" = some false; decide +kernel), kit_ty (by show kitB "str" "bool" = some false; decide +kernel)⟩
  | lst e => exact ⟨_, .base (.lst e), kit_ty (by show kitB "list" "int" = some false; decide +kernel), kit_ty (by show kitB "list" "bool" = some false; decide +kernel)⟩
  | tup e => exact ⟨_, .base (.tup e), kit_ty (by show kitB "tuple" "int" = some false; decide +kernel), kit_ty (by show kitB "tuple" "bool" = some false; decide +kernel)⟩
  | dK e => exact ⟨_, .base (.dK e), kit_ty (by show kitB "dict" "int" = some false; decide +kernel), kit_ty (by show kitB "dict" "bool" = some false; decide +kernel)⟩
/-- isinstance(value, int) and not isinstance(value, bool) -/
def spIsInt : Sp := fun vs H Q _ => ∃ v, vs = [v] ∧ AnyV H v ∧ Q (.bl (isI v)) H
def isP : V → Bool | .int i => decide (0 ≤ i) && decide (i < 10000) | _ => false
def spIsPlace : Sp := fun vs H Q _ => ∃ v, vs = [v] ∧ AnyV H v ∧ Q (.bl (isP v)) H
def isS : V → V → Bool | .int b, .int m => decide (0 ≤ b) && decide (b < 10000) && decide (1 ≤ m) && decide (b + m ≤ 10000) | _, _ => false
def spIsStretch : Sp := fun vs H Q _ => ∃ b m, vs = [b, m] ∧ AnyV H b ∧ AnyV H m ∧ Q (.bl (isS b m)) H
def spNeed (CB : Addr) : Sp := fun vs H Q E => ∃ b m, vs = [b, m] ∧ AnyV H b ∧ AnyV H m ∧ (isS b m = true → Q .non H) ∧ (isS b m = false → E (.ref CB) none H)
structure TC (K : PySem.W.Frag) (mg : Str → Option Value) : Prop extends TB mg where
  isinstance_ : mg "isinstance" = none
  bool_ : mg "bool" = none
  PLACES : ∃ t, mg "PLACES" = some (.int 10000 t)
section
variable {P : Program} {w : World} {K : PySem.W.Frag} {mg : Str → Option Value} {base : Heap}
theorem scIsInt : FnScope ["value"] ["value"] (defScope sIsInt) := ⟨rfl, rfl, rfl, by decide +kernel, rfl, by decide +kernel, by decide +kernel⟩
theorem ok_is_integer {f : Addr} {fd : FuncData} (F : Fun K "is_integer" "is_integer" sIsInt f fd) (T : TC K mg) : FnOk P w K mg base CX0 1 f fd ["value"] spIsInt := by
  refine F.ok scIsInt (fun vs H Q E h => ?_) (fun cdv A outer s H vs Q E hr h => ?_)
  · obtain ⟨v, rfl, _⟩ := h
    rfl
  · obtain ⟨v, rfl, hv, k⟩ := h
    obtain ⟨t, ty, h1, h2⟩ := hv.ty (K := K)
    refine ⟨_, pss_one (ps_ret (pe_and (pe_callB call_isi (by rfl) T.isinstance_ PyProof.Rows.boot_isinstance (pa_cons (pv 0) (pa_cons (pe_bltn (v := .ty "int") rfl T.int_ (by decide +kernel) rfl) pa_nil)))
      (pe_one (pe_not (pe_callB call_isi (by rfl) T.isinstance_ PyProof.Rows.boot_isinstance (pa_cons (pv 0) (pa_cons (pe_bltn (v := .ty "bool") rfl T.bool_ (by decide +kernel) rfl) pa_nil))))))), ?_⟩
    refine ⟨_, rfl, _, _, _, _, _, rfl, .ty _, ty, h1, _, rfl, ?_⟩
    refine ite2 (fun c => ?_) (fun c => ?_)
    · refine ⟨_, rfl, _, _, _, _, _, rfl, .ty _, ty, h2, _, rfl, ?_⟩
      have e : (!isB v) = isI v := by cases v <;> simp_all [isI, isB]
      rw [e]
      exact k
    · have e : isI v = false := by
        cases q : isI v with
        | false => rfl
        | true => rw [q] at c; simp at c
      rw [e] at k
      exact k
theorem scIsPlace : FnScope ["value"] ["value"] (defScope sIsPlace) := ⟨rfl, rfl, rfl, by decide +kernel, rfl, by decide +kernel, by decide +kernel⟩
theorem ok_is_place {f fI : Addr} {fd fdI : FuncData} (F : Fun K "is_place" "is_place" sIsPlace f fd) (T : TC K mg) (GI : FnOk P w K mg base CX0 1 fI fdI ["value"] spIsInt) (mI : mg "is_integer" = some (.ref fI)) (kI : PySem.W.keepIn K (.ref fI) = true) (bI : Binds K fdI ["value"] []) : FnOk P w K mg base CX0 2 f fd ["value"] spIsPlace := by
  refine F.ok scIsPlace (fun vs H Q E h => ?_) (fun cdv A outer s H vs Q E hr h => ?_)
  · obtain ⟨v, rfl, _⟩ := h
    rfl
  · obtain ⟨v, rfl, hv, k⟩ := h
    obtain ⟨tp, hP⟩ := T.PLACES
    refine ⟨_, pss_one (ps_ret (pe_and (pe_call GI hr rfl mI kI bI .nil pass0 (pa_cons (pv 0) pa_nil)) (pe_one (pe_chain op_le op_lt pe_int (pv 0) (pe_glob (v := .int 10000) rfl hP ⟨_, rfl⟩))))), ?_⟩
    refine ⟨_, rfl, v, rfl, hv, _, rfl, ?_⟩
    cases hv with
    | int i =>
      refine iteT ?_
      refine ⟨_, rfl, _, _, rfl, rfl, _, rfl, ?_⟩
      refine ite2 (fun c => ?_) (fun c => ?_)
      · refine ⟨_, _, rfl, rfl, ?_⟩
        have c' : 0 ≤ i := of_decide_eq_true c
        simp only [isP, c', decide_true, Bool.true_and] at k
        exact k
      · have c' : ¬ 0 ≤ i := fun z => c (decide_eq_true z)
        simp only [isP, c', decide_false, Bool.false_and] at k
        exact k
    | _ => exact iteF k
theorem scIsStretch : FnScope ["begin", "many"] ["begin", "many"] (defScope sIsStretch) := ⟨rfl, rfl, rfl, by decide +kernel, rfl, by decide +kernel, by decide +kernel⟩
theorem ok_is_stretch {f fI fP : Addr} {fd fdI fdP : FuncData} (F : Fun K "is_stretch" "is_stretch" sIsStretch f fd) (T : TC K mg) (GI : FnOk P w K mg base CX0 1 fI fdI ["value"] spIsInt) (mI : mg "is_integer" = some (.ref fI)) (kI : PySem.W.keepIn K (.ref fI) = true) (bI : Binds K fdI ["value"] [])
    (GP : FnOk P w K mg base CX0 2 fP fdP ["value"] spIsPlace) (mP : mg "is_place" = some (.ref fP)) (kP : PySem.W.keepIn K (.ref fP) = true) (bP : Binds K fdP ["value"] []) : FnOk P w K mg base CX0 3 f fd ["begin", "many"] spIsStretch := by
  refine F.ok scIsStretch (fun vs H Q E h => ?_) (fun cdv A outer s H vs Q E hr h => ?_)
  · obtain ⟨b, m, rfl, _⟩ := h
    rfl
  · obtain ⟨b, m, rfl, hb, hm, k⟩ := h
    obtain ⟨tp, hP⟩ := T.PLACES
    refine ⟨_, pss_one (ps_ret (pe_and (pe_call GP hr rfl mP kP bP .nil pass0 (pa_cons (pv 0) pa_nil)) (pe_and (pe_call GI (hr.mono (by decide)) rfl mI kI bI .nil pass0 (pa_cons (pv 1) pa_nil))
      (pe_and (pe_cmpR op_ge (pv 1) pe_int (nomark _)) (pe_one (pe_cmpR op_le (pe_op op_add (pv 0) (pv 1)) (pe_glob (v := .int 10000) rfl hP ⟨_, rfl⟩) (nomark _))))))), ?_⟩
    refine ⟨_, rfl, b, rfl, hb, _, rfl, ?_⟩
    refine ite2 (fun c1 => ?_) (fun c1 => ?_)
    · refine ⟨_, rfl, m, rfl, hm, _, rfl, ?_⟩
      refine ite2 (fun c2 => ?_) (fun c2 => ?_)
      · obtain ⟨i, rfl⟩ : ∃ i, b = .int i := by cases b <;> simp [isP] at c1 <;> exact ⟨_, rfl⟩
        obtain ⟨j, rfl⟩ : ∃ j, m = .int j := by cases m <;> simp [isI] at c2 <;> exact ⟨_, rfl⟩
        refine ⟨_, rfl, _, _, rfl, rfl, _, rfl, ?_⟩
        have c1' : 0 ≤ i ∧ i < 10000 := by simpa [isP] using c1
        refine ite2 (fun c3 => ?_) (fun c3 => ?_)
        · have c3' : 1 ≤ j := of_decide_eq_true c3
          refine ⟨_, rfl, _, rfl, _, _, rfl, rfl, _, _, rfl, rfl, ?_⟩
          simp only [isS, c1'.1, c1'.2, c3', decide_true, Bool.true_and] at k
          exact k
        · have c3' : ¬ 1 ≤ j := fun z => c3 (decide_eq_true z)
          simp only [isS, c1'.1, c1'.2, c3', decide_true, decide_false, Bool.true_and, Bool.and_false, Bool.false_and] at k
          exact k
      · have e : isS b m = false := by cases b <;> cases m <;> simp_all [isS, isI]
        rw [e] at k
        exact k
    · have e : isS b m = false := by
        cases b <;> cases m <;> first | rfl | skip
        simp only [isS, isP] at c1 ⊢
        simp only [Bool.and_eq_false_iff, decide_eq_false_iff_not]
        simp only [Bool.and_eq_true, decide_eq_true_eq] at c1
        omega
      rw [e] at k
      exact k
end
end Bm
set_option maxRecDepth 100000
set_option maxHeartbeats 4000000
namespace Bm
open PySem L2 L3 Pm
abbrev sName : Stmt := top 20
abbrev sNew : Stmt := top 21
abbrev sCont : Stmt := top 22
abbrev sNCont : Stmt := top 23
abbrev LET : Str := "abcdefghijklmnopqrstuvwxyz"
def isT : V → Bool | .str _ => true | _ => false
theorem AnyV.tyT {K : PySem.W.Frag} {H : Hp} {v : V} (h : AnyV H v) : ∃ t : String, TyX K H v (.type t) ∧ PySem.W.kitOne K (.type t) (.type "str") = some (isT v) := by
  cases h with
  | non => exact ⟨_, .base .non, kit_ty (by decide +kernel)⟩
  | bl b => exact ⟨_, .base (.bl b), kit_ty (by show kitB "bool" "str" = some false; decide +kernel)⟩
  | int i => exact ⟨_, .base (.int i), kit_ty (by show kitB "int" "str" = some false; decide +kernel)⟩
  | str x => exact ⟨_, .base (.str x), kit_ty (by show kitB "str" "str" = some true; decide +kernel)⟩
  | lst e => exact ⟨_, .base (.lst e), kit_ty (by show kitB "list" "str" = some false; decide +kernel)⟩
  | tup e => exact ⟨_, .base (.tup e), kit_ty (by show kitB "tuple" "str" = some false; decide +kernel)⟩
  | dK e => exact ⟨_, .base (.dK e), kit_ty (by show kitB "dict" "str" = some false; decide +kernel)⟩
def low (c : Nat) : Bool := decide (c ∈ LET.cps.toList)
def nameS (x : Str) : Bool := decide (1 ≤ x.length) && (decide (x.length ≤ 8) && x.cps.toList.all low)
def nameB : V → Bool | .str x => nameS x | _ => false
/-- texts are short -/
def Short (v : V) : Prop := ∀ x, v = .str x → x.length ≤ 10000
def spName : Sp := fun vs H Q _ => ∃ v, vs = [v] ∧ AnyV H v ∧ Short v ∧ ∀ H', Same H H' → Q (.bl (nameB v)) H'
/-- an error with one attribute -/
def attrE (CN : Addr) (x : Str) (y : V) (H : Hp) (E : XK) : Prop := ∀ H0 d, Same H H0 → H0 d = none → E (.ref CN) (some d) (upd H0 d (.xd [(x, y)]))
def spNew (CBN CT : Addr) : Sp := fun vs H Q E => ∃ (a : Addr) (kvs : List (Key × V)) (v : V), vs = [.ref a, v] ∧ H a = some (.dK kvs) ∧ AnyV H v ∧ Short v ∧
  (nameB v = false → ∀ H', Same H H' → E (.ref CBN) none H') ∧ (∀ x, v = .str x → nameS x = true → (valV kvs (Sum.inr x)).isSome = true → attrE CT "name" v H E) ∧
  (∀ x, v = .str x → nameS x = true → valV kvs (Sum.inr x) = none → ∀ H', Same H H' → Q .non H')
def isC : V → Bool | .int i => decide (0 ≤ i) && decide (i ≤ 1000000) | _ => false
def spCont : Sp := fun vs H Q _ => ∃ v, vs = [v] ∧ AnyV H v ∧ Q (.bl (isC v)) H
def spNCont (CV : Addr) : Sp := fun vs H Q E => ∃ v, vs = [v] ∧ AnyV H v ∧ (isC v = true → Q .non H) ∧ (isC v = false → E (.ref CV) none H)
/-- an error without attributes -/
structure PlainE (K : PySem.W.Frag) (mg : Str → Option Value) (n : Str) (CB : Addr) : Prop where
  g : mg n = some (.ref CB)
  x : PySem.W.excIn K CB [.type "ValueError", .type "Exception", .type "BaseException", .type "object"] "ValueError.__new__" = true
  k : PySem.W.keepIn K (.ref CB) = true
  b : PySem.W.subIn K (.ref CB) (.type "BaseException") = some true
  t : PySem.W.typeIn K (.ref CB) = some (.type "type")
/-- an error with an attribute, as it is made -/
def SupE (P : Program) (w : World) (K : PySem.W.Frag) (mg : Str → Option Value) (base : Heap) (n x : Str) (CN : Addr) : Prop :=
  mg n = some (.ref CN) ∧ OexC K CN ∧ ∃ fI fd, PySem.W.findIn K (.ref CN) "__init__" = some (some (.ref fI)) ∧ PySem.W.typeIn K (.ref fI) = some (.type "function") ∧ FnOk P w K mg base CX0 1 fI fd ["self", x] (spSup CN x) ∧ Binds K fd ["self", x] []
/-- a def of the module, with its promise -/
def Has (P : Program) (w : World) (K : PySem.W.Frag) (mg : Str → Option Value) (base : Heap) (CX : CXT) (k : Nat) (x : Str) (ps : List Str) (sp : Sp) : Prop :=
  ∃ f fd, FnOk P w K mg base CX k f fd ps sp ∧ mg x = some (.ref f) ∧ PySem.W.keepIn K (.ref f) = true ∧ Binds K fd ps []
structure TD (K : PySem.W.Frag) (mg : Str → Option Value) : Prop extends TC K mg where
  str_ : mg "str" = none
  all_ : mg "all" = none
  LETTERS : ∃ t, mg "LETTERS" = some (.str LET t)
  ML : ∃ t, mg "MOST_LETTERS" = some (.int 8 t)
  MC : ∃ t, mg "MOST_CONTENTS" = some (.int 1000000 t)
theorem sameNew {H : Hp} {p : Addr} {o : HO} (n : H p = none) : Same H (upd H p o) := fun b u e => by
  rw [upd_ne (ne_of_none e n)]
  exact e
theorem AnyV.same {H H' : Hp} {v : V} (h : AnyV H v) (e : Same H H') : AnyV H' v := h.mono fun a o _ ha _ => e a o ha
section
variable {P : Program} {w : World} {K : PySem.W.Frag} {mg : Str → Option Value} {base : Heap}
theorem scName : FnScope ["value", "sign"] ["value"] (defScope sName) := ⟨rfl, rfl, rfl, by decide +kernel, rfl, by decide +kernel, by decide +kernel⟩
theorem ok_name {f : Addr} {fd : FuncData} (F : Fun K "is_name" "is_name" sName f fd) (T : TD K mg) : FnOk P w K mg base CX0 1 f fd ["value"] spName := by
  refine F.ok scName (fun vs H Q E h => ?_) (fun cdv A outer s H vs Q E hr h => ?_)
  · obtain ⟨v, rfl, _⟩ := h
    rfl
  · obtain ⟨v, rfl, hv, sh, k⟩ := h
    obtain ⟨t, ty, h1⟩ := hv.tyT (K := K)
    obtain ⟨_, hLET⟩ := T.LETTERS
    obtain ⟨_, hML⟩ := T.ML
    refine ⟨_, (pss_one (ps_ret (pe_and (pe_callB call_isV (by rfl) T.isinstance_ PyProof.Rows.boot_isinstance (pa_cons (pv 0) (pa_cons (pe_bltn (v := .ty "str") rfl T.str_ (by decide +kernel) rfl) pa_nil))) (pe_and (pe_chain op_le op_le pe_int (pe_callB call_len_str (by rfl) T.len_ PySem.boot_len (pa_cons (pv 0) pa_nil)) (pe_glob (v := .int 8) rfl hML ⟨_, rfl⟩)) (pe_one (pe_callB (cr_all rfl) (by rfl) T.all_ (by decide +kernel) (pa_cons (pe_lc (own := [("sign", 1)]) (g := gName 1) (tt := tYes) rfl scName.nd (pi_str (pv 0)) (blkOk_by (own := [("sign", 1)]) (N := ["value", "sign"]) (sc := defScope sName) (by decide +kernel)) (fun _ _ _ _ _ => (pg_name (i := 1) scName.nd rfl (Or.inl rfl))) (fun _ _ _ _ _ => pts_nil) (fun _ _ _ _ _ => (pe_cmpR op_in_sign (pv 1) (pe_glob (v := .str LET) rfl hLET ⟨_, rfl⟩) (by rfl)))) pa_nil))))))), ?_⟩
    refine ⟨_, rfl, _, _, _, _, _, rfl, .ty _, .base ty, h1, _, rfl, ?_⟩
    cases hv with
    | str x =>
      have hx := sh x rfl
      refine iteT ?_
      refine ⟨_, rfl, x, rfl, by rw [sizeLine_eq]; omega, _, _, rfl, rfl, _, rfl, ?_⟩
      refine ite2 (fun c1 => ?_) (fun c1 => ?_)
      · have c1' : 1 ≤ x.length := by have := of_decide_eq_true c1; omega
        refine ⟨_, _, rfl, rfl, ?_⟩
        refine ⟨_, rfl, ?_⟩
        refine ite2 (fun c2 => ?_) (fun c2 => ?_)
        · have c2' : x.length ≤ 8 := by have := of_decide_eq_true c2; omega
          refine ⟨_, rfl, x, rfl, fun D nD => ?_⟩
          have sD := sameNew (o := HO.lst []) nD
          refine lc_it walk_str (fun i H1 => Same H H1 ∧ H1 D = some (.lst ((x.cps.toList.take i).map fun c => V.bl (low c)))) ⟨sD, upd_same⟩ (fun _ _ _ _ => True.intro) ?_ ?_
          · rintro i y H1 H2 hi ⟨s1, h1⟩ ⟨rfl, c, hc, rfl⟩
            refine ⟨rfl, _, rfl, c, LET, rfl, rfl, _, h1, ?_, fun b o e => ?_, ?_⟩
            · have := List.length_take_le i x.cps.toList
              have hi' : i < x.length := hi
              rw [List.length_map, sizeLine_eq]
              omega
            · rw [upd_ne (ne_of_none e nD)]
              exact s1 b o e
            · rw [upd_same]
              have : (x.cps.toList.take (i + 1)) = x.cps.toList.take i ++ [c] := by
                rw [List.take_succ, Array.getElem?_toList, hc]
                rfl
              rw [this, List.map_append]
              rfl
          · rintro H1 ⟨s1, h1⟩
            rw [← Array.length_toList, List.take_length] at h1
            refine ⟨D, x.cps.toList.map low, rfl, SqL.of (by rw [List.map_map]; exact h1), ?_⟩
            have := k H1 s1
            simp only [nameB, nameS, c1', c2', decide_true, Bool.true_and] at this
            rw [show ((x.cps.toList.map low).all id) = x.cps.toList.all low from by rw [List.all_map]; rfl]
            exact this
        · have c2' : ¬ x.length ≤ 8 := fun z => c2 (decide_eq_true (by show (x.length : Int) ≤ 8; omega))
          have := k H (Same.refl _)
          simp only [nameB, nameS, c2', decide_false, Bool.false_and, Bool.and_false] at this
          exact this
      · have c1' : ¬ 1 ≤ x.length := fun z => c1 (decide_eq_true (by show (1 : Int) ≤ x.length; omega))
        have := k H (Same.refl _)
        simp only [nameB, nameS, c1', decide_false, Bool.false_and] at this
        exact ⟨_, rfl, iteF this⟩
    | _ => exact iteF (k H (Same.refl _))
theorem scNew : FnScope ["spaces", "name"] ["spaces", "name"] (defScope sNew) := ⟨rfl, rfl, rfl, by decide +kernel, rfl, by decide +kernel, by decide +kernel⟩
theorem ok_new {f CBN CT : Addr} {fd : FuncData} (F : Fun K "need_new" "need_new" sNew f fd) (TB : PlainE K mg "BadName" CBN) (ST : SupE P w K mg base "Taken" "name" CT) (HN : Has P w K mg base CX0 1 "is_name" ["value"] spName) : FnOk P w K mg base (L2.CX P w) 3 f fd ["spaces", "name"] (spNew CBN CT) := by
  obtain ⟨gT, TT, fT, fdT, iT, tT, GT, bT⟩ := ST
  obtain ⟨fN, fdN, GN, mN, kN, bN⟩ := HN
  refine F.okX scNew (fun vs H Q E h => ?_) (fun cdv A outer s H vs Q E hr h => ?_)
  · obtain ⟨a, kvs, v, rfl, _⟩ := h
    rfl
  · obtain ⟨a, kvs, v, rfl, ha, hv, sh, k1, k2, k3⟩ := h
    have hu := hu_of hr
    refine ⟨_, (pss_cons (ps_if (pt_not (pt_val (pe_call GN (hr.mono (by decide)) rfl mN kN bN .nil pass0 (pa_cons (pv 1) pa_nil))))
        (pss_one (ps_raise rfl (takes_of rfl rfl rfl rfl) (pmk_own PySem.F.excBase_ValueError TB.x TB.g TB.k (raises_own TB.b TB.t) (by exact rfl))))
        pss_nil)
      (pss_one (ps_if (pt_cmp (pc_din hu (pv 1) (pv 0)))
        (pss_one (ps_raise rfl (takes_of rfl rfl rfl rfl) (pmk_oex TT iT tT GT hr bT .nil pass0 rfl gT (pa_cons (pv 1) pa_nil))))
        pss_nil))), ?_⟩
    refine ⟨_, rfl, v, rfl, hv, sh, fun H1 s1 => ⟨_, rfl, ?_⟩⟩
    cases e : nameB v with
    | false => exact iteT (k1 e H1 s1)
    | true =>
      obtain ⟨x, rfl⟩ : ∃ x, v = .str x := by cases v <;> simp [nameB] at e <;> exact ⟨_, rfl⟩
      refine iteF ?_
      refine ⟨_, rfl, _, rfl, a, _, rfl, DGet.k (k := Sum.inr x) (s1 _ _ ha), _, rfl, ?_⟩
      cases e2 : valV kvs (Sum.inr x) with
      | some y => exact iteT ⟨_, rfl, by show 1 ≤ 1000; decide, mk_sup fun d nd => k2 x rfl e (by rw [e2]; rfl) _ d s1 nd⟩
      | none => exact iteF (k3 x rfl e e2 _ s1)
theorem scCont : FnScope ["value"] ["value"] (defScope sCont) := ⟨rfl, rfl, rfl, by decide +kernel, rfl, by decide +kernel, by decide +kernel⟩
theorem ok_cont {f : Addr} {fd : FuncData} (F : Fun K "is_contents" "is_contents" sCont f fd) (T : TD K mg) (HI : Has P w K mg base CX0 1 "is_integer" ["value"] spIsInt) : FnOk P w K mg base CX0 2 f fd ["value"] spCont := by
  obtain ⟨fI, fdI, GI, mI, kI, bI⟩ := HI
  obtain ⟨_, hMC⟩ := T.MC
  refine F.ok scCont (fun vs H Q E h => ?_) (fun cdv A outer s H vs Q E hr h => ?_)
  · obtain ⟨v, rfl, _⟩ := h
    rfl
  · obtain ⟨v, rfl, hv, k⟩ := h
    refine ⟨_, (pss_one (ps_ret (pe_and (pe_call GI hr rfl mI kI bI .nil pass0 (pa_cons (pv 0) pa_nil)) (pe_one (pe_chain op_le op_le pe_int (pv 0) (pe_glob (v := .int 1000000) rfl hMC ⟨_, rfl⟩)))))), ?_⟩
    refine ⟨_, rfl, v, rfl, hv, _, rfl, ?_⟩
    cases hv with
    | int i =>
      refine iteT ⟨_, rfl, _, _, rfl, rfl, _, rfl, ite2 (fun c => ?_) (fun c => ?_)⟩
      · have c' : 0 ≤ i := of_decide_eq_true c
        refine ⟨_, _, rfl, rfl, ?_⟩
        simp only [isC, c', decide_true, Bool.true_and] at k
        exact k
      · have c' : ¬ 0 ≤ i := fun z => c (decide_eq_true z)
        simp only [isC, c', decide_false, Bool.false_and] at k
        exact k
    | _ => exact iteF k
theorem scNeed : FnScope ["begin", "many"] ["begin", "many"] (defScope sNeed) := ⟨rfl, rfl, rfl, by decide +kernel, rfl, by decide +kernel, by decide +kernel⟩
theorem ok_need {f CB : Addr} {fd : FuncData} (F : Fun K "need_stretch" "need_stretch" sNeed f fd) (TB : PlainE K mg "BadArea" CB) (HS : Has P w K mg base CX0 3 "is_stretch" ["begin", "many"] spIsStretch) :
    FnOk P w K mg base (L2.CX P w) 4 f fd ["begin", "many"] (spNeed CB) := by
  obtain ⟨fS, fdS, GS, mS, kS, bS⟩ := HS
  refine F.okX scNeed (fun vs H Q E h => ?_) (fun cdv A outer s H vs Q E hr h => ?_)
  · obtain ⟨b, m, rfl, _⟩ := h
    rfl
  · obtain ⟨b, m, rfl, hb, hm, k1, k2⟩ := h
    refine ⟨_, pss_one (ps_if (pt_not (pt_val (pe_call GS hr rfl mS kS bS .nil pass0 (pa_cons (pv 0) (pa_cons (pv 1) pa_nil)))))
      (pss_one (ps_raise rfl (takes_of rfl rfl rfl rfl) (pmk_own PySem.F.excBase_ValueError TB.x TB.g TB.k (raises_own TB.b TB.t) (by exact rfl)))) pss_nil), ?_⟩
    refine ⟨_, rfl, _, rfl, b, m, rfl, hb, hm, _, rfl, ?_⟩
    cases e : isS b m with
    | true => exact iteF (k1 e)
    | false => exact iteT (k2 e)
theorem scNCont : FnScope ["value"] ["value"] (defScope sNCont) := ⟨rfl, rfl, rfl, by decide +kernel, rfl, by decide +kernel, by decide +kernel⟩
theorem ok_ncont {f CV : Addr} {fd : FuncData} (F : Fun K "need_contents" "need_contents" sNCont f fd) (TV : PlainE K mg "BadValue" CV) (HC : Has P w K mg base CX0 2 "is_contents" ["value"] spCont) : FnOk P w K mg base (L2.CX P w) 3 f fd ["value"] (spNCont CV) := by
  obtain ⟨fC, fdC, GC, mC, kC, bC⟩ := HC
  refine F.okX scNCont (fun vs H Q E h => ?_) (fun cdv A outer s H vs Q E hr h => ?_)
  · obtain ⟨v, rfl, _⟩ := h
    rfl
  · obtain ⟨v, rfl, hv, k1, k2⟩ := h
    refine ⟨_, (pss_one (ps_if (pt_not (pt_val (pe_call GC hr rfl mC kC bC .nil pass0 (pa_cons (pv 0) pa_nil))))
        (pss_one (ps_raise rfl (takes_of rfl rfl rfl rfl) (pmk_own PySem.F.excBase_ValueError TV.x TV.g TV.k (raises_own TV.b TV.t) (by exact rfl))))
        pss_nil)), ?_⟩
    refine ⟨_, rfl, v, rfl, hv, _, rfl, ?_⟩
    cases e : isC v with
    | false => exact iteT (k2 e)
    | true => exact iteF (k1 e)
end
end Bm
set_option maxRecDepth 100000
set_option maxHeartbeats 4000000
/-! a plain memory in the heap -/
namespace Pm
open PySem L2
section
variable {α β : Type} [DecidableEq α]
theorem dr_none {l : List (α × β)} {a : α} (h : lk l a = none) : dr l a = l := by
  unfold dr
  rw [List.filter_eq_self]
  intro p hp
  have := (lk_none l a).mp h
  simp only [ne_eq, decide_eq_true_eq]
  exact fun e => this (e ▸ List.mem_map.mpr ⟨p, hp, rfl⟩)
theorem pt_same {l : List (α × β)} {a : α} {b : β} (n : (l.map (·.1)).Nodup) (h : lk l a = some b) : pt l a b = l := by
  unfold pt
  rw [any_lk, h, if_pos (show (some b).isSome = true from rfl)]
  conv => rhs; rw [← List.map_id l]
  refine List.map_congr_left fun p hp => ?_
  by_cases e : p.1 = a
  · have := lk_of_mem n hp
    rw [e, h] at this
    cases this
    simp [← e]
  · simp [e]
end
theorem used_mono (d : Pl) (b : Int) {x : Int} {n : Nat} : ∀ k, used d b n = some x → used d b (n + k) = some x
  | 0, h => h
  | k + 1, h => by
    show (match used d b (n + k) with | some i => some i | none => _) = _
    rw [used_mono d b k h]
theorem lacks_mono (d : Pl) (b : Int) {x : Int} {n : Nat} : ∀ k, lacks d b n = some x → lacks d b (n + k) = some x
  | 0, h => h
  | k + 1, h => by
    show (match lacks d b (n + k) with | some i => some i | none => _) = _
    rw [lacks_mono d b k h]
/-- places are places, each once -/
def OkP (d : Pl) : Prop := (d.map (·.1)).Nodup ∧ ∀ i ∈ d.map (·.1), 0 ≤ i ∧ i < 10000
theorem OkP.nil : OkP [] := ⟨by simp, fun _ h => by cases h⟩
theorem OkP.pt {d : Pl} {i : Int} {v : Int} (h : OkP d) (h0 : 0 ≤ i) (h1 : i < 10000) : OkP (pt d i v) := ⟨nodup_pt h.1, fun c hc => by
  rcases (mem_keys_pt d i c v).mp hc with e | e
  · exact e ▸ ⟨h0, h1⟩
  · exact h.2 c e⟩
theorem OkP.dr {d : Pl} {i : Int} (h : OkP d) : OkP (dr d i) := ⟨nodup_dr h.1, fun c hc => h.2 c (by
  obtain ⟨p, hp, e⟩ := List.mem_map.mp hc
  exact List.mem_map.mpr ⟨p, (List.mem_filter.mp hp).1, e⟩)⟩
theorem few_nats : ∀ (n : Nat) (l : List Int), l.Nodup → (∀ i ∈ l, 0 ≤ i ∧ i < (n : Int)) → l.length ≤ n
  | 0, l, _, h => by
    cases l with
    | nil => exact Nat.le_refl _
    | cons a l => have := h a List.mem_cons_self; omega
  | n + 1, l, nd, h => by
    by_cases m : ((n : Nat) : Int) ∈ l
    · have ih := few_nats n (l.erase (n : Int)) (nd.erase _) fun i hi => by
        have h1 := (nd.mem_erase_iff).mp hi
        have := h i h1.2
        have : i ≠ (n : Int) := h1.1
        omega
      have := List.length_erase_of_mem m
      omega
    · have ih := few_nats n l nd fun i hi => by
        have := h i hi
        have : i ≠ (n : Int) := fun e => m (e ▸ hi)
        omega
      omega
theorem OkP.few {d : Pl} (h : OkP d) : d.length ≤ 10000 := by
  have := few_nats 10000 _ h.1 (fun i hi => h.2 i hi)
  rwa [List.length_map] at this
theorem OkP.pts {l : List (Int × Int)} (hl : ∀ p ∈ l, 0 ≤ p.1 ∧ p.1 < 10000) : ∀ {d : Pl}, OkP d → OkP (pts d l) := by
  induction l with
  | nil => exact fun h => h
  | cons p l ih => exact fun h => ih (fun q hq => hl q (List.mem_cons_of_mem _ hq)) (h.pt (hl p List.mem_cons_self).1 (hl p List.mem_cons_self).2)
theorem OkP.mapP {d : Pl} {b : Int} {n : Nat} (h : OkP d) (h0 : 0 ≤ b) (h1 : b + n ≤ 10000) : OkP (mapP d b n) := h.pts fun p hp => by
  obtain ⟨i, hi, rfl⟩ := List.mem_map.mp hp
  have := List.mem_range.mp hi
  exact ⟨by show 0 ≤ b + (i : Int); omega, by show b + (i : Int) < 10000; omega⟩
theorem OkP.unmapP {d : Pl} {b : Int} : ∀ {n : Nat}, OkP d → OkP (unmapP d b n)
  | 0, h => h
  | n + 1, h => (OkP.unmapP (n := n) h).dr
theorem OkP.moveP {d : Pl} {b to : Int} : ∀ {n : Nat}, OkP d → 0 ≤ to → to + n ≤ 10000 → OkP (moveP d b to n)
  | 0, h, _, _ => h
  | n + 1, h, h0, h1 => ((OkP.moveP (n := n) h h0 (by omega)).dr).pt (by omega) (by omega)
/-- spaces: name, the dict's address, the places -/
abbrev Sp3 := List (Str × Addr × Pl)
def hK (m : Sp3) : List (Key × V) := kv Sum.inr (fun e : Addr × Pl => V.ref e.1) m
theorem hK_val (m : Sp3) (s : Str) : valV (hK m) (Sum.inr s) = (lk m s).map fun e => V.ref e.1 := kv_val injS m s
/-- but for the addresses -/
def pur (m : Sp3) : List (Str × Pl) := m.map fun e => (e.1, e.2.2)
theorem pur_pt (m : Sp3) (s : Str) (a : Addr) (d : Pl) : pur (pt m s (a, d)) = pt (pur m) s d := pt_vals (fun e : Addr × Pl => e.2) m s (a, d)
theorem pur_dr (m : Sp3) (s : Str) : pur (dr m s) = dr (pur m) s := dr_vals (fun e : Addr × Pl => e.2) m s
theorem pur_lk (m : Sp3) (s : Str) : lk (pur m) s = (lk m s).map fun e => e.2 := lk_vals (fun e : Addr × Pl => e.2) m s
/-- the memory at p -/
structure PlA (C : Addr) (H : Hp) (p dx hd : Addr) (m : Sp3) : Prop where
  ins : H p = some (.ins C dx [("held", .ref hd)])
  held : H hd = some (.dK (hK m))
  inner : ∀ e ∈ m, H e.2.1 = some (.dK (dI e.2.2))
  nodN : (m.map (·.1)).Nodup
  nodA : (hd :: m.map (·.2.1)).Nodup
  ok : ∀ e ∈ m, OkP e.2.2
/-- the objects that change with it -/
def fpt (hd : Addr) (m : Sp3) : List Addr := hd :: m.map (·.2.1)
/-- all but some objects stay -/
def Keeps (S : List Addr) (H H' : Hp) : Prop := ∀ b o, H b = some o → b ∉ S → H' b = some o
theorem Keeps.refl {S : List Addr} {H : Hp} : Keeps S H H := fun _ _ h _ => h
theorem Keeps.same {S : List Addr} {H H' : Hp} (h : Same H H') : Keeps S H H' := fun b o e _ => h b o e
theorem Keeps.trans {S : List Addr} {H H1 H2 : Hp} (a : Keeps S H H1) (b : Keeps S H1 H2) : Keeps S H H2 := fun c o h n => b c o (a c o h n) n
theorem Keeps.mono {S S' : List Addr} {H H1 : Hp} (a : Keeps S H H1) (h : ∀ b ∈ S, b ∈ S') : Keeps S' H H1 := fun c o e n => a c o e fun z => n (h c z)
section
variable {C : Addr} {H H' : Hp} {p dx hd : Addr} {m : Sp3}
theorem PlA.at (P : PlA C H p dx hd m) {s : Str} {a : Addr} {d : Pl} (h : lk m s = some (a, d)) : H a = some (.dK (dI d)) ∧ OkP d := ⟨P.inner _ (lk_mem h), P.ok _ (lk_mem h)⟩
theorem PlA.ne_hd (P : PlA C H p dx hd m) {s : Str} {a : Addr} {d : Pl} (h : lk m s = some (a, d)) : a ≠ hd := fun e => (List.nodup_cons.mp P.nodA).1 (e ▸ List.mem_map.mpr ⟨_, lk_mem h, rfl⟩)
theorem PlA.p_off (P : PlA C H p dx hd m) : p ∉ fpt hd m := fun h => by
  rcases List.mem_cons.mp h with e | e
  · have := P.held; rw [← e, P.ins] at this; cases this
  · obtain ⟨x, hx, e⟩ := List.mem_map.mp e
    have := P.inner x hx; rw [e, P.ins] at this; cases this
theorem PlA.keep (P : PlA C H p dx hd m) {S : List Addr} (k : Keeps S H H') (hp : p ∉ S) (hm : ∀ a ∈ fpt hd m, a ∉ S) : PlA C H' p dx hd m where
  ins := k _ _ P.ins hp
  held := k _ _ P.held (hm _ List.mem_cons_self)
  inner := fun e he => k _ _ (P.inner e he) (hm _ (List.mem_cons_of_mem _ (List.mem_map.mpr ⟨e, he, rfl⟩)))
  nodN := P.nodN
  nodA := P.nodA
  ok := P.ok
theorem PlA.same (P : PlA C H p dx hd m) (k : Same H H') : PlA C H' p dx hd m := P.keep (S := []) (fun b o e _ => k b o e) (by simp) (fun _ _ => by simp)
theorem addrs_pt (P : PlA C H p dx hd m) {s : Str} {a : Addr} {d d' : Pl} (h : lk m s = some (a, d)) : (pt m s (a, d')).map (fun e => (e.1, e.2.1)) = m.map fun e => (e.1, e.2.1) := by
  rw [pt_vals (fun e : Addr × Pl => e.1) m s (a, d')]
  refine pt_same ?_ ?_
  · rw [List.map_map]; exact P.nodN
  · rw [lk_vals, h]; rfl
theorem addrs_pt' (P : PlA C H p dx hd m) {s : Str} {a : Addr} {d d' : Pl} (h : lk m s = some (a, d)) : (pt m s (a, d')).map (·.2.1) = m.map (·.2.1) := by
  have := congrArg (List.map (·.2)) (addrs_pt P (d' := d') h)
  rwa [List.map_map, List.map_map] at this
theorem fpt_pt (P : PlA C H p dx hd m) {s : Str} {a : Addr} {d d' : Pl} (h : lk m s = some (a, d)) : fpt hd (pt m s (a, d')) = fpt hd m := by
  unfold fpt
  rw [addrs_pt' P h]
theorem PlA.put (P : PlA C H p dx hd m) {s : Str} {a : Addr} {d d' : Pl} (h : lk m s = some (a, d)) (k : Keeps [a] H H') (e : H' a = some (.dK (dI d'))) (o : OkP d') : PlA C H' p dx hd (pt m s (a, d')) where
  ins := k _ _ P.ins fun z => by
    rw [List.mem_singleton] at z
    have := (P.at h).1
    rw [← z, P.ins] at this
    cases this
  held := by
    have z : hK (pt m s (a, d')) = hK m := by
      unfold hK kv
      have := congrArg (List.map fun e : Str × Addr => ((Sum.inr e.1 : Key), V.ref e.2)) (addrs_pt P (d' := d') h)
      rwa [List.map_map, List.map_map] at this
    rw [z]
    exact k _ _ P.held fun z => P.ne_hd h (List.mem_singleton.mp z).symm
  inner := fun x hx => by
    unfold pt at hx
    rw [any_lk, h, if_pos (show (some (a, d)).isSome = true from rfl)] at hx
    obtain ⟨y, hy, rfl⟩ := List.mem_map.mp hx
    by_cases q : y.1 = s
    · rw [if_pos q]
      exact e
    · rw [if_neg q]
      refine k _ _ (P.inner y hy) fun z => ?_
      rw [List.mem_singleton] at z
      -- one address, two names
      have n2 := (List.nodup_cons.mp P.nodA).2
      have hy2 := lk_mem h
      have : ∀ (l : Sp3), (l.map (·.2.1)).Nodup → y ∈ l → (s, a, d) ∈ l → y.2.1 = a → y = (s, a, d) := by
        intro l
        induction l with
        | nil => intro _ h1; cases h1
        | cons x l ih =>
          intro n h1 h2 h3
          rw [List.map_cons, List.nodup_cons] at n
          rcases List.mem_cons.mp h1 with e1 | e1
          · rcases List.mem_cons.mp h2 with e2 | e2
            · exact e1.trans e2.symm
            · exact absurd (show x.2.1 ∈ l.map (·.2.1) from List.mem_map.mpr ⟨(s, a, d), e2, by rw [← e1, h3]⟩) n.1
          · rcases List.mem_cons.mp h2 with e2 | e2
            · exact absurd (show x.2.1 ∈ l.map (·.2.1) from List.mem_map.mpr ⟨y, e1, by rw [← e2, h3]⟩) n.1
            · exact ih n.2 e1 e2 h3
      exact q (by rw [this m n2 hy hy2 z])
  nodN := nodup_pt P.nodN
  nodA := by rw [addrs_pt' P h]; exact P.nodA
  ok := fun x hx => by
    unfold pt at hx
    rw [any_lk, h, if_pos (show (some (a, d)).isSome = true from rfl)] at hx
    obtain ⟨y, hy, rfl⟩ := List.mem_map.mp hx
    by_cases q : y.1 = s
    · rw [if_pos q]; exact o
    · rw [if_neg q]; exact P.ok y hy
theorem PlA.add (P : PlA C H p dx hd m) {s : Str} {a : Addr} {d : Pl} (h : lk m s = none) (na : H a = none) (k : Keeps [hd] H H') (e : H' a = some (.dK (dI d))) (eh : H' hd = some (.dK (putK (hK m) (Sum.inr s) (.ref a)))) (o : OkP d) : PlA C H' p dx hd (m ++ [(s, a, d)]) where
  ins := k _ _ P.ins fun z => by
    rw [List.mem_singleton] at z
    have := P.held
    rw [← z, P.ins] at this
    cases this
  held := by
    rw [eh]
    show some (HO.dK (putK (kv Sum.inr (fun e : Addr × Pl => V.ref e.1) m) (Sum.inr s) ((fun e : Addr × Pl => V.ref e.1) (a, d)))) = _
    rw [kv_put injS, pt_new _ h]
    rfl
  inner := fun x hx => by
    rcases List.mem_append.mp hx with hx | hx
    · refine k _ _ (P.inner x hx) fun z => ?_
      rw [List.mem_singleton] at z
      exact (List.nodup_cons.mp P.nodA).1 (z ▸ List.mem_map.mpr ⟨_, hx, rfl⟩)
    · rw [List.mem_singleton] at hx
      subst hx
      exact e
  nodN := by
    have := nodup_pt (b := (a, d)) P.nodN (a := s)
    rwa [pt_new _ h] at this
  nodA := by
    rw [List.map_append, ← List.cons_append, List.nodup_append]
    refine ⟨P.nodA, by simp, fun x hx y hy z => ?_⟩
    have hy' : y = a := by simpa using hy
    subst hy' z
    rcases List.mem_cons.mp hx with q | q
    · rw [q, P.held] at na; cases na
    · obtain ⟨f, hf, q⟩ := List.mem_map.mp q
      have := P.inner f hf
      rw [q, na] at this
      cases this
  ok := fun x hx => by
    rcases List.mem_append.mp hx with hx | hx
    · exact P.ok x hx
    · rw [List.mem_singleton] at hx
      subst hx
      exact o
theorem PlA.drop (P : PlA C H p dx hd m) {s : Str} (k : Keeps [hd] H H') (eh : H' hd = some (.dK (dropK (hK m) (Sum.inr s)))) : PlA C H' p dx hd (dr m s) where
  ins := k _ _ P.ins fun z => by
    rw [List.mem_singleton] at z
    have := P.held
    rw [← z, P.ins] at this
    cases this
  held := by rw [eh]; unfold hK; rw [kv_drop injS]
  inner := fun x hx => by
    have hx := (List.mem_filter.mp hx).1
    refine k _ _ (P.inner x hx) fun z => ?_
    rw [List.mem_singleton] at z
    exact (List.nodup_cons.mp P.nodA).1 (z ▸ List.mem_map.mpr ⟨_, hx, rfl⟩)
  nodN := nodup_dr P.nodN
  nodA := by
    have sub : (dr m s).Sublist m := List.filter_sublist
    exact List.Sublist.nodup (List.Sublist.cons_cons _ (List.Sublist.map _ sub)) P.nodA
  ok := fun x hx => P.ok x (List.mem_filter.mp hx).1
theorem fpt_add {s : Str} {a : Addr} {d : Pl} : ∀ x ∈ fpt hd (m ++ [(s, a, d)]), x ∈ fpt hd m ∨ x = a := fun x hx => by
  unfold fpt at hx ⊢
  rw [List.map_append, ← List.cons_append] at hx
  rcases List.mem_append.mp hx with h | h
  · exact .inl h
  · exact .inr (by simpa using h)
theorem fpt_drop {s : Str} : ∀ x ∈ fpt hd (dr m s), x ∈ fpt hd m := fun x hx => by
  unfold fpt at hx ⊢
  rcases List.mem_cons.mp hx with h | h
  · exact List.mem_cons.mpr (.inl h)
  · obtain ⟨y, hy, e⟩ := List.mem_map.mp h
    exact List.mem_cons_of_mem _ (List.mem_map.mpr ⟨y, (List.mem_filter.mp hy).1, e⟩)
theorem fpt_mem {s : Str} {a : Addr} {d : Pl} (h : lk m s = some (a, d)) : a ∈ fpt hd m := List.mem_cons_of_mem _ (List.mem_map.mpr ⟨_, lk_mem h, rfl⟩)
end
end Pm
set_option maxRecDepth 100000
set_option maxHeartbeats 4000000
/-! Plain: the first methods -/
namespace Bm
open PySem L2 L3 Pm
abbrev sPI : Stmt := inClass (top 24) 0
abbrev sPEq : Stmt := inClass (top 24) 1
abbrev sIn : Stmt := inClass (top 24) 2
abbrev sAdd : Stmt := inClass (top 24) 3
abbrev sDrop : Stmt := inClass (top 24) 4
abbrev sMap : Stmt := inClass (top 24) 5
abbrev sNF : Stmt := inClass (top 24) 6
abbrev sUnmap : Stmt := inClass (top 24) 7
abbrev sFork : Stmt := inClass (top 24) 8
abbrev sMove : Stmt := inClass (top 24) 9
abbrev sNP : Stmt := inClass (top 24) 10
abbrev sWrite : Stmt := inClass (top 24) 11
abbrev sRead : Stmt := inClass (top 24) 12
abbrev sSpaces : Stmt := inClass (top 24) 13
abbrev sPlaces : Stmt := inClass (top 24) 14
structure PlT (K : PySem.W.Frag) (C : Addr) : Prop where
  cl : Cls K C
  nH : NoAttr K C "held"
/-- a method of the class -/
def HasM (P : Program) (w : World) (K : PySem.W.Frag) (mg : Str → Option Value) (base : Heap) (CX : CXT) (k : Nat) (C : Addr) (x : Str) (ps : List Str) (sp : Sp) : Prop :=
  ∃ f fd, Meth K C x f ∧ FnOk P w K mg base CX k f fd ps sp ∧ Binds K fd ps []
def spPI (C : Addr) : Sp := fun vs H Q _ => ∃ (p dx : Addr), vs = [.ref p] ∧ H p = some (.ins C dx []) ∧ ∀ hd H', H hd = none → Keeps [p] H H' → PlA C H' p dx hd [] → Q .non H'
def spIn (C CS : Addr) : Sp := fun vs H Q E => ∃ (p dx hd : Addr) (m : Sp3) (y : V), vs = [.ref p, y] ∧ PlA C H p dx hd m ∧ AnyV H y ∧
  (∀ s a d, y = .str s → lk m s = some (a, d) → Q (.ref a) H) ∧ ((∀ s, y = .str s → lk m s = none) → attrE CS "name" y H E)
def spAdd (C CBN CT : Addr) : Sp := fun vs H Q E => ∃ (p dx hd : Addr) (m : Sp3) (y : V), vs = [.ref p, y] ∧ PlA C H p dx hd m ∧ AnyV H y ∧ Short y ∧ m.length < 100000 ∧
  (nameB y = false → ∀ H', Same H H' → E (.ref CBN) none H') ∧ (∀ s, y = .str s → nameS s = true → (lk m s).isSome = true → attrE CT "name" y H E) ∧
  (∀ s, y = .str s → nameS s = true → lk m s = none → ∀ a H', H a = none → Keeps [hd] H H' → PlA C H' p dx hd (m ++ [(s, a, [])]) → Q .non H')
def spDrop (C CS : Addr) : Sp := fun vs H Q E => ∃ (p dx hd : Addr) (m : Sp3) (y : V), vs = [.ref p, y] ∧ PlA C H p dx hd m ∧ AnyV H y ∧
  ((∀ s, y = .str s → lk m s = none) → attrE CS "name" y H E) ∧ (∀ s, y = .str s → (lk m s).isSome = true → ∀ H', Keeps [hd] H H' → PlA C H' p dx hd (dr m s) → Q .non H')
def spFork (C CS CBN CT : Addr) : Sp := fun vs H Q E => ∃ (p dx hd : Addr) (m : Sp3) (y z : V), vs = [.ref p, y, z] ∧ PlA C H p dx hd m ∧ AnyV H y ∧ AnyV H z ∧ Short z ∧ m.length < 100000 ∧
  ((∀ s, y = .str s → lk m s = none) → attrE CS "name" y H E) ∧
  (∀ s, y = .str s → (lk m s).isSome = true → nameB z = false → ∀ H', Same H H' → E (.ref CBN) none H') ∧
  (∀ s c, y = .str s → (lk m s).isSome = true → z = .str c → nameS c = true → (lk m c).isSome = true → attrE CT "name" z H E) ∧
  (∀ s c b d, y = .str s → lk m s = some (b, d) → z = .str c → nameS c = true → lk m c = none → ∀ a H', H a = none → Keeps [hd] H H' → PlA C H' p dx hd (m ++ [(c, a, d)]) → Q .non H')
section
variable {P : Program} {w : World} {K : PySem.W.Frag} {mg : Str → Option Value} {base : Heap}
theorem scPI : FnScope ["self"] ["self"] (defScope sPI) := ⟨rfl, rfl, rfl, by decide +kernel, rfl, by decide +kernel, by decide +kernel⟩
theorem ok_pinit {f C : Addr} {fd : FuncData} (F : Fun K "__init__" "Plain.__init__" sPI f fd) (TP : PlT K C) : FnOk P w K mg base CX0 1 f fd ["self"] (spPI C) := by
  refine F.ok scPI (fun vs H Q E h => ?_) (fun cdv A outer s H vs Q E hr h => ?_)
  · obtain ⟨p, dx, rfl, _⟩ := h
    rfl
  · obtain ⟨p, dx, rfl, hp, k⟩ := h
    refine ⟨_, (pss_one (ps_fld (pv 0) pe_dnewK rfl)), ?_⟩
    refine fun d hd => ⟨_, rfl, p, C, dx, _, rfl, by rw [upd_ne (ne_of_none hp hd)]; exact hp, TP.cl, TP.nH, by decide, ?_⟩
    have ne : d ≠ p := (ne_of_none hp hd).symm
    refine k d _ hd (fun b o e n => ?_) ⟨upd_same, by rw [upd_ne ne, upd_same]; rfl, fun e he => (by cases he), by simp, by simp, fun e he => (by cases he)⟩
    rw [upd_ne (fun z => n (by rw [z]; exact List.mem_singleton.mpr rfl)), upd_ne (ne_of_none e hd)]
    exact e
theorem scIn : FnScope ["self", "space"] ["self", "space"] (defScope sIn) := ⟨rfl, rfl, rfl, by decide +kernel, rfl, by decide +kernel, by decide +kernel⟩
theorem ok_inside {f C CS : Addr} {fd : FuncData} (F : Fun K "inside" "Plain.inside" sIn f fd) (TP : PlT K C) (T : TD K mg) (SS : SupE P w K mg base "NoSpace" "name" CS) : FnOk P w K mg base (L2.CX P w) 3 f fd ["self", "space"] (spIn C CS) := by
  obtain ⟨gS, TS, fS, fdS, iS, tS, GS, bS⟩ := SS
  refine F.okX scIn (fun vs H Q E h => ?_) (fun cdv A outer s H vs Q E hr h => ?_)
  · obtain ⟨p, dx, hd, m, y, rfl, _⟩ := h
    rfl
  · obtain ⟨p, dx, hd, m, y, rfl, hP, hy, k1, k2⟩ := h
    have hu := hu_of hr
    obtain ⟨t, ty, h1⟩ := hy.tyT (K := K)
    refine ⟨_, (pss_cons (ps_if (PW.pt (pw_or (pt_not (pt_val (pe_callB call_isV (by rfl) T.isinstance_ PyProof.Rows.boot_isinstance (pa_cons (pv 1) (pa_cons (pe_bltn (v := .ty "str") rfl T.str_ (by decide +kernel) rfl) pa_nil))))) (pw_or1 (pt_cmp (pc_dnotin hu (pv 1) (pe_fld (pv 0) rfl))))))
        (pss_one (ps_raise rfl (takes_of rfl rfl rfl rfl) (pmk_oex TS iS tS GS hr bS .nil pass0 rfl gS (pa_cons (pv 1) pa_nil))))
        pss_nil)
      (pss_one (ps_ret (pe_dget hu (pe_fld (pv 0) rfl) (pv 1) (fun _ _ => rfl))))), ?_⟩
    refine ⟨_, rfl, _, _, _, _, _, rfl, .ty _, .base ty, h1, _, rfl, ?_⟩
    cases hy with
    | str s =>
      refine iteF ?_
      refine ⟨_, rfl, _, rfl, p, C, dx, _, _, rfl, hP.ins, TP.cl, TP.nH, rfl, hd, _, rfl, DGet.k (k := Sum.inr s) hP.held, _, rfl, ?_⟩
      rw [hK_val]
      cases e : lk m s with
      | none => exact iteT ⟨_, rfl, by show 1 ≤ 1000; decide, mk_sup fun d nd => k2 (fun s' e' => by cases e'; exact e) H d (Same.refl _) nd⟩
      | some x =>
        refine iteF ?_
        refine ⟨_, rfl, p, C, dx, _, _, rfl, hP.ins, TP.cl, TP.nH, rfl, _, rfl, hd, .ref x.1, rfl, ?_, k1 s x.1 x.2 rfl e⟩
        have := DGet.k (k := Sum.inr s) hP.held
        rwa [hK_val, e] at this
    | _ => exact iteT (iteT ⟨_, rfl, by show 1 ≤ 1000; decide, mk_sup fun d nd => k2 (fun s' e' => by cases e') H d (Same.refl _) nd⟩)
theorem scAdd : FnScope ["self", "space"] ["self", "space"] (defScope sAdd) := ⟨rfl, rfl, rfl, by decide +kernel, rfl, by decide +kernel, by decide +kernel⟩
theorem ok_add {f C CBN CT : Addr} {fd : FuncData} (F : Fun K "add" "Plain.add" sAdd f fd) (TP : PlT K C) (HN : Has P w K mg base (L2.CX P w) 3 "need_new" ["spaces", "name"] (spNew CBN CT)) : FnOk P w K mg base (L2.CX P w) 4 f fd ["self", "space"] (spAdd C CBN CT) := by
  obtain ⟨fN, fdN, GN, mN, kN, bN⟩ := HN
  refine F.okX scAdd (fun vs H Q E h => ?_) (fun cdv A outer s H vs Q E hr h => ?_)
  · obtain ⟨p, dx, hd, m, y, rfl, _⟩ := h
    rfl
  · obtain ⟨p, dx, hd, m, y, rfl, hP, hy, sh, hl, k1, k2, k3⟩ := h
    have hu := hu_of hr
    refine ⟨_, (pss_cons (ps_expr (pe_call GN hr rfl mN kN bN .nil (passes_call (takes_of rfl rfl rfl rfl) (fun _ _ _ _ h => h)) (pa_cons (pe_fld (pv 0) rfl) (pa_cons (pv 1) pa_nil))))
      (pss_one (ps_dput hu (pe_fld (pv 0) rfl) (pv 1) pe_dnewK rfl))), ?_⟩
    refine ⟨_, rfl, p, C, dx, _, _, rfl, hP.ins, TP.cl, TP.nH, rfl, _, rfl, hd, _, y, rfl, hP.held, hy, sh, k1, fun s e1 e2 e3 => k2 s e1 e2 (by rw [hK_val] at e3; simpa using e3), fun s e1 e2 e3 H1 s1 => ?_⟩
    subst e1
    have e3' : lk m s = none := by rw [hK_val] at e3; simpa using e3
    have P1 := hP.same s1
    refine fun a na => ⟨_, rfl, p, C, dx, _, _, rfl, by rw [upd_ne (ne_of_none P1.ins na)]; exact P1.ins, TP.cl, TP.nH, rfl, _, rfl, ?_⟩
    have nah : hd ≠ a := ne_of_none P1.held na
    have eh : (upd H1 a (.dK [])) hd = some (.dK (hK m)) := by rw [upd_ne nah]; exact P1.held
    refine ⟨hd, _, rfl, DPut.k (k := Sum.inr s) eh (by rw [show (hK m).length = m.length from kv_length m, sizeLine_eq]; omega), ?_⟩
    have kp : Keeps [hd] H (upd (upd H1 a (.dK [])) hd (.dK (putK (hK m) (Sum.inr s) (.ref a)))) := fun b o e n => by
      have e1 := s1 b o e
      rw [upd_ne (fun z => n (by rw [z]; exact List.mem_singleton.mpr rfl)), upd_ne (ne_of_none e1 na)]
      exact e1
    have na0 : H a = none := s1.free na
    exact k3 s rfl e2 e3' a _ na0 kp (hP.add e3' na0 kp (by rw [upd_ne nah.symm, upd_same]; rfl) upd_same .nil)
theorem scDrop : FnScope ["self", "space"] ["self", "space"] (defScope sDrop) := ⟨rfl, rfl, rfl, by decide +kernel, rfl, by decide +kernel, by decide +kernel⟩
theorem ok_drop {f C CS : Addr} {fd : FuncData} (F : Fun K "drop" "Plain.drop" sDrop f fd) (TP : PlT K C) (HI : HasM P w K mg base (L2.CX P w) 3 C "inside" ["self", "space"] (spIn C CS)) : FnOk P w K mg base (L2.CX P w) 4 f fd ["self", "space"] (spDrop C CS) := by
  obtain ⟨fI, fdI, mmI, GI, bI⟩ := HI
  refine F.okX scDrop (fun vs H Q E h => ?_) (fun cdv A outer s H vs Q E hr h => ?_)
  · obtain ⟨p, dx, hd, m, y, rfl, _⟩ := h
    rfl
  · obtain ⟨p, dx, hd, m, y, rfl, hP, hy, k1, k2⟩ := h
    refine ⟨_, (pss_cons (ps_expr (pe_meth (pv 0) TP.cl mmI GI hr bI .nil (passes_call (takes_of rfl rfl rfl rfl) (fun _ _ _ _ h => h)) (pa_cons (pv 1) pa_nil)))
      (pss_one (ps_expr (pe_dpop1 (pe_fld (pv 0) rfl) (pv 1) ⟨by rfl, by rfl, by rfl, by rfl⟩)))), ?_⟩
    refine ⟨_, rfl, p, dx, _, rfl, hP.ins, rfl, _, rfl, p, dx, hd, m, y, rfl, hP, hy, fun s a d e1 e2 => ?_, k1⟩
    subst e1
    refine ⟨_, rfl, p, C, dx, _, _, rfl, hP.ins, TP.cl, TP.nH, rfl, hd, rfl, .inl ⟨_, .inl hP.held⟩, _, rfl, _, Sum.inr s, .ref a, hP.held, rfl, by rw [hK_val, e2]; rfl, ?_⟩
    have kp : Keeps [hd] H (upd H hd (.dK (dropK (hK m) (Sum.inr s)))) := fun b o e n => by
      rw [upd_ne (fun z => n (by rw [z]; exact List.mem_singleton.mpr rfl))]
      exact e
    exact k2 s rfl (by rw [e2]; rfl) _ kp (hP.drop kp upd_same)
theorem scFork : FnScope ["self", "space", "child", "inside"] ["self", "space", "child"] (defScope sFork) := ⟨rfl, rfl, rfl, by decide +kernel, rfl, by decide +kernel, by decide +kernel⟩
theorem ok_fork {f C CS CBN CT : Addr} {fd : FuncData} (F : Fun K "fork" "Plain.fork" sFork f fd) (TP : PlT K C) (dict_ : mg "dict" = none) (HI : HasM P w K mg base (L2.CX P w) 3 C "inside" ["self", "space"] (spIn C CS)) (HN : Has P w K mg base (L2.CX P w) 3 "need_new" ["spaces", "name"] (spNew CBN CT)) :
    FnOk P w K mg base (L2.CX P w) 4 f fd ["self", "space", "child"] (spFork C CS CBN CT) := by
  obtain ⟨fI, fdI, mmI, GI, bI⟩ := HI
  obtain ⟨fN, fdN, GN, mN, kN, bN⟩ := HN
  refine F.okX scFork (fun vs H Q E h => ?_) (fun cdv A outer s H vs Q E hr h => ?_)
  · obtain ⟨p, dx, hd, m, y, z, rfl, _⟩ := h
    rfl
  · obtain ⟨p, dx, hd, m, y, z, rfl, hP, hy, hz, sh, hl, k1, k2, k3, k4⟩ := h
    have hu := hu_of hr
    refine ⟨_, (pss_cons (ps_set (i := 3) scFork.nd rfl (Or.inl rfl) (pe_meth (pv 0) TP.cl mmI GI hr bI .nil (passes_call (takes_of rfl rfl rfl rfl) (fun _ _ _ _ h => h)) (pa_cons (pv 1) pa_nil)))
      (pss_cons (ps_expr (pe_call GN hr rfl mN kN bN .nil (passes_call (takes_of rfl rfl rfl rfl) (fun _ _ _ _ h => h)) (pa_cons (pe_fld (pv 0) rfl) (pa_cons (pv 2) pa_nil))))
      (pss_one (ps_dput hu (pe_fld (pv 0) rfl) (pv 2) (pe_callTy call_dictD (by rfl) dict_ (by decide +kernel) (pa_cons (pv 3) pa_nil)) rfl)))), ?_⟩
    refine ⟨_, rfl, p, dx, _, rfl, hP.ins, rfl, _, rfl, p, dx, hd, m, y, rfl, hP, hy, fun s b d e1 e2 => ?_, k1⟩
    subst e1
    have is2 : (lk m s).isSome = true := by rw [e2]; rfl
    refine ⟨_, rfl, p, C, dx, _, _, rfl, hP.ins, TP.cl, TP.nH, rfl, _, rfl, hd, _, z, rfl, hP.held, hz, sh, k2 s rfl is2, fun c e3 e4 e5 => k3 s c rfl is2 e3 e4 (by rw [hK_val] at e5; simpa using e5), fun c e3 e4 e5 H1 s1 => ?_⟩
    subst e3
    have e5' : lk m c = none := by rw [hK_val] at e5; simpa using e5
    have P1 := hP.same s1
    refine ⟨_, rfl, b, _, rfl, .inl (P1.at e2).1, fun a na => ?_⟩
    have nah : hd ≠ a := ne_of_none P1.held na
    have eh : (upd H1 a (.dK (dI d))) hd = some (.dK (hK m)) := by rw [upd_ne nah]; exact P1.held
    refine ⟨_, rfl, p, C, dx, _, _, rfl, by rw [upd_ne (ne_of_none P1.ins na)]; exact P1.ins, TP.cl, TP.nH, rfl, _, rfl, hd, _, rfl, DPut.k (k := Sum.inr c) eh (by rw [show (hK m).length = m.length from kv_length m, sizeLine_eq]; omega), ?_⟩
    have kp : Keeps [hd] H (upd (upd H1 a (.dK (dI d))) hd (.dK (putK (hK m) (Sum.inr c) (.ref a)))) := fun b o e n => by
      have e1 := s1 b o e
      rw [upd_ne (fun z => n (by rw [z]; exact List.mem_singleton.mpr rfl)), upd_ne (ne_of_none e1 na)]
      exact e1
    have na0 : H a = none := s1.free na
    exact k4 s c b d rfl e2 rfl e4 e5' a _ na0 kp (hP.add e5' na0 kp (by rw [upd_ne nah.symm, upd_same]) upd_same (hP.at e2).2)
end
end Bm
set_option maxRecDepth 100000
set_option maxHeartbeats 4000000
/-! Plain: stretches -/
namespace Bm
open PySem L2 L3 Pm
def spNF (C CU : Addr) : Sp := fun vs H Q E => ∃ (p dx a : Addr) (fs : List (Str × V)) (b n : Int) (d : Pl), vs = [.ref p, .ref a, .int b, .int n] ∧ H a = some (.dK (dI d)) ∧ isS (.int b) (.int n) = true ∧
  (used d b n.toNat = none → Q .non H) ∧ (∀ i, used d b n.toNat = some i → attrE CU "place" (.int i) H E)
def spMap (C CS CB CU : Addr) : Sp := fun vs H Q E => ∃ (p dx hd : Addr) (m : Sp3) (y b n : V), vs = [.ref p, y, b, n] ∧ PlA C H p dx hd m ∧ AnyV H y ∧ AnyV H b ∧ AnyV H n ∧
  ((∀ s, y = .str s → lk m s = none) → attrE CS "name" y H E) ∧ (∀ s, y = .str s → (lk m s).isSome = true → isS b n = false → E (.ref CB) none H) ∧
  (∀ s a d i j x, y = .str s → lk m s = some (a, d) → b = .int i → n = .int j → isS b n = true → used d i j.toNat = some x → attrE CU "place" (.int x) H E) ∧
  (∀ s a d i j, y = .str s → lk m s = some (a, d) → b = .int i → n = .int j → isS b n = true → used d i j.toNat = none → ∀ H', Keeps [a] H H' → PlA C H' p dx hd (pt m s (a, mapP d i j.toNat)) → Q .non H')
def spUnmap (C CS CB : Addr) : Sp := fun vs H Q E => ∃ (p dx hd : Addr) (m : Sp3) (y b n : V), vs = [.ref p, y, b, n] ∧ PlA C H p dx hd m ∧ AnyV H y ∧ AnyV H b ∧ AnyV H n ∧
  ((∀ s, y = .str s → lk m s = none) → attrE CS "name" y H E) ∧ (∀ s, y = .str s → (lk m s).isSome = true → isS b n = false → E (.ref CB) none H) ∧
  (∀ s a d i j, y = .str s → lk m s = some (a, d) → b = .int i → n = .int j → isS b n = true → ∀ H', Keeps [a] H H' → PlA C H' p dx hd (pt m s (a, unmapP d i j.toNat)) → Q .non H')
def spMove (C CS CB CL CU : Addr) : Sp := fun vs H Q E => ∃ (p dx hd : Addr) (m : Sp3) (y b n t : V), vs = [.ref p, y, b, n, t] ∧ PlA C H p dx hd m ∧ AnyV H y ∧ AnyV H b ∧ AnyV H n ∧ AnyV H t ∧
  ((∀ s, y = .str s → lk m s = none) → attrE CS "name" y H E) ∧ (∀ s, y = .str s → (lk m s).isSome = true → (isS b n = false ∨ isS t n = false) → E (.ref CB) none H) ∧
  (∀ s a d i j x, y = .str s → lk m s = some (a, d) → b = .int i → n = .int j → isS b n = true → isS t n = true → lacks d i j.toNat = some x → attrE CL "place" (.int x) H E) ∧
  (∀ s a d i j k x, y = .str s → lk m s = some (a, d) → b = .int i → n = .int j → t = .int k → isS b n = true → isS t n = true → lacks d i j.toNat = none → used d k j.toNat = some x → attrE CU "place" (.int x) H E) ∧
  (∀ s a d i j k, y = .str s → lk m s = some (a, d) → b = .int i → n = .int j → t = .int k → isS b n = true → isS t n = true → lacks d i j.toNat = none → used d k j.toNat = none → ∀ H', Keeps [a] H H' → PlA C H' p dx hd (pt m s (a, moveP d i k j.toNat)) → Q .non H')
theorem isS_iff {b m : Int} : isS (.int b) (.int m) = true ↔ 0 ≤ b ∧ 1 ≤ m ∧ b + m ≤ 10000 := by
  simp only [isS, Bool.and_eq_true, decide_eq_true_eq]
  omega
theorem isS_ints {b n : V} (h : isS b n = true) : ∃ i j, b = .int i ∧ n = .int j := by
  cases b <;> cases n <;> first | (cases h; done) | exact ⟨_, _, rfl, rfl⟩ | (simp [isS] at h)
theorem isS_begins {b n : V} (h : isS b n = true) : ∃ i j, b = .int i ∧ n = .int j ∧ 0 ≤ i ∧ 1 ≤ j ∧ i + j ≤ 10000 := by
  obtain ⟨i, j, rfl, rfl⟩ := isS_ints h
  exact ⟨i, j, rfl, rfl, isS_iff.mp h⟩
theorem _root_.Pm.Keeps.one {a : Addr} {H : Hp} {o : HO} : Keeps [a] H (upd H a o) := fun b u e n => by
  rw [upd_ne (fun z => n (by rw [z]; exact List.mem_singleton.mpr rfl))]
  exact e
section
variable {P : Program} {w : World} {K : PySem.W.Frag} {mg : Str → Option Value} {base : Heap}
theorem scNF : FnScope ["self", "inside", "begin", "many", "place"] ["self", "inside", "begin", "many"] (defScope sNF) := ⟨rfl, rfl, rfl, by decide +kernel, rfl, by decide +kernel, by decide +kernel⟩
theorem ok_nfree {f C CU : Addr} {fd : FuncData} (F : Fun K "need_free" "Plain.need_free" sNF f fd) (range_ : mg "range" = none) (SU : SupE P w K mg base "Used" "place" CU) : FnOk P w K mg base (L2.CX P w) 3 f fd ["self", "inside", "begin", "many"] (spNF C CU) := by
  obtain ⟨gU, TU, fU, fdU, iU, tU, GU, bU⟩ := SU
  refine F.okX scNF (fun vs H Q E h => ?_) (fun cdv A outer s H vs Q E hr h => ?_)
  · obtain ⟨p, dx, a, fs, b, n, d, rfl, _⟩ := h
    rfl
  · obtain ⟨p, dx, a, fs, b, n, d, rfl, ha, hS, k1, k2⟩ := h
    obtain ⟨b0, n1, b1⟩ := isS_iff.mp hS
    have hu := hu_of hr
    refine ⟨_, (pss_one (ps_for PassesOwn.leaving rfl (pi_range2 rfl range_ (pa_cons (pv 2) (pa_cons (pe_op op_add (pv 2) (pv 3)) pa_nil))) (pg_name (i := 4) scNF.nd rfl (Or.inl rfl))
        (pss_one (ps_if (pt_cmp (pc_din hu (pv 4) (pv 1)))
            (pss_one (ps_raise rfl (takes_of rfl rfl rfl rfl) (pmk_oex TU iU tU GU hr bU .nil pass0 rfl gU (pa_cons (pv 4) pa_nil))))
            pss_nil)))), ?_⟩
    refine ⟨_, rfl, _, rfl, _, rfl, _, _, rfl, rfl, b, b + n, rfl, ⟨by omega, by omega, by omega, by omega⟩, for_range (lo := b) (n := (b + n - b).toNat) (fun i σ H' => H' = H ∧ (∃ v4, σ = [some (.ref p), some (.ref a), some (.int b), some (.int n), v4]) ∧ used d b i = none) ⟨rfl, ⟨_, rfl⟩, rfl⟩ ?_ ?_⟩
    · rintro i σ H' hi ⟨rfl, ⟨v4, rfl⟩, hn⟩
      have e : used d b (i + 1) = if (lk d (b + (i : Int))).isSome = true then some (b + (i : Int)) else none := by
        show (match used d b i with | some i => some i | none => _) = _
        rw [hn]
      refine ⟨_, rfl, _, rfl, a, _, rfl, DGet.k (k := Sum.inl (b + (i : Int))) ha, _, rfl, ?_⟩
      rw [dI_val]
      cases q : lk d (b + (i : Int)) with
      | some x =>
        rw [q, if_pos (show (some x).isSome = true from rfl)] at e
        have := used_mono d b (n.toNat - (i + 1)) e
        rw [show i + 1 + (n.toNat - (i + 1)) = n.toNat by omega] at this
        exact iteT ⟨_, rfl, by show 1 ≤ 1000; decide, mk_sup fun d' nd => k2 _ this _ d' (Same.refl _) nd⟩
      | none =>
        rw [q, if_neg (by simp)] at e
        exact iteF ⟨rfl, ⟨_, rfl⟩, e⟩
    · rintro σ H' ⟨rfl, _, hn⟩
      exact k1 (by rw [← hn]; congr 1; omega)
theorem scMap : FnScope ["self", "space", "begin", "many", "inside", "place"] ["self", "space", "begin", "many"] (defScope sMap) := ⟨rfl, rfl, rfl, by decide +kernel, rfl, by decide +kernel, by decide +kernel⟩
theorem ok_map {f C CS CB CU : Addr} {fd : FuncData} (F : Fun K "map" "Plain.map" sMap f fd) (TP : PlT K C) (range_ : mg "range" = none) (HI : HasM P w K mg base (L2.CX P w) 3 C "inside" ["self", "space"] (spIn C CS)) (HF : HasM P w K mg base (L2.CX P w) 3 C "need_free" ["self", "inside", "begin", "many"] (spNF C CU)) (HS : Has P w K mg base (L2.CX P w) 4 "need_stretch" ["begin", "many"] (spNeed CB)) :
    FnOk P w K mg base (L2.CX P w) 5 f fd ["self", "space", "begin", "many"] (spMap C CS CB CU) := by
  obtain ⟨fI, fdI, mmI, GI, bI⟩ := HI
  obtain ⟨fF, fdF, mmF, GF, bF⟩ := HF
  obtain ⟨fS, fdS, GS, mS, kS, bS⟩ := HS
  refine F.okX scMap (fun vs H Q E h => ?_) (fun cdv A outer s H vs Q E hr h => ?_)
  · obtain ⟨p, dx, hd, m, y, b, n, rfl, _⟩ := h
    rfl
  · obtain ⟨p, dx, hd, m, y, b, n, rfl, hP, hy, hb, hn, k1, k2, k3, k4⟩ := h
    have hu := hu_of hr
    have hr3 := hr.mono (show 3 ≤ 4 by decide)
    refine ⟨_, (pss_cons (ps_set (i := 4) scMap.nd rfl (Or.inl rfl) (pe_meth (pv 0) TP.cl mmI GI hr3 bI .nil (passes_call (takes_of rfl rfl rfl rfl) (fun _ _ _ _ h => h)) (pa_cons (pv 1) pa_nil)))
      (pss_cons (ps_expr (pe_call GS hr rfl mS kS bS .nil (passes_call (takes_of rfl rfl rfl rfl) (fun _ _ _ _ h => h)) (pa_cons (pv 2) (pa_cons (pv 3) pa_nil))))
      (pss_cons (ps_expr (pe_meth (pv 0) TP.cl mmF GF hr3 bF .nil (passes_call (takes_of rfl rfl rfl rfl) (fun _ _ _ _ h => h)) (pa_cons (pv 4) (pa_cons (pv 2) (pa_cons (pv 3) pa_nil)))))
      (pss_one (ps_expr (pe_bm PySem.F.plainAttrs_dict PySem.F.slot_dict_update PySem.F.type_dict_update mt_updD (pv 4) (pa_cons (pe_dc (own := [("place", 5)]) (g := gName 5) (tt := tYes) rfl scMap.nd (pi_range2 rfl range_ (pa_cons (pv 2) (pa_cons (pe_op op_add (pv 2) (pv 3)) pa_nil))) (blkOk_by (own := [("place", 5)]) (N := ["self", "space", "begin", "many", "inside", "place"]) (sc := defScope sMap) (by decide +kernel)) (fun _ _ _ _ _ => (pg_name (i := 5) scMap.nd rfl (Or.inl rfl))) (fun _ _ _ _ _ => pts_nil) (fun _ _ _ _ _ => (pv 5)) (fun _ _ _ _ _ => pe_int)) pa_nil))))))), ?_⟩
    refine ⟨_, rfl, p, dx, _, rfl, hP.ins, rfl, _, rfl, p, dx, hd, m, y, rfl, hP, hy, fun s a d e1 e2 => ?_, k1⟩
    have is2 : (lk m s).isSome = true := by rw [e2]; rfl
    refine ⟨_, rfl, _, rfl, b, n, rfl, hb, hn, fun hS => ?_, fun hS => k2 s e1 is2 hS⟩
    obtain ⟨i, j, rfl, rfl, i0, j1, ij⟩ := isS_begins hS
    have ha := (hP.at e2).1
    refine ⟨_, rfl, p, dx, _, rfl, hP.ins, rfl, _, rfl, _, rfl, _, rfl, p, dx, a, [], i, j, d, rfl, ha, hS, fun hu0 => ?_, fun x hx => k3 s a d i j x e1 e2 rfl rfl hS hx⟩
    refine ⟨_, rfl, .inr (.inr (.inl ⟨rfl, .inl ⟨_, ha⟩⟩)), _, rfl, _, rfl, _, rfl, _, _, rfl, rfl, i, i + j, rfl, ⟨by omega, by omega, by omega, by omega⟩, fun D nD => ?_⟩
    have naD : a ≠ D := ne_of_none ha nD
    refine dc_it walk_range (fun q H1 => Same H H1 ∧ H1 D = some (.dK (dI (zeros i q)))) ⟨sameNew nD, upd_same⟩ (fun _ _ _ _ => True.intro) ?_ ?_
    · rintro q x H1 H2 hq ⟨s1, h1⟩ ⟨rfl, rfl⟩
      refine ⟨rfl, _, rfl, dI (zeros i q), Sum.inl (i + (q : Int)), rfl, h1, ?_, fun b o e => ?_, ?_⟩
      · rw [dI_length, sizeLine_eq]
        unfold zeros
        rw [List.length_map, List.length_range]
        omega
      · rw [upd_ne (ne_of_none e nD)]
        exact s1 b o e
      · rw [upd_same, dI_put, zeros_succ, pt_new]
        rw [lk_zeros, if_neg (by omega)]
    · rintro H1 ⟨s1, h1⟩
      rw [show (i + j - i).toNat = j.toNat by omega] at h1
      have kp : Keeps [a] H (upd H1 a (.dK (mergeK (dI d) (dI (zeros i j.toNat))))) := (Keeps.same s1).trans .one
      refine ⟨a, D, _, _, rfl, rfl, naD, s1 _ _ ha, h1, ?_, ?_⟩
      · have := (hP.at e2).2.few
        rw [dI_length, dI_length, sizeLine_eq]
        unfold zeros
        rw [List.length_map, List.length_range]
        omega
      · exact k4 s a d i j e1 e2 rfl rfl hS hu0 _ kp (hP.put e2 kp (by rw [upd_same, dI_merge]; rfl) ((hP.at e2).2.mapP i0 (by omega)))
theorem scUnmap : FnScope ["self", "space", "begin", "many", "inside", "place"] ["self", "space", "begin", "many"] (defScope sUnmap) := ⟨rfl, rfl, rfl, by decide +kernel, rfl, by decide +kernel, by decide +kernel⟩
theorem ok_unmap {f C CS CB : Addr} {fd : FuncData} (F : Fun K "unmap" "Plain.unmap" sUnmap f fd) (TP : PlT K C) (range_ : mg "range" = none) (HI : HasM P w K mg base (L2.CX P w) 3 C "inside" ["self", "space"] (spIn C CS)) (HS : Has P w K mg base (L2.CX P w) 4 "need_stretch" ["begin", "many"] (spNeed CB)) :
    FnOk P w K mg base (L2.CX P w) 5 f fd ["self", "space", "begin", "many"] (spUnmap C CS CB) := by
  obtain ⟨fI, fdI, mmI, GI, bI⟩ := HI
  obtain ⟨fS, fdS, GS, mS, kS, bS⟩ := HS
  refine F.okX scUnmap (fun vs H Q E h => ?_) (fun cdv A outer s H vs Q E hr h => ?_)
  · obtain ⟨p, dx, hd, m, y, b, n, rfl, _⟩ := h
    rfl
  · obtain ⟨p, dx, hd, m, y, b, n, rfl, hP, hy, hb, hn, k1, k2, k4⟩ := h
    have hr3 := hr.mono (show 3 ≤ 4 by decide)
    refine ⟨_, (pss_cons (ps_set (i := 4) scUnmap.nd rfl (Or.inl rfl) (pe_meth (pv 0) TP.cl mmI GI hr3 bI .nil (passes_call (takes_of rfl rfl rfl rfl) (fun _ _ _ _ h => h)) (pa_cons (pv 1) pa_nil)))
      (pss_cons (ps_expr (pe_call GS hr rfl mS kS bS .nil (passes_call (takes_of rfl rfl rfl rfl) (fun _ _ _ _ h => h)) (pa_cons (pv 2) (pa_cons (pv 3) pa_nil))))
      (pss_one (ps_for PassesOwn.leaving rfl (pi_range2 rfl range_ (pa_cons (pv 2) (pa_cons (pe_op op_add (pv 2) (pv 3)) pa_nil))) (pg_name (i := 5) scUnmap.nd rfl (Or.inl rfl))
        (pss_one (ps_expr (pe_dpop2 (pv 4) (pv 5) pe_non ⟨by rfl, by rfl, by rfl, by rfl⟩))))))), ?_⟩
    refine ⟨_, rfl, p, dx, _, rfl, hP.ins, rfl, _, rfl, p, dx, hd, m, y, rfl, hP, hy, fun s a d e1 e2 => ?_, k1⟩
    have is2 : (lk m s).isSome = true := by rw [e2]; rfl
    refine ⟨_, rfl, _, rfl, b, n, rfl, hb, hn, fun hS => ?_, fun hS => k2 s e1 is2 hS⟩
    obtain ⟨i, j, rfl, rfl, i0, j1, ij⟩ := isS_begins hS
    have ha := (hP.at e2).1
    refine ⟨_, rfl, _, rfl, _, rfl, _, _, rfl, rfl, i, i + j, rfl, ⟨by omega, by omega, by omega, by omega⟩, for_range (lo := i) (n := (i + j - i).toNat) (fun q σ H' => (∃ v5, σ = [some (.ref p), some y, some (.int i), some (.int j), some (.ref a), v5]) ∧ Keeps [a] H H' ∧ H' a = some (.dK (dI (unmapP d i q)))) ⟨⟨_, rfl⟩, .refl, ha⟩ ?_ ?_⟩
    · rintro q σ H' hq ⟨⟨v5, rfl⟩, kp, h1⟩
      refine ⟨_, rfl, a, rfl, .inl ⟨_, .inl h1⟩, _, rfl, _, Sum.inl (i + (q : Int)), h1, rfl, fun v hv => ⟨⟨_, rfl⟩, kp.trans .one, by rw [upd_same, dI_drop]; rfl⟩, fun hv => ⟨⟨_, rfl⟩, kp, ?_⟩⟩
      rw [h1]
      show _ = some (HO.dK (dI (dr (unmapP d i q) (i + (q : Int)))))
      rw [dr_none (by rw [dI_val] at hv; simpa using hv)]
    · rintro σ H' ⟨_, kp, h1⟩
      rw [show (i + j - i).toNat = j.toNat by omega] at h1
      exact k4 s a d i j e1 e2 rfl rfl hS _ kp (hP.put e2 kp h1 (hP.at e2).2.unmapP)
theorem scMove : FnScope ["self", "space", "begin", "many", "to", "inside", "place", "step"] ["self", "space", "begin", "many", "to"] (defScope sMove) := ⟨rfl, rfl, rfl, by decide +kernel, rfl, by decide +kernel, by decide +kernel⟩
theorem ok_move {f C CS CB CL CU : Addr} {fd : FuncData} (F : Fun K "move" "Plain.move" sMove f fd) (TP : PlT K C) (range_ : mg "range" = none) (HI : HasM P w K mg base (L2.CX P w) 3 C "inside" ["self", "space"] (spIn C CS)) (HF : HasM P w K mg base (L2.CX P w) 3 C "need_free" ["self", "inside", "begin", "many"] (spNF C CU))
    (HS : Has P w K mg base (L2.CX P w) 4 "need_stretch" ["begin", "many"] (spNeed CB)) (SL : SupE P w K mg base "NoPlace" "place" CL) : FnOk P w K mg base (L2.CX P w) 5 f fd ["self", "space", "begin", "many", "to"] (spMove C CS CB CL CU) := by
  obtain ⟨fI, fdI, mmI, GI, bI⟩ := HI
  obtain ⟨fF, fdF, mmF, GF, bF⟩ := HF
  obtain ⟨fS, fdS, GS, mS, kS, bS⟩ := HS
  obtain ⟨gL, TL, fL, fdL, iL, tL, GL, bL⟩ := SL
  refine F.okX scMove (fun vs H Q E h => ?_) (fun cdv A outer s H vs Q E hr h => ?_)
  · obtain ⟨p, dx, hd, m, y, b, n, t, rfl, _⟩ := h
    rfl
  · obtain ⟨p, dx, hd, m, y, b, n, t, rfl, hP, hy, hb, hn, ht, k1, k2, k3, k4, k5⟩ := h
    have hu := hu_of hr
    have hr3 := hr.mono (show 3 ≤ 4 by decide)
    refine ⟨_, (pss_cons (ps_set (i := 5) scMove.nd rfl (Or.inl rfl) (pe_meth (pv 0) TP.cl mmI GI hr3 bI .nil (passes_call (takes_of rfl rfl rfl rfl) (fun _ _ _ _ h => h)) (pa_cons (pv 1) pa_nil)))
      (pss_cons (ps_expr (pe_call GS hr rfl mS kS bS .nil (passes_call (takes_of rfl rfl rfl rfl) (fun _ _ _ _ h => h)) (pa_cons (pv 2) (pa_cons (pv 3) pa_nil))))
      (pss_cons (ps_expr (pe_call GS hr rfl mS kS bS .nil (passes_call (takes_of rfl rfl rfl rfl) (fun _ _ _ _ h => h)) (pa_cons (pv 4) (pa_cons (pv 3) pa_nil))))
      (pss_cons (ps_for PassesOwn.leaving rfl (pi_range2 rfl range_ (pa_cons (pv 2) (pa_cons (pe_op op_add (pv 2) (pv 3)) pa_nil))) (pg_name (i := 6) scMove.nd rfl (Or.inl rfl))
        (pss_one (ps_if (pt_cmp (pc_dnotin hu (pv 6) (pv 5)))
            (pss_one (ps_raise rfl (takes_of rfl rfl rfl rfl) (pmk_oex TL iL tL GL (hr.mono (by decide)) bL .nil pass0 rfl gL (pa_cons (pv 6) pa_nil))))
            pss_nil)))
      (pss_cons (ps_expr (pe_meth (pv 0) TP.cl mmF GF hr3 bF .nil (passes_call (takes_of rfl rfl rfl rfl) (fun _ _ _ _ h => h)) (pa_cons (pv 5) (pa_cons (pv 4) (pa_cons (pv 3) pa_nil)))))
      (pss_one (ps_for PassesOwn.leaving rfl (pi_range1 rfl range_ (pa_cons (pv 3) pa_nil)) (pg_name (i := 7) scMove.nd rfl (Or.inl rfl))
        (pss_one (ps_dput hu (pv 5) (pe_op op_add (pv 4) (pv 7)) (pe_dpop1 (pv 5) (pe_op op_add (pv 2) (pv 7)) ⟨by rfl, by rfl, by rfl, by rfl⟩) rfl))))))))), ?_⟩
    refine ⟨_, rfl, p, dx, _, rfl, hP.ins, rfl, _, rfl, p, dx, hd, m, y, rfl, hP, hy, fun s a d e1 e2 => ?_, k1⟩
    have is2 : (lk m s).isSome = true := by rw [e2]; rfl
    refine ⟨_, rfl, _, rfl, b, n, rfl, hb, hn, fun hS => ?_, fun hS => k2 s e1 is2 (.inl hS)⟩
    refine ⟨_, rfl, _, rfl, t, n, rfl, ht, hn, fun hS2 => ?_, fun hS => k2 s e1 is2 (.inr hS)⟩
    obtain ⟨i, j, rfl, rfl, i0, j1, ij⟩ := isS_begins hS
    obtain ⟨k, j', rfl, ej, i0', j1', ij'⟩ := isS_begins hS2
    cases ej
    have ha := (hP.at e2).1
    refine ⟨_, rfl, _, rfl, _, rfl, _, _, rfl, rfl, i, i + j, rfl, ⟨by omega, by omega, by omega, by omega⟩, for_range (lo := i) (n := (i + j - i).toNat) (fun q σ H' => H' = H ∧ (∃ v6, σ = [some (.ref p), some y, some (.int i), some (.int j), some (.int k), some (.ref a), v6, none]) ∧ lacks d i q = none) ⟨rfl, ⟨_, rfl⟩, rfl⟩ ?_ ?_⟩
    · rintro q σ H' hq ⟨rfl, ⟨v6, rfl⟩, hn⟩
      have e : lacks d i (q + 1) = if (lk d (i + (q : Int))).isSome = true then none else some (i + (q : Int)) := by
        show (match lacks d i q with | some i => some i | none => _) = _
        rw [hn]
      refine ⟨_, rfl, _, rfl, a, _, rfl, DGet.k (k := Sum.inl (i + (q : Int))) ha, _, rfl, ?_⟩
      rw [dI_val]
      cases z : lk d (i + (q : Int)) with
      | some x =>
        rw [z, if_pos (show (some x).isSome = true from rfl)] at e
        exact iteF ⟨rfl, ⟨_, rfl⟩, e⟩
      | none =>
        rw [z, if_neg (by simp)] at e
        have := lacks_mono d i (j.toNat - (q + 1)) e
        rw [show q + 1 + (j.toNat - (q + 1)) = j.toNat by omega] at this
        exact iteT ⟨_, rfl, by show 1 ≤ 1000; decide, mk_sup fun d' nd => k3 s a d i j _ e1 e2 rfl rfl hS hS2 this _ d' (Same.refl _) nd⟩
    rintro σ H' ⟨rfl, ⟨v6, rfl⟩, hl⟩
    rw [show (i + j - i).toNat = j.toNat by omega] at hl
    refine ⟨_, rfl, p, dx, _, rfl, hP.ins, rfl, _, rfl, _, rfl, _, rfl, p, dx, a, [], k, j, d, rfl, ha, hS2, fun hu0 => ?_, fun x hx => k4 s a d i j k x e1 e2 rfl rfl rfl hS hS2 hl hx⟩
    have L1 := (lacks_none d i j.toNat).mp hl
    have L2 := (used_none d k j.toNat).mp hu0
    refine ⟨_, rfl, j, rfl, by omega, by omega, for_range (lo := 0) (n := j.toNat) (fun q σ H1 => (∃ v6 v7, σ = [some (.ref p), some y, some (.int i), some (.int j), some (.int k), some (.ref a), v6, v7]) ∧ Keeps [a] H' H1 ∧ H1 a = some (.dK (dI (moveP d i k q)))) ⟨⟨_, _, rfl⟩, .refl, ha⟩ ?_ ?_⟩
    · rintro q σ H1 hq ⟨⟨v6, v7, rfl⟩, kp, h1⟩
      have there := lk_moveP d i k q (fun x hx => L1 x (by omega)) (fun x hx => L2 x (by omega)) (i + (q : Int))
      have e3 : lk (moveP d i k q) (i + (q : Int)) = lk d (i + (q : Int)) := by
        rw [there]
        rw [if_neg (fun z => by
          have a1 := L1 q (by omega)
          have a2 := L2 ((i + q - k).toNat) (by omega)
          rw [show k + (((i + q - k).toNat : Nat) : Int) = i + (q : Int) by omega] at a2
          rw [a2] at a1
          cases a1), if_neg (by omega)]
      obtain ⟨x, hx⟩ := Option.isSome_iff_exists.mp (L1 q (by omega))
      rw [hx] at e3
      have o1 := (OkP.moveP (n := q) (b := i) (hP.at e2).2 i0' (by omega))
      refine ⟨_, rfl, a, rfl, .inl ⟨_, .inl h1⟩, _, rfl, _, rfl, _, _, rfl, rfl, _, Sum.inl (i + (0 + (q : Int))), .int x, h1, rfl, ?_, ?_⟩
      · rw [dI_val, show i + (0 + (q : Int)) = i + (q : Int) by omega, e3]
        rfl
      refine ⟨_, rfl, _, rfl, _, rfl, _, _, rfl, rfl, a, _, rfl, DPut.k (k := Sum.inl (k + (0 + (q : Int)))) upd_same ?_, ⟨_, _, rfl⟩, (kp.trans .one).trans .one, ?_⟩
      · rw [dI_drop, dI_length, sizeLine_eq]
        have := o1.dr (i := i + (0 + (q : Int)))
        have := this.few
        omega
      · rw [upd_same, dI_drop, dI_put, show i + (0 + (q : Int)) = i + (q : Int) by omega, show k + (0 + (q : Int)) = k + (q : Int) by omega]
        show _ = some (HO.dK (dI (pt (dr (moveP d i k q) (i + (q : Int))) (k + (q : Int)) ((lk (moveP d i k q) (i + (q : Int))).getD 0))))
        rw [e3]
        rfl
    · rintro σ H1 ⟨_, kp, h1⟩
      exact k5 s a d i j k e1 e2 rfl rfl rfl hS hS2 hl hu0 _ kp (hP.put e2 kp h1 (OkP.moveP (hP.at e2).2 i0' (by omega)))
end
end Bm
set_option maxRecDepth 100000
set_option maxHeartbeats 4000000
/-! Plain: places, reads, equality -/
namespace Bm
open PySem L2 L3 Pm
def spNP (C CS CL : Addr) : Sp := fun vs H Q E => ∃ (p dx hd : Addr) (m : Sp3) (y z : V), vs = [.ref p, y, z] ∧ PlA C H p dx hd m ∧ AnyV H y ∧ AnyV H z ∧
  ((∀ s, y = .str s → lk m s = none) → attrE CS "name" y H E) ∧ (∀ s a d, y = .str s → lk m s = some (a, d) → (∀ i, z = .int i → lk d i = none) → attrE CL "place" z H E) ∧
  (∀ s a d i x, y = .str s → lk m s = some (a, d) → z = .int i → lk d i = some x → Q (.ref a) H)
def spWrite (C CS CL CV : Addr) : Sp := fun vs H Q E => ∃ (p dx hd : Addr) (m : Sp3) (y z v : V), vs = [.ref p, y, z, v] ∧ PlA C H p dx hd m ∧ AnyV H y ∧ AnyV H z ∧ AnyV H v ∧
  ((∀ s, y = .str s → lk m s = none) → attrE CS "name" y H E) ∧ (∀ s a d, y = .str s → lk m s = some (a, d) → (∀ i, z = .int i → lk d i = none) → attrE CL "place" z H E) ∧
  (∀ s a d i x, y = .str s → lk m s = some (a, d) → z = .int i → lk d i = some x → isC v = false → E (.ref CV) none H) ∧
  (∀ s a d i x j, y = .str s → lk m s = some (a, d) → z = .int i → lk d i = some x → v = .int j → isC v = true → ∀ H', Keeps [a] H H' → PlA C H' p dx hd (pt m s (a, pt d i j)) → Q .non H')
def spRead (C CS CL : Addr) : Sp := fun vs H Q E => ∃ (p dx hd : Addr) (m : Sp3) (y z : V), vs = [.ref p, y, z] ∧ PlA C H p dx hd m ∧ AnyV H y ∧ AnyV H z ∧
  ((∀ s, y = .str s → lk m s = none) → attrE CS "name" y H E) ∧ (∀ s a d, y = .str s → lk m s = some (a, d) → (∀ i, z = .int i → lk d i = none) → attrE CL "place" z H E) ∧
  (∀ s a d i x, y = .str s → lk m s = some (a, d) → z = .int i → lk d i = some x → Q (.int x) H)
def spSpaces (C : Addr) : Sp := fun vs H Q _ => ∃ (p dx hd : Addr) (m : Sp3), vs = [.ref p] ∧ PlA C H p dx hd m ∧ m.length < 64 ∧ ∀ ys q, ys.Perm (m.map (·.1)) → PyProof.Rows.sortedS ys = true → H q = none → Q (.ref q) (upd H q (.lst (ys.map V.str)))
def spPlaces (C CS : Addr) : Sp := fun vs H Q E => ∃ (p dx hd : Addr) (m : Sp3) (y : V), vs = [.ref p, y] ∧ PlA C H p dx hd m ∧ AnyV H y ∧
  ((∀ s, y = .str s → lk m s = none) → attrE CS "name" y H E) ∧ (∀ s a d, y = .str s → lk m s = some (a, d) → d.length < 64 ∧ ∀ (ys : List Int) q, ys.Perm (d.map (·.1)) → ys.Pairwise (· ≤ ·) → H q = none → Q (.ref q) (upd H q (.lst (ys.map V.int))))
def spPEq (C : Addr) : Sp := fun vs H Q _ => ∃ (p dx hd q dy hd' : Addr) (m m' : Sp3), vs = [.ref p, .ref q] ∧ PlA C H p dx hd m ∧ PlA C H q dy hd' m' ∧ pur m = pur m' ∧ Q (.bl true) H
/-- what isinstance asks of the class of an instance -/
structure InT (K : PySem.W.Frag) (C : Addr) : Prop where
  cl : Cls K C
  ha : PySem.W.findIn K (.ref C) "__class__" = some (some (.builtin "object.__class__"))
  hn : PySem.W.specialIn K (.builtin "object.__class__") "__get__" = some (some (.builtin "getset_descriptor.__get__"))
  ht : PySem.W.takesIn K (.builtin "object.__class__") = some true
  hm : PySem.W.mroIn K C (.type "object") = some true
theorem InT.ty {K : PySem.W.Frag} {C : Addr} (T : InT K C) {H : Hp} {a dx : Addr} {fs : List (Str × V)} (e : H a = some (.ins C dx fs)) : TyV K H (.ref a) (.ref C) := .base (.base (.ins e T.cl T.ha T.hn T.ht T.hm))
theorem kit_self {K : PySem.W.Frag} {t : Value} : PySem.W.kitOne K t t = some true := by
  unfold PySem.W.kitOne
  rw [if_pos (by simp)]
theorem eq_held {K : PySem.W.Frag} {C : Addr} {H : Hp} {p dx hd q dy hd' : Addr} {m m' : Sp3} (A : PlA C H p dx hd m) (B : PlA C H q dy hd' m') (e : pur m = pur m') : EqR K H (EqV K H 2) (.ref hd) (.ref hd') := by
  refine .inr ⟨hd, hd', _, _, rfl, rfl, A.held, B.held, ?_, ?_⟩
  · have := congrArg List.length e
    unfold pur at this
    rw [List.length_map, List.length_map] at this
    show (kv _ _ m).length = (kv _ _ m').length
    rw [kv_length, kv_length, this]
  · intro x hx
    obtain ⟨y, hy, rfl⟩ := List.mem_map.mp hx
    have h1 := lk_of_mem A.nodN hy
    have h2 : lk (pur m') y.1 = some y.2.2 := by rw [← e, pur_lk, h1]; rfl
    rw [pur_lk] at h2
    obtain ⟨z, hz, ez⟩ := Option.map_eq_some_iff.mp h2
    have B2 := B.at (show lk m' y.1 = some (z.1, z.2) from hz)
    refine ⟨.ref z.1, by rw [show ((Sum.inr y.1 : Key), V.ref y.2.1).1 = Sum.inr y.1 from rfl, hK_val, hz]; rfl, .inr (.inr (.inr ⟨y.2.1, z.1, _, _, rfl, rfl, A.inner y hy, B2.1, by rw [ez], ?_⟩))⟩
    intro u hu
    obtain ⟨v, hv, rfl⟩ := List.mem_map.mp hu
    rw [ez]
    have := lk_of_mem (A.ok y hy).1 hv
    exact ⟨_, by rw [show ((Sum.inl v.1 : Key), V.int v.2).1 = Sum.inl v.1 from rfl, dI_val, this]; rfl, .inl ⟨rfl, rfl⟩⟩
section
variable {P : Program} {w : World} {K : PySem.W.Frag} {mg : Str → Option Value} {base : Heap}
theorem scNP : FnScope ["self", "space", "place", "inside"] ["self", "space", "place"] (defScope sNP) := ⟨rfl, rfl, rfl, by decide +kernel, rfl, by decide +kernel, by decide +kernel⟩
theorem ok_nplace {f C CS CL : Addr} {fd : FuncData} (F : Fun K "need_place" "Plain.need_place" sNP f fd) (TP : PlT K C) (HI : HasM P w K mg base (L2.CX P w) 3 C "inside" ["self", "space"] (spIn C CS)) (HG : Has P w K mg base CX0 1 "is_integer" ["value"] spIsInt) (SL : SupE P w K mg base "NoPlace" "place" CL) :
    FnOk P w K mg base (L2.CX P w) 4 f fd ["self", "space", "place"] (spNP C CS CL) := by
  obtain ⟨fI, fdI, mmI, GI, bI⟩ := HI
  obtain ⟨fG, fdG, GG, mG, kG, bG⟩ := HG
  obtain ⟨gL, TL, fL, fdL, iL, tL, GL, bL⟩ := SL
  refine F.okX scNP (fun vs H Q E h => ?_) (fun cdv A outer s H vs Q E hr h => ?_)
  · obtain ⟨p, dx, hd, m, y, z, rfl, _⟩ := h
    rfl
  · obtain ⟨p, dx, hd, m, y, z, rfl, hP, hy, hz, k1, k2, k3⟩ := h
    have hu := hu_of hr
    refine ⟨_, (pss_cons (ps_set (i := 3) scNP.nd rfl (Or.inl rfl) (pe_meth (pv 0) TP.cl mmI GI hr bI .nil (passes_call (takes_of rfl rfl rfl rfl) (fun _ _ _ _ h => h)) (pa_cons (pv 1) pa_nil)))
      (pss_cons (ps_if (PW.pt (pw_or (pt_not (pt_val (pe_call GG (hr.mono (by decide)) rfl mG kG bG .nil pass0 (pa_cons (pv 2) pa_nil)))) (pw_or1 (pt_cmp (pc_dnotin hu (pv 2) (pv 3))))))
        (pss_one (ps_raise rfl (takes_of rfl rfl rfl rfl) (pmk_oex TL iL tL GL (hr.mono (by decide)) bL .nil pass0 rfl gL (pa_cons (pv 2) pa_nil))))
        pss_nil)
      (pss_one (ps_ret (pv 3))))), ?_⟩
    refine ⟨_, rfl, p, dx, _, rfl, hP.ins, rfl, _, rfl, p, dx, hd, m, y, rfl, hP, hy, fun s a d e1 e2 => ?_, k1⟩
    have ha := (hP.at e2).1
    refine ⟨_, rfl, z, rfl, hz, _, rfl, ?_⟩
    cases hz with
    | int i =>
      refine iteF ?_
      refine ⟨_, rfl, _, rfl, a, _, rfl, DGet.k (k := Sum.inl i) ha, _, rfl, ?_⟩
      rw [dI_val]
      cases e : lk d i with
      | none => exact iteT ⟨_, rfl, by show 1 ≤ 1000; decide, mk_sup fun d' nd => k2 s a d e1 e2 (fun j ej => by cases ej; exact e) _ d' (Same.refl _) nd⟩
      | some x => exact iteF ⟨_, rfl, k3 s a d i x e1 e2 rfl e⟩
    | _ => exact iteT (iteT ⟨_, rfl, by show 1 ≤ 1000; decide, mk_sup fun d' nd => k2 s a d e1 e2 (fun j ej => by cases ej) _ d' (Same.refl _) nd⟩)
theorem scWrite : FnScope ["self", "space", "place", "value", "inside"] ["self", "space", "place", "value"] (defScope sWrite) := ⟨rfl, rfl, rfl, by decide +kernel, rfl, by decide +kernel, by decide +kernel⟩
theorem ok_write {f C CS CL CV : Addr} {fd : FuncData} (F : Fun K "write" "Plain.write" sWrite f fd) (TP : PlT K C) (HN : HasM P w K mg base (L2.CX P w) 4 C "need_place" ["self", "space", "place"] (spNP C CS CL)) (HC : Has P w K mg base (L2.CX P w) 3 "need_contents" ["value"] (spNCont CV)) :
    FnOk P w K mg base (L2.CX P w) 5 f fd ["self", "space", "place", "value"] (spWrite C CS CL CV) := by
  obtain ⟨fN, fdN, mmN, GN, bN⟩ := HN
  obtain ⟨fC, fdC, GC, mC, kC, bC⟩ := HC
  refine F.okX scWrite (fun vs H Q E h => ?_) (fun cdv A outer s H vs Q E hr h => ?_)
  · obtain ⟨p, dx, hd, m, y, z, v, rfl, _⟩ := h
    rfl
  · obtain ⟨p, dx, hd, m, y, z, v, rfl, hP, hy, hz, hv, k1, k2, k3, k4⟩ := h
    have hu := hu_of hr
    refine ⟨_, (pss_cons (ps_set (i := 4) scWrite.nd rfl (Or.inl rfl) (pe_meth (pv 0) TP.cl mmN GN hr bN .nil (passes_call (takes_of rfl rfl rfl rfl) (fun _ _ _ _ h => h)) (pa_cons (pv 1) (pa_cons (pv 2) pa_nil))))
      (pss_cons (ps_expr (pe_call GC (hr.mono (by decide)) rfl mC kC bC .nil (passes_call (takes_of rfl rfl rfl rfl) (fun _ _ _ _ h => h)) (pa_cons (pv 3) pa_nil)))
      (pss_one (ps_dput hu (pv 4) (pv 2) (pv 3) rfl)))), ?_⟩
    refine ⟨_, rfl, p, dx, _, rfl, hP.ins, rfl, _, rfl, _, rfl, p, dx, hd, m, y, z, rfl, hP, hy, hz, k1, k2, fun s a d i x e1 e2 e3 e4 => ?_⟩
    refine ⟨_, rfl, v, rfl, hv, fun hc => ?_, fun hc => k3 s a d i x e1 e2 e3 e4 hc⟩
    obtain ⟨j, rfl⟩ : ∃ j, v = .int j := by cases v <;> simp [isC] at hc <;> exact ⟨_, rfl⟩
    subst e3
    have ha := hP.at e2
    have hi := ha.2.2 i (by
      have : ¬ lk d i = none := by rw [e4]; simp
      rw [lk_none] at this
      exact Decidable.byContradiction this)
    refine ⟨_, rfl, _, rfl, _, rfl, a, _, rfl, DPut.k (k := Sum.inl i) ha.1 (by have := ha.2.few; rw [dI_length, sizeLine_eq]; omega), ?_⟩
    exact k4 s a d i x j e1 e2 rfl e4 rfl hc _ .one (hP.put e2 .one (by rw [upd_same, dI_put]) (ha.2.pt hi.1 hi.2))
theorem scRead : FnScope ["self", "space", "place"] ["self", "space", "place"] (defScope sRead) := ⟨rfl, rfl, rfl, by decide +kernel, rfl, by decide +kernel, by decide +kernel⟩
theorem ok_read {f C CS CL : Addr} {fd : FuncData} (F : Fun K "read" "Plain.read" sRead f fd) (TP : PlT K C) (HN : HasM P w K mg base (L2.CX P w) 4 C "need_place" ["self", "space", "place"] (spNP C CS CL)) :
    FnOk P w K mg base (L2.CX P w) 5 f fd ["self", "space", "place"] (spRead C CS CL) := by
  obtain ⟨fN, fdN, mmN, GN, bN⟩ := HN
  refine F.okX scRead (fun vs H Q E h => ?_) (fun cdv A outer s H vs Q E hr h => ?_)
  · obtain ⟨p, dx, hd, m, y, z, rfl, _⟩ := h
    rfl
  · obtain ⟨p, dx, hd, m, y, z, rfl, hP, hy, hz, k1, k2, k3⟩ := h
    have hu := hu_of hr
    refine ⟨_, (pss_one (ps_ret (pe_dget hu (pe_meth (pv 0) TP.cl mmN GN hr bN .nil (passes_call (takes_of rfl rfl rfl rfl) (fun _ _ _ _ h => h)) (pa_cons (pv 1) (pa_cons (pv 2) pa_nil))) (pv 2) (fun _ _ => rfl)))), ?_⟩
    refine ⟨_, rfl, p, dx, _, rfl, hP.ins, rfl, _, rfl, _, rfl, p, dx, hd, m, y, z, rfl, hP, hy, hz, k1, k2, fun s a d i x e1 e2 e3 e4 => ?_⟩
    have ha := hP.at e2
    refine ⟨_, rfl, a, .int x, rfl, ?_, k3 s a d i x e1 e2 e3 e4⟩
    have := DGet.k (k := Sum.inl i) ha.1
    rw [dI_val, e4] at this
    exact e3 ▸ this
theorem scSpaces : FnScope ["self"] ["self"] (defScope sSpaces) := ⟨rfl, rfl, rfl, by decide +kernel, rfl, by decide +kernel, by decide +kernel⟩
theorem ok_spaces {f C : Addr} {fd : FuncData} (F : Fun K "spaces" "Plain.spaces" sSpaces f fd) (TP : PlT K C) (sorted_ : mg "sorted" = none) : FnOk P w K mg base CX0 1 f fd ["self"] (spSpaces C) := by
  refine F.ok scSpaces (fun vs H Q E h => ?_) (fun cdv A outer s H vs Q E hr h => ?_)
  · obtain ⟨p, dx, hd, m, rfl, _⟩ := h
    rfl
  · obtain ⟨p, dx, hd, m, rfl, hP, hl, k⟩ := h
    refine ⟨_, (pss_one (ps_ret (pe_callB (call_sortedD rfl) (by rfl) sorted_ (by decide +kernel) (pa_cons (pe_fld (pv 0) rfl) pa_nil)))), ?_⟩
    refine ⟨_, rfl, p, C, dx, _, _, rfl, hP.ins, TP.cl, TP.nH, rfl, hd, _, m.map (·.1), rfl, .inl hP.held, ?_, by rw [List.length_map]; exact hl, fun ys q h1 h2 h3 => k ys q h1 h2 h3⟩
    unfold hK kv
    rw [List.map_map, List.map_map]
    rfl
theorem scPlaces : FnScope ["self", "space"] ["self", "space"] (defScope sPlaces) := ⟨rfl, rfl, rfl, by decide +kernel, rfl, by decide +kernel, by decide +kernel⟩
theorem ok_places {f C CS : Addr} {fd : FuncData} (F : Fun K "places" "Plain.places" sPlaces f fd) (TP : PlT K C) (sorted_ : mg "sorted" = none) (HI : HasM P w K mg base (L2.CX P w) 3 C "inside" ["self", "space"] (spIn C CS)) : FnOk P w K mg base (L2.CX P w) 4 f fd ["self", "space"] (spPlaces C CS) := by
  obtain ⟨fI, fdI, mmI, GI, bI⟩ := HI
  refine F.okX scPlaces (fun vs H Q E h => ?_) (fun cdv A outer s H vs Q E hr h => ?_)
  · obtain ⟨p, dx, hd, m, y, rfl, _⟩ := h
    rfl
  · obtain ⟨p, dx, hd, m, y, rfl, hP, hy, k1, k2⟩ := h
    refine ⟨_, (pss_one (ps_ret (pe_callB (call_sortedDI rfl) (by rfl) sorted_ (by decide +kernel) (pa_cons (pe_meth (pv 0) TP.cl mmI GI hr bI .nil (passes_call (takes_of rfl rfl rfl rfl) (fun _ _ _ _ h => h)) (pa_cons (pv 1) pa_nil)) pa_nil)))), ?_⟩
    refine ⟨_, rfl, p, dx, _, rfl, hP.ins, rfl, _, rfl, p, dx, hd, m, y, rfl, hP, hy, fun s a d e1 e2 => ?_, k1⟩
    obtain ⟨hl, k⟩ := k2 s a d e1 e2
    refine ⟨a, _, d.map (·.1), rfl, .inl (hP.at e2).1, ?_, by rw [List.length_map]; exact hl, fun ys q h1 h2 h3 => k ys q h1 h2 h3⟩
    unfold dI kv
    rw [List.map_map, List.map_map]
    rfl
theorem scPEq : FnScope ["self", "other"] ["self", "other"] (defScope sPEq) := ⟨rfl, rfl, rfl, by decide +kernel, rfl, by decide +kernel, by decide +kernel⟩
theorem ok_peq {f C : Addr} {fd : FuncData} (F : Fun K "__eq__" "Plain.__eq__" sPEq f fd) (TP : PlT K C) (TI : InT K C) (isinstance_ : mg "isinstance" = none) (mC : mg "Plain" = some (.ref C)) : FnOk P w K mg base CX0 1 f fd ["self", "other"] (spPEq C) := by
  refine F.ok scPEq (fun vs H Q E h => ?_) (fun cdv A outer s H vs Q E hr h => ?_)
  · obtain ⟨p, dx, hd, q, dy, hd', m, m', rfl, _⟩ := h
    rfl
  · obtain ⟨p, dx, hd, q, dy, hd', m, m', rfl, A1, A2, e, k⟩ := h
    refine ⟨_, (pss_one (ps_ret (pe_and (pe_callB call_isV (by rfl) isinstance_ PyProof.Rows.boot_isinstance (pa_cons (pv 1) (pa_cons (pe_glob (v := .ref C) rfl mC rfl) pa_nil))) (pe_one (pe_cmpR (op_eqV hr.units) (pe_fld (pv 0) rfl) (pe_fld (pv 1) rfl) (nomark _)))))), ?_⟩
    refine ⟨_, rfl, _, _, _, _, _, rfl, .own C, TI.ty A2.ins, kit_self, _, rfl, iteT ?_⟩
    refine ⟨_, rfl, p, C, dx, _, _, rfl, A1.ins, TP.cl, TP.nH, rfl, _, rfl, q, C, dy, _, _, rfl, A2.ins, TP.cl, TP.nH, rfl, 2, by decide, eq_held A1 A2 e, k⟩
end
end Bm
set_option maxRecDepth 100000
set_option maxHeartbeats 4000000
/-! two memories side by side; a call that is refused -/
namespace Bm
open PySem L2 L3 LamX Pm
theorem Dr.keeps {d st : Addr} {S : List Addr} {H H' : Hp} (D : Dr d st H) (k : Keeps S H H') (hS : ∀ a ∈ S, ∃ kvs, H a = some (.dK kvs)) : Dr d st H' := by
  obtain ⟨ms, sp, mx, hd, hs, h⟩ := D
  refine ⟨ms, sp, mx, k _ _ hd fun z => ?_, k _ _ hs fun z => ?_, h⟩
  · obtain ⟨kvs, e⟩ := hS _ z
    rw [hd] at e; cases e
  · obtain ⟨kvs, e⟩ := hS _ z
    rw [hs] at e; cases e
theorem Dr.same {d st : Addr} {H H' : Hp} (D : Dr d st H) (s : Same H H') : Dr d st H' := by
  obtain ⟨ms, sp, mx, hd, hs, h⟩ := D
  exact ⟨ms, sp, mx, s _ _ hd, s _ _ hs, h⟩
theorem Dr.extN {d st : Addr} {H H' : Hp} (D : Dr d st H) (e : ExtN H H') : Dr d st H' := by
  obtain ⟨ms, sp, mx, hd, hs, h⟩ := D
  exact ⟨ms, sp, mx, e _ _ hd (fun ps z => by cases z), e _ _ hs (fun ps z => by cases z), h⟩
theorem codeO_ndK {c : Addr} {q : Str} (xs : List (Key × V)) : CodeO c q ≠ .dK xs := fun z => by
  unfold CodeO at z
  cases z
theorem codeO_nl {c : Addr} {q : Str} (xs : List V) : CodeO c q ≠ .lst xs := fun z => by
  unfold CodeO at z
  cases z
theorem tabs_by {T : List (Addr × Str)} {H H' : Hp} (t : Tabs T H) (e : ∀ b o, H b = some o → (∀ xs, o ≠ .lst xs) → (∀ xs, o ≠ .dK xs) → H' b = some o) : Tabs T H' := fun p hp => by
  obtain ⟨ps, h1, h2, h3⟩ := t p hp
  refine ⟨ps, e _ _ h1 (fun xs z => by cases z) (fun xs z => by cases z), h2, fun pos cv hc => ?_⟩
  obtain ⟨c, e1, e2⟩ := h3 pos cv hc
  exact ⟨c, e1, e _ _ e2 codeO_nl codeO_ndK⟩
theorem tabs_keeps {T : List (Addr × Str)} {S : List Addr} {H H' : Hp} (t : Tabs T H) (k : Keeps S H H') (hS : ∀ a ∈ S, ∃ kvs, H a = some (.dK kvs)) : Tabs T H' := tabs_by t fun b o e _ n => k b o e fun z => by
  obtain ⟨kvs, q⟩ := hS _ z
  rw [e] at q
  exact n _ (Option.some.inj q)
theorem tabs_kp {T : List (Addr × Str)} {d st : Addr} {H H' : Hp} (t : Tabs T H) (D : Dr d st H) (k : Kp d st H H') : Tabs T H' := by
  obtain ⟨ms, sp, mx, hd, hs, _⟩ := D
  refine tabs_by t fun b o e n _ => k b o e (fun z => ?_) (fun z => ?_)
  · rw [z, hd] at e
    exact n _ (Option.some.inj e).symm
  · rw [z, hs] at e
    exact n _ (Option.some.inj e).symm
section
variable {C p dx hd q dy hd' : Addr} {H H' : Hp} {m m' m1 : Sp3}
theorem fpt_dK (A : PlA C H p dx hd m) : ∀ a ∈ fpt hd m, ∃ kvs, H a = some (.dK kvs) := fun a h => by
  rcases List.mem_cons.mp h with e | e
  · exact ⟨_, e ▸ A.held⟩
  · obtain ⟨x, hx, e⟩ := List.mem_map.mp e
    exact ⟨_, e ▸ A.inner x hx⟩
/-- two memories, the draws, the tables -/
def Two (T : List (Addr × Str)) (C d st : Addr) (H : Hp) (p q : Addr) (M N : List (Str × Pl)) : Prop := ∃ dx hd m dy hd' m', PlA C H p dx hd m ∧ PlA C H q dy hd' m' ∧ pur m = M ∧ pur m' = N ∧ (∀ a ∈ fpt hd m, a ∉ fpt hd' m') ∧ Dr d st H ∧ Tabs T H
variable {T : List (Addr × Str)} {d st : Addr} {M N : List (Str × Pl)}
theorem Two.symm (W : Two T C d st H p q M N) : Two T C d st H q p N M := by
  obtain ⟨dx, hd, m, dy, hd', m', A, B, e1, e2, dj, D, Tb⟩ := W
  exact ⟨dy, hd', m', dx, hd, m, B, A, e2, e1, fun a h1 h2 => dj a h2 h1, D, Tb⟩
theorem Two.ins1 (W : Two T C d st H p q M N) : ∃ dx hd, H p = some (.ins C dx [("held", .ref hd)]) := by
  obtain ⟨dx, hd, m, dy, hd', m', A, _⟩ := W
  exact ⟨dx, hd, A.ins⟩
theorem Two.same (W : Two T C d st H p q M N) (s : Same H H') : Two T C d st H' p q M N := by
  obtain ⟨dx, hd, m, dy, hd', m', A, B, e1, e2, dj, D, Tb⟩ := W
  exact ⟨dx, hd, m, dy, hd', m', A.same s, B.same s, e1, e2, dj, D.keeps (S := []) (.same s) (fun _ z => by cases z), Tb.ext s⟩
theorem Two.go (W : Two T C d st H p q M N) (e : ExtN H H') (t : Tabs T H') : Two T C d st H' p q M N := by
  obtain ⟨dx, hd, m, dy, hd', m', A, B, e1, e2, dj, D, Tb⟩ := W
  have pl : ∀ {p dx hd m}, PlA C H p dx hd m → PlA C H' p dx hd m := fun A => ⟨e _ _ A.ins (fun ps z => by cases z), e _ _ A.held (fun ps z => by cases z), fun x hx => e _ _ (A.inner x hx) (fun ps z => by cases z), A.nodN, A.nodA, A.ok⟩
  exact ⟨dx, hd, m, dy, hd', m', pl A, pl B, e1, e2, dj, D.extN e, t⟩
theorem Two.kp (W : Two T C d st H p q M N) (D' : Dr d st H') (k : Kp d st H H') : Two T C d st H' p q M N := by
  obtain ⟨dx, hd, m, dy, hd', m', A, B, e1, e2, dj, D, Tb⟩ := W
  have off : ∀ {a : Addr} {o : HO}, H a = some o → (∀ xs, o ≠ .lst xs) → H' a = some o := fun {a o} e n => by
    obtain ⟨ms, sp, mx, hd, hs, _⟩ := id D
    refine k a o e (fun z => ?_) (fun z => ?_)
    · rw [z, hd] at e
      exact n _ (Option.some.inj e).symm
    · rw [z, hs] at e
      exact n _ (Option.some.inj e).symm
  have pl : ∀ {p dx hd m}, PlA C H p dx hd m → PlA C H' p dx hd m := fun A => ⟨off A.ins (fun ps z => by cases z), off A.held (fun ps z => by cases z), fun x hx => off (A.inner x hx) (fun ps z => by cases z), A.nodN, A.nodA, A.ok⟩
  exact ⟨dx, hd, m, dy, hd', m', pl A, pl B, e1, e2, dj, D', tabs_kp Tb D k⟩
theorem Two.step (A : PlA C H p dx hd m) (B : PlA C H q dy hd' m') (dj : ∀ a ∈ fpt hd m, a ∉ fpt hd' m') (D : Dr d st H) (Tb : Tabs T H) {S : List Addr} (k : Keeps S H H') (hS : ∀ a ∈ S, a ∈ fpt hd m) (A' : PlA C H' p dx hd m1) (hf : ∀ a ∈ fpt hd m1, a ∈ fpt hd m ∨ H a = none) :
    Two T C d st H' p q (pur m1) (pur m') := by
  have sk : ∀ a ∈ S, ∃ kvs, H a = some (.dK kvs) := fun a h => fpt_dK A a (hS a h)
  refine ⟨dx, hd, m1, dy, hd', m', A', B.keep k (fun z => ?_) (fun a h z => dj a (hS a z) h), rfl, rfl, fun a h1 h2 => ?_, D.keeps k sk, tabs_keeps Tb k sk⟩
  · obtain ⟨kvs, e⟩ := sk _ z
    rw [B.ins] at e; cases e
  · rcases hf a h1 with e | e
    · exact dj a e h2
    · obtain ⟨kvs, z⟩ := fpt_dK B a h2
      rw [e] at z; cases z
theorem short_name {s : Str} (h : nameS s = true) : Short (.str s) := fun x e => by
  cases e
  unfold nameS at h
  simp only [Bool.and_eq_true, decide_eq_true_eq] at h
  omega
variable {R : VK} {E : XK} {s c : Str} {CS CBN CT CB CU CL CV : Addr} {dd : Pl} {i j k : Int}
theorem lk_of_pur (h : pur m = M) {x : Pl} (e : lk M s = some x) : ∃ a, lk m s = some (a, x) := by
  rw [← h, pur_lk] at e
  obtain ⟨y, h1, h2⟩ := Option.map_eq_some_iff.mp e
  exact ⟨y.1, by rw [h1, ← h2]⟩
theorem lk_of_pur0 (h : pur m = M) (e : lk M s = none) : lk m s = none := by
  rw [← h, pur_lk] at e
  simpa using e
theorem add1 (W : Two T C d st H p q M N) (hs : nameS s = true) (h0 : lk M s = none) (hl : M.length < 100000) (K : ∀ H', Two T C d st H' p q (M ++ [(s, [])]) N → R .non H') : spAdd C CBN CT [.ref p, .str s] H R E := by
  obtain ⟨dx, hd, m, dy, hd', m', A, B, e1, e2, dj, D, Tb⟩ := W
  have z := lk_of_pur0 e1 h0
  refine ⟨p, dx, hd, m, _, rfl, A, .str s, short_name hs, ?_, fun e => ?_, fun s' e _ e3 => ?_, fun s' e _ e3 a H' na kp P' => ?_⟩
  · rw [← e1] at hl; unfold pur at hl; rwa [List.length_map] at hl
  · exact absurd (show nameS s = false from e) (by rw [hs]; simp)
  · cases e; rw [z] at e3; cases e3
  · cases e
    have := Two.step A B dj D Tb kp (fun b hb => by rw [List.mem_singleton] at hb; exact hb ▸ List.mem_cons_self) P' (fun b hb => (fpt_add b hb).imp id fun e => by rw [e]; exact na)
    refine K H' ?_
    rw [← e1, ← e2]
    unfold pur at this ⊢
    rwa [List.map_append] at this
theorem fork1 (W : Two T C d st H p q M N) (h1 : lk M s = some dd) (hs : nameS c = true) (h0 : lk M c = none) (hl : M.length < 100000) (K : ∀ H', Two T C d st H' p q (M ++ [(c, dd)]) N → R .non H') : spFork C CS CBN CT [.ref p, .str s, .str c] H R E := by
  obtain ⟨dx, hd, m, dy, hd', m', A, B, e1, e2, dj, D, Tb⟩ := W
  have z := lk_of_pur0 e1 h0
  obtain ⟨b0, y⟩ := lk_of_pur e1 h1
  refine ⟨p, dx, hd, m, _, _, rfl, A, .str s, .str c, short_name hs, ?_, fun e => ?_, fun s' e e3 e4 => ?_, fun s' c' e e3 e4 e5 e6 => ?_, fun s' c' b d' e e3 e4 e5 e6 a H' na kp P' => ?_⟩
  · rw [← e1] at hl; unfold pur at hl; rwa [List.length_map] at hl
  · have := e s rfl; rw [y] at this; cases this
  · exact absurd (show nameS c = false from e4) (by rw [hs]; simp)
  · cases e4; rw [z] at e6; cases e6
  · cases e; cases e4
    rw [y] at e3
    cases e3
    have := Two.step A B dj D Tb kp (fun b hb => by rw [List.mem_singleton] at hb; exact hb ▸ List.mem_cons_self) P' (fun b hb => (fpt_add b hb).imp id fun e => by rw [e]; exact na)
    refine K H' ?_
    rw [← e1, ← e2]
    unfold pur at this ⊢
    rwa [List.map_append] at this
theorem drop1 (W : Two T C d st H p q M N) (h1 : (lk M s).isSome = true) (K : ∀ H', Two T C d st H' p q (dr M s) N → R .non H') : spDrop C CS [.ref p, .str s] H R E := by
  obtain ⟨dx, hd, m, dy, hd', m', A, B, e1, e2, dj, D, Tb⟩ := W
  obtain ⟨x, hx⟩ := Option.isSome_iff_exists.mp h1
  obtain ⟨b0, y⟩ := lk_of_pur e1 hx
  refine ⟨p, dx, hd, m, _, rfl, A, .str s, fun e => ?_, fun s' e _ H' kp P' => ?_⟩
  · have := e s rfl; rw [y] at this; cases this
  · cases e
    have := Two.step A B dj D Tb kp (fun b hb => by rw [List.mem_singleton] at hb; exact hb ▸ List.mem_cons_self) P' (fun b hb => .inl (fpt_drop b hb))
    refine K H' ?_
    rw [← e1, ← e2, ← pur_dr]
    exact this
/-- the places of a space are others -/
theorem Two.put (A : PlA C H p dx hd m) (B : PlA C H q dy hd' m') (e1 : pur m = M) (e2 : pur m' = N) (dj : ∀ a ∈ fpt hd m, a ∉ fpt hd' m') (D : Dr d st H) (Tb : Tabs T H) {a : Addr} {d' : Pl} (y : lk m s = some (a, dd)) (kp : Keeps [a] H H') (P' : PlA C H' p dx hd (pt m s (a, d'))) : Two T C d st H' p q (pt M s d') N := by
  have := Two.step A B dj D Tb kp (fun b hb => by rw [List.mem_singleton] at hb; exact hb ▸ fpt_mem y) P' (fun b hb => .inl (by rwa [fpt_pt A y] at hb))
  rw [← e1, ← e2, ← pur_pt m s a d']
  exact this
theorem map1 (W : Two T C d st H p q M N) (h1 : lk M s = some dd) (hS : isS (.int i) (.int j) = true) (h0 : used dd i j.toNat = none) (K : ∀ H', Two T C d st H' p q (pt M s (mapP dd i j.toNat)) N → R .non H') : spMap C CS CB CU [.ref p, .str s, .int i, .int j] H R E := by
  obtain ⟨dx, hd, m, dy, hd', m', A, B, e1, e2, dj, D, Tb⟩ := W
  obtain ⟨b0, y⟩ := lk_of_pur e1 h1
  refine ⟨p, dx, hd, m, _, _, _, rfl, A, .str s, .int i, .int j, fun e => ?_, fun s' e e3 e4 => ?_, fun s' a d' i' j' x e e3 e4 e5 _ e6 => ?_, fun s' a d' i' j' e e3 e4 e5 _ e6 H' kp P' => ?_⟩
  · have := e s rfl; rw [y] at this; cases this
  · rw [hS] at e4; cases e4
  · cases e; cases e4; cases e5; rw [y] at e3; cases e3; rw [h0] at e6; cases e6
  · cases e; cases e4; cases e5; rw [y] at e3; cases e3
    exact K H' (Two.put A B e1 e2 dj D Tb y kp P')
theorem unmap1 (W : Two T C d st H p q M N) (h1 : lk M s = some dd) (hS : isS (.int i) (.int j) = true) (K : ∀ H', Two T C d st H' p q (pt M s (unmapP dd i j.toNat)) N → R .non H') : spUnmap C CS CB [.ref p, .str s, .int i, .int j] H R E := by
  obtain ⟨dx, hd, m, dy, hd', m', A, B, e1, e2, dj, D, Tb⟩ := W
  obtain ⟨b0, y⟩ := lk_of_pur e1 h1
  refine ⟨p, dx, hd, m, _, _, _, rfl, A, .str s, .int i, .int j, fun e => ?_, fun s' e e3 e4 => ?_, fun s' a d' i' j' e e3 e4 e5 _ H' kp P' => ?_⟩
  · have := e s rfl; rw [y] at this; cases this
  · rw [hS] at e4; cases e4
  · cases e; cases e4; cases e5; rw [y] at e3; cases e3
    exact K H' (Two.put A B e1 e2 dj D Tb y kp P')
theorem move1 (W : Two T C d st H p q M N) (h1 : lk M s = some dd) (hS : isS (.int i) (.int j) = true) (hS2 : isS (.int k) (.int j) = true) (h2 : lacks dd i j.toNat = none) (h0 : used dd k j.toNat = none) (K : ∀ H', Two T C d st H' p q (pt M s (moveP dd i k j.toNat)) N → R .non H') : spMove C CS CB CL CU [.ref p, .str s, .int i, .int j, .int k] H R E := by
  obtain ⟨dx, hd, m, dy, hd', m', A, B, e1, e2, dj, D, Tb⟩ := W
  obtain ⟨b0, y⟩ := lk_of_pur e1 h1
  refine ⟨p, dx, hd, m, _, _, _, _, rfl, A, .str s, .int i, .int j, .int k, fun e => ?_, fun s' e e3 e4 => ?_, fun s' a d' i' j' x e e3 e4 e5 _ _ e6 => ?_, fun s' a d' i' j' k' x e e3 e4 e5 e5' _ _ _ e6 => ?_, fun s' a d' i' j' k' e e3 e4 e5 e5' _ _ _ _ H' kp P' => ?_⟩
  · have := e s rfl; rw [y] at this; cases this
  · rw [hS, hS2] at e4; rcases e4 with z | z <;> cases z
  · cases e; cases e4; cases e5; rw [y] at e3; cases e3; rw [h2] at e6; cases e6
  · cases e; cases e4; cases e5; cases e5'; rw [y] at e3; cases e3; rw [h0] at e6; cases e6
  · cases e; cases e4; cases e5; cases e5'; rw [y] at e3; cases e3
    exact K H' (Two.put A B e1 e2 dj D Tb y kp P')
theorem write1 (W : Two T C d st H p q M N) {x : Int} (h1 : lk M s = some dd) (h2 : lk dd i = some x) (hc : isC (.int j) = true) (K : ∀ H', Two T C d st H' p q (pt M s (pt dd i j)) N → R .non H') : spWrite C CS CL CV [.ref p, .str s, .int i, .int j] H R E := by
  obtain ⟨dx, hd, m, dy, hd', m', A, B, e1, e2, dj, D, Tb⟩ := W
  obtain ⟨b0, y⟩ := lk_of_pur e1 h1
  refine ⟨p, dx, hd, m, _, _, _, rfl, A, .str s, .int i, .int j, fun e => ?_, fun s' a d' e e3 e4 => ?_, fun s' a d' i' x e e3 e4 e5 e6 => ?_, fun s' a d' i' x j' e e3 e4 e5 e6 _ H' kp P' => ?_⟩
  · have := e s rfl; rw [y] at this; cases this
  · cases e; rw [y] at e3; cases e3; have := e4 i rfl; rw [h2] at this; cases this
  · rw [hc] at e6; cases e6
  · cases e; cases e4; cases e6; rw [y] at e3; cases e3
    exact K H' (Two.put A B e1 e2 dj D Tb y kp P')
theorem read1 (W : Two T C d st H p q M N) {x : Int} (h1 : lk M s = some dd) (h2 : lk dd i = some x) (K : R (.int x) H) : spRead C CS CL [.ref p, .str s, .int i] H R E := by
  obtain ⟨dx, hd, m, dy, hd', m', A, B, e1, e2, dj, D, Tb⟩ := W
  obtain ⟨b0, y⟩ := lk_of_pur e1 h1
  refine ⟨p, dx, hd, m, _, _, rfl, A, .str s, .int i, fun e => ?_, fun s' a d' e e3 e4 => ?_, fun s' a d' i' x e e3 e4 e5 => ?_⟩
  · have := e s rfl; rw [y] at this; cases this
  · cases e; rw [y] at e3; cases e3; have := e4 i rfl; rw [h2] at this; cases this
  · cases e; cases e4; rw [y] at e3; cases e3; rw [h2] at e5; cases e5; exact K
theorem readX (W : Two T C d st H p q M N) (h1 : lk M s = some dd) (h2 : lk dd i = none) (K : attrE CL "place" (.int i) H E) : spRead C CS CL [.ref p, .str s, .int i] H R E := by
  obtain ⟨dx, hd, m, dy, hd', m', A, B, e1, e2, dj, D, Tb⟩ := W
  obtain ⟨b0, y⟩ := lk_of_pur e1 h1
  refine ⟨p, dx, hd, m, _, _, rfl, A, .str s, .int i, fun e => ?_, fun s' a d' e e3 e4 => K, fun s' a d' i' x e e3 e4 e5 => ?_⟩
  · have := e s rfl; rw [y] at this; cases this
  · cases e; cases e4; rw [y] at e3; cases e3; rw [h2] at e5; cases e5
theorem spaces1 (W : Two T C d st H p q M N) (hl : M.length < 64) (K : ∀ ys l, ys.Perm (M.map (·.1)) → PyProof.Rows.sortedS ys = true → H l = none → R (.ref l) (upd H l (.lst (ys.map V.str)))) : spSpaces C [.ref p] H R E := by
  obtain ⟨dx, hd, m, dy, hd', m', A, B, e1, e2, dj, D, Tb⟩ := W
  refine ⟨p, dx, hd, m, rfl, A, ?_, fun ys l h1 h2 h3 => K ys l ?_ h2 h3⟩
  · rw [← e1] at hl; unfold pur at hl; rwa [List.length_map] at hl
  · rw [← e1]; unfold pur; rw [List.map_map]; exact h1
theorem places1 (W : Two T C d st H p q M N) (h1 : lk M s = some dd) (hl : dd.length < 64) (K : ∀ (ys : List Int) l, ys.Perm (dd.map (·.1)) → ys.Pairwise (· ≤ ·) → H l = none → R (.ref l) (upd H l (.lst (ys.map V.int)))) : spPlaces C CS [.ref p, .str s] H R E := by
  obtain ⟨dx, hd, m, dy, hd', m', A, B, e1, e2, dj, D, Tb⟩ := W
  obtain ⟨b0, y⟩ := lk_of_pur e1 h1
  refine ⟨p, dx, hd, m, _, rfl, A, .str s, fun e => ?_, fun s' a d' e e3 => ?_⟩
  · have := e s rfl; rw [y] at this; cases this
  · cases e; rw [y] at e3; cases e3; exact ⟨hl, K⟩
theorem eq1 (W : Two T C d st H p q M M) (K : R (.bl true) H) : spPEq C [.ref p, .ref q] H R E := by
  obtain ⟨dx, hd, m, dy, hd', m', A, B, e1, e2, dj, D, Tb⟩ := W
  exact ⟨p, dx, hd, q, dy, hd', m, m', rfl, A, B, e1.trans e2.symm, K⟩
theorem mk_plain {x : Addr} (nx : H x = none) (ndx : H dx = none) (ne : dx ≠ x) (K : ∀ hd H', Same H H' → H hd = none → PlA C H' x dx hd [] → R .non H') : spPI C [.ref x] (upd (upd H dx (.own x)) x (.ins C dx [])) R E := by
  refine ⟨x, dx, rfl, upd_same, fun hd H' nh kp P' => K hd H' (fun b o e => ?_) ?_ P'⟩
  · have h1 := ne_of_none e nx
    refine kp b o ?_ fun z => h1 (List.mem_singleton.mp z)
    rw [upd_ne h1, upd_ne (ne_of_none e ndx)]
    exact e
  · have h1 : hd ≠ x := fun z => by rw [z, upd_same] at nh; cases nh
    rw [upd_ne h1] at nh
    have h2 : hd ≠ dx := fun z => by rw [z, upd_same] at nh; cases nh
    rwa [upd_ne h2] at nh
end
/-! ### _law_refused -/
abbrev sRef : Stmt := top 30
abbrev NR : List Str := ["_law_work", "_law_caught", "error"]
theorem scRef : FnScope NR ["_law_work"] (defScope sRef) := ⟨rfl, rfl, rfl, by decide +kernel, rfl, by decide +kernel, by decide +kernel⟩
/-- the error's class as it is asked -/
structure ErP (K : PySem.W.Frag) (mg : Str → Option Value) (CL CM : Addr) : Prop where
  gL : mg "NoPlace" = some (.ref CL)
  gM : mg "MapError" = some (.ref CM)
  eL : L2.ExcC K CL
  mL : PySem.W.exmOne K (.ref CL) (.ref CM) = some true
  xf : XfC K CL
  no : PySem.W.findIn K (.ref CL) "place" = some none
def XRef (CL : Addr) (Q : VK) : XK := fun cls d H => cls = .ref CL ∧ ∃ dd v, d = some dd ∧ H dd = some (.xd [("place", v)]) ∧ ∀ H' q, Same H H' → H' q = some (.lst [v]) → Q (.ref q) H'
/-- the lambda is refused with NoPlace -/
def TTRef (CL : Addr) : (XK → Hp → VK → Prop) → Hp → VK → Prop := fun tl H Q => ∀ (E' : XK) (Q' : VK), (∀ cls d H', XRef CL Q cls d H' → E' cls d H') → tl E' H Q'
theorem ref_gives {X : Cx} {g CL CM : Addr} {cdg : Value} {q : Str} (isinstance_ : X.mg "isinstance" = none) (Er : ErP X.K X.mg CL CM) : GivesTo X NR "_law_refused" (defScope sRef) g cdg (defBody sRef) "_law_work" q (TTRef CL) := by
  intro f c' s H Q tl act hc h
  refine ⟨_, pss_cons (ps_set (i := 1) scRef.nd rfl (Or.inl rfl) pe_non)
    (pss_cons (ps_try_trk (c := .ref CM) (i := 2) (ts := fun _ => tAsg (tVar 2) (gName 1))
        (tb := fun W => tDrop (fun σZ HZ Q => σZ[0]? = some (some (.ref f)) ∧ HZ c' = some (CodeO c' q) ∧ ∃ E : XK, (∀ cls d σ' H', E cls d H' → W cls d σ' H') ∧ tl E HZ Q))
        rfl rfl scRef.nd rfl rfl ⟨rfl, by decide, Or.inl Er.gM⟩
        (fun W pn xe tk _ => pss_one (ps_expr ⟨fun pins s1 τ G R I hx => (act W pn xe hx.2.2.choose _ _ tk hx.2.2.choose_spec.1).run pins s1 τ G R I ⟨hx.1, hx.2.1, hx.2.2.choose_spec.2⟩⟩))
        (fun a pn => pss_one (ps_set (i := 1) scRef.nd rfl (Or.inl rfl) (pv 2))))
    (pss_one (ps_ret (pe_ifExp (pt_val (pe_callB (r := rIsV X.K) call_isV (by rfl) isinstance_ PyProof.Rows.boot_isinstance (pa_cons (pv 1) (pa_cons (pe_glob (v := .ref CL) rfl Er.gL rfl) pa_nil))))
      (pe_lst (pa_cons (pe_exf Er.xf Er.no (pv 1)) pa_nil)) (pe_lst pa_nil))))), ?_⟩
  refine ⟨rfl, hc, XRef CL Q, fun cls d σ' H' hE hl => ⟨?_, fun a na => ?_⟩, ?_⟩
  · obtain ⟨rfl, _⟩ := hE
    exact Er.mL
  · obtain ⟨rfl, dd, v, rfl, hd, k⟩ := hE
    match σ', hl with
    | [v0, v1, v2], _ =>
      have sa := sameNew (o := ExV (.ref CL) (some dd) a) na
      have ea : upd H' a (ExV (.ref CL) (some dd) a) a = some (ExV (.ref CL) (some dd) a) := upd_same
      generalize upd H' a (ExV (.ref CL) (some dd) a) = H2 at sa ea ⊢
      refine ⟨_, rfl, _, rfl, _, _, _, _, _, rfl, .own CL, .excd (fs := [("place", v)]) ea (sa _ _ hd) Er.eL (by show ¬ ("__class__" : Str) ∈ [("place" : Str)]; decide +kernel), kit_self, _, rfl, iteT ?_⟩
      refine ⟨_, rfl, a, dd, _, v, rfl, ea, sa _ _ hd, rfl, by show 1 ≤ sizeLine; decide, fun l nl => ?_⟩
      exact k _ l (sa.trans (sameNew nl)) upd_same
  · exact h _ _ fun cls d H' hx => hx
end Bm
set_option maxRecDepth 100000
set_option maxHeartbeats 4000000
/-! the law's own sums, in plain words -/
namespace Pm
open PySem L2
theorem few_from (b : Int) : ∀ (n : Nat) (l : List Int), l.Nodup → (∀ i ∈ l, b ≤ i ∧ i < b + (n : Int)) → l.length ≤ n
  | 0, l, _, h => by
    cases l with
    | nil => exact Nat.le_refl _
    | cons a l => have := h a List.mem_cons_self; omega
  | n + 1, l, nd, h => by
    by_cases m : b + ((n : Nat) : Int) ∈ l
    · have ih := few_from b n (l.erase (b + (n : Int))) (nd.erase _) fun i hi => by
        have h1 := (nd.mem_erase_iff).mp hi
        have := h i h1.2
        have : i ≠ b + (n : Int) := h1.1
        omega
      have := List.length_erase_of_mem m
      omega
    · have ih := few_from b n l nd fun i hi => by
        have := h i hi
        have : i ≠ b + (n : Int) := fun e => m (e ▸ hi)
        omega
      omega
/-- a space's places are those from b on -/
def Full (d : Pl) (b : Int) (n : Nat) : Prop := OkP d ∧ ∀ c, (lk d c).isSome = true ↔ b ≤ c ∧ c < b + n
theorem Full.map {b : Int} {n : Nat} (h0 : 0 ≤ b) (h1 : b + n ≤ 10000) : Full (mapP [] b n) b n := ⟨OkP.nil.mapP h0 h1, fun c => by
  rw [lk_mapP]
  by_cases h : b ≤ c ∧ c < b + n <;> simp [h, lk_nil]⟩
theorem Full.pt {d : Pl} {b i v : Int} {n : Nat} (F : Full d b n) (h : b ≤ i ∧ i < b + n) : Full (pt d i v) b n := by
  have h0 : i ∈ d.map (·.1) := by
    have := (F.2 i).mpr h
    have z : ¬ lk d i = none := fun e => by rw [e] at this; cases this
    rw [lk_none] at z
    exact Decidable.byContradiction z
  have r := F.1.2 i h0
  refine ⟨F.1.pt r.1 r.2, fun c => ?_⟩
  rw [lk_pt]
  by_cases e : c = i
  · subst e; simp [h]
  · simp only [e, if_false]; exact F.2 c
theorem Full.some {d : Pl} {b i : Int} {n : Nat} (F : Full d b n) (h : b ≤ i ∧ i < b + n) : ∃ x, lk d i = some x := Option.isSome_iff_exists.mp ((F.2 i).mpr h)
theorem Full.lacks {d : Pl} {b : Int} {n : Nat} (F : Full d b n) : lacks d b n = none := (lacks_none d b n).mpr fun i hi => (F.2 _).mpr (by omega)
theorem Full.used {d : Pl} {b : Int} {n : Nat} (F : Full d b n) : used d (b + n) n = none := (used_none d _ n).mpr fun i hi => by
  have := mt (F.2 (b + n + (i : Int))).mp (by omega)
  simpa using this
/-- behind the move and the place that went -/
def left (d : Pl) (b : Int) (n : Nat) : Pl := unmapP (moveP d b (b + n) n) (b + n) 1
theorem left_none (d : Pl) (b : Int) (n : Nat) : lk (left d b n) (b + n) = none := by
  unfold left
  rw [lk_unmapP, if_pos (by omega)]
theorem left_few {d : Pl} {b : Int} {n : Nat} (F : Full d b n) (h0 : 0 ≤ b) (h1 : b + n + n ≤ 10000) : (left d b n).length ≤ 2 * n := by
  have ok : OkP (left d b n) := (OkP.moveP F.1 (by omega) (by omega)).unmapP
  have := few_from b (2 * n) _ ok.1 fun c hc => by
    have z : ¬ lk (left d b n) c = none := fun e => (lk_none _ _).mp e hc
    have m := lk_moveP d b (b + n) n (fun i hi => (F.2 _).mpr (by omega)) (fun i hi => by have := mt (F.2 (b + n + (i : Int))).mp (by omega); simpa using this) c
    unfold left at z
    rw [lk_unmapP] at z
    by_cases e : b + (n : Int) ≤ c ∧ c < b + n + ((1 : Nat) : Int)
    · exact absurd (if_pos e) z
    · rw [if_neg e, m] at z
      by_cases e2 : b + (n : Int) ≤ c ∧ c < b + n + n
      · omega
      · rw [if_neg e2] at z
        by_cases e3 : b ≤ c ∧ c < b + n
        · omega
        · rw [if_neg e3] at z
          have : (lk d c).isSome = true := by
            cases q : lk d c with
            | none => exact absurd q z
            | some x => rfl
          have := (F.2 c).mp this
          omega
  rwa [List.length_map] at this
theorem ab : ¬ (("a" : Str) = "b") := by decide +kernel
theorem ac : ¬ (("a" : Str) = "c") := by decide +kernel
theorem bc : ¬ (("b" : Str) = "c") := by decide +kernel
theorem two_names {ys : List Str} (h : ys.Perm ["a", "b"]) (hs : PyProof.Rows.sortedS ys = true) : ys = [("a" : Str), ("b" : Str)] := by
  have hl := h.length_eq
  match ys, hl with
  | [x, y], _ =>
    have hx : x ∈ [("a" : Str), "b"] := h.mem_iff.mp List.mem_cons_self
    simp only [List.mem_cons, List.not_mem_nil, or_false] at hx
    rcases hx with rfl | rfl
    · have := h.cons_inv
      have := this.mem_iff (a := y)
      simp at this
      rw [this]
    · have h' := h.trans (List.Perm.swap ("b" : Str) ("a" : Str) [])
      have := h'.cons_inv
      have := this.mem_iff (a := y)
      simp at this
      subst this
      exact absurd hs (by decide +kernel)
section
variable {x y z x' : Pl}
theorem lkA : lk [(("a" : Str), x)] "a" = some x := by simp [lk]
theorem lkA0 : lk [(("a" : Str), x)] "b" = none := by simp [lk, ab]
theorem lkA2 : lk [(("a" : Str), x), (("b" : Str), y)] "a" = some x := by simp [lk]
theorem lkB2 : lk [(("a" : Str), x), (("b" : Str), y)] "b" = some y := by simp [lk, ab]
theorem lkC2 : lk [(("a" : Str), x), (("b" : Str), y)] "c" = none := by simp [lk, ac, bc]
theorem lkC3 : lk [(("a" : Str), x), (("b" : Str), y), (("c" : Str), z)] "c" = some z := by simp [lk, ac, bc]
theorem ptA : pt [(("a" : Str), x)] "a" x' = [(("a" : Str), x')] := by simp [pt]
theorem ptB2 : pt [(("a" : Str), x), (("b" : Str), y)] "b" x' = [(("a" : Str), x), (("b" : Str), x')] := by simp [pt, ab]
theorem drC3 : dr [(("a" : Str), x), (("b" : Str), y), (("c" : Str), z)] "c" = [(("a" : Str), x), (("b" : Str), y)] := by simp [dr, ac, bc]
end
end Pm
namespace Bm
open PySem L2 Pm
theorem dp_ints {K : PySem.W.Frag} {H : Hp} : ∀ ns : List Int, DpAll K H (ns.map V.int) (ns.map PyData.int)
  | [] => .nil
  | n :: ns => .cons (.int n) (dp_ints ns)
theorem eqv_same {d : PyData} (h : SeqAt.shaped d = true) : PyData.eqv d d = true := SeqAt.eqv_refl d (SeqAt.canLay_of_shaped h)
/-! methods by keywords -/
def pick {α : Type} (is : List Nat) (us ws : List α) : List α := us ++ is.filterMap fun i => ws[i]?
theorem vals_at {zs : List V} {ws : List Value} (h : Vals zs ws) (i : Nat) : (∃ x y, zs[i]? = some x ∧ ws[i]? = some y ∧ RelV x y) ∨ (zs[i]? = none ∧ ws[i]? = none) := by
  induction h generalizing i with
  | nil => exact .inr ⟨rfl, rfl⟩
  | cons h t ih =>
    cases i with
    | zero => exact .inl ⟨_, _, rfl, rfl, h⟩
    | succ i => simpa using ih i
theorem vals_pick (is : List Nat) {vs zs : List V} {us ws : List Value} (h1 : Vals vs us) (h2 : Vals zs ws) : Vals (pick is vs zs) (pick is us ws) := by
  refine h1.append ?_
  induction is with
  | nil => exact .nil
  | cons i is ih =>
    rw [List.filterMap_cons, List.filterMap_cons]
    rcases vals_at h2 i with ⟨x, y, e1, e2, r⟩ | ⟨e1, e2⟩
    · rw [e1, e2]
      exact .cons r ih
    · rw [e1, e2]
      exact ih
theorem kbp {K : PySem.W.Frag} {x q : Str} {st : Stmt} {ps ks : List Str} {n : Nat} {kV doc pm cdv ct : Value} {an : Option Addr} (is : List Nat)
    (h : ∀ us ws : List Value, us.length = n → ws.length = ks.length → bindArgs (PySem.W.fnOf x q (defArgs st) (defBody st) (defScope st) .none kV doc pm an cdv ct) ⟨us, ks.zip ws⟩ = pure (ps.zip (pick is us ws))) :
    KBn K (PySem.W.fnOf x q (defArgs st) (defBody st) (defScope st) .none kV doc pm an cdv ct) ps n ks (pick is) (pick is) :=
  ⟨fun s us ws _ hu hw => .of_eq (h us ws hu hw), fun r z => vals_pick is r z⟩
/-- a method, by position and by names -/
def HasK (P : Program) (w : World) (K : PySem.W.Frag) (mg : Str → Option Value) (base : Heap) (CX : CXT) (k : Nat) (C : Addr) (x : Str) (ps : List Str) (sp : Sp) (ks : List Str) (is : List Nat) : Prop :=
  ∃ f fd, Meth K C x f ∧ FnOk P w K mg base CX k f fd ps sp ∧ Binds K fd ps [] ∧ KBn K fd ps 1 ks (pick is) (pick is)
end Bm
set_option maxRecDepth 100000
set_option maxHeartbeats 8000000
namespace Bm
open PySem L2 L3 LamX Pm
abbrev sLaw : Stmt := top 31
/-- the class and its methods -/
structure PlK (P : Program) (w : World) (K : PySem.W.Frag) (mg : Str → Option Value) (base : Heap) (C CS CBN CT CB CU CL CV : Addr) : Prop where
  tp : PlT K C
  mC : mg "Plain" = some (.ref C)
  make : ∃ fI fdI, Mk K C fI ∧ FnOk P w K mg base CX0 1 fI fdI ["self"] (spPI C) ∧ Binds K fdI ["self"] []
  add_ : HasK P w K mg base (L2.CX P w) 4 C "add" ["self", "space"] (spAdd C CBN CT) ["space"] [0]
  drop_ : HasK P w K mg base (L2.CX P w) 4 C "drop" ["self", "space"] (spDrop C CS) ["space"] [0]
  map_ : HasK P w K mg base (L2.CX P w) 5 C "map" ["self", "space", "begin", "many"] (spMap C CS CB CU) ["many", "space", "begin"] [1, 2, 0]
  unmap_ : HasK P w K mg base (L2.CX P w) 5 C "unmap" ["self", "space", "begin", "many"] (spUnmap C CS CB) ["many", "begin", "space"] [2, 1, 0]
  move_ : HasK P w K mg base (L2.CX P w) 5 C "move" ["self", "space", "begin", "many", "to"] (spMove C CS CB CL CU) ["to", "many", "begin", "space"] [3, 2, 1, 0]
  write_ : HasK P w K mg base (L2.CX P w) 5 C "write" ["self", "space", "place", "value"] (spWrite C CS CL CV) ["value", "place", "space"] [2, 1, 0]
  read_ : HasK P w K mg base (L2.CX P w) 5 C "read" ["self", "space", "place"] (spRead C CS CL) ["place", "space"] [1, 0]
  places_ : HasK P w K mg base (L2.CX P w) 4 C "places" ["self", "space"] (spPlaces C CS) ["space"] [0]

  fork_ : ∃ f fd, Meth K C "fork" f ∧ FnOk P w K mg base (L2.CX P w) 4 f fd ["self", "space", "child"] (spFork C CS CBN CT) ∧ Binds K fd ["self", "space", "child"] [] ∧ KBn K fd ["self", "space", "child"] 1 ["child", "space"] (pick [1, 0]) (pick [1, 0]) ∧ KBn K fd ["self", "space", "child"] 2 ["child"] (pick [0]) (pick [0])
  spaces_ : ∃ f fd, Meth K C "spaces" f ∧ FnOk P w K mg base CX0 1 f fd ["self"] (spSpaces C) ∧ Binds K fd ["self"] []
  eq_ : ∃ f fd, FnOk P w K mg base CX0 1 f fd ["self", "other"] (spPEq C) ∧ PySem.W.findIn K (.ref C) "__eq__" = some (some (.ref f)) ∧ PySem.W.isFn K (.ref f) = true ∧ Binds K fd ["self", "other"] []
  it : InT K C
  nf1 : PySem.W.notFirst K C (.ref C) = true
/-- the code of _law_refused -/
def RefAt (K : PySem.W.Frag) (mg : Str → Option Value) : Prop := ∃ (g : Addr) (oc dV kV doc pm cdv ct : Value) (od an : Option Addr) (osl : Array (Option Value)),
  mg "_law_refused" = some (.ref g) ∧ PySem.W.keepIn K (.ref g) = true ∧ K.lookup g = some ⟨oc, od, .func (PySem.W.fnOf "_law_refused" "_law_refused" (defArgs sRef) (defBody sRef) (defScope sRef) dV kV doc pm an cdv ct), osl⟩ ∧ PySem.W.codeIn K cdv "_law_refused" = true ∧
  L2.Binds K (PySem.W.fnOf "_law_refused" "_law_refused" (defArgs sRef) (defBody sRef) (defScope sRef) dV kV doc pm an cdv ct) ["_law_work"] []
def spLaw (K : PySem.W.Frag) (T : List (Addr × Str)) : Sp := fun vs H Q _ => ∃ (a : Addr) (ns : List Int), vs = [.ref a] ∧ SqL K H a (ns.map V.int) ∧ ns.length ≤ 63 ∧ Tabs T H ∧ ∀ H', Q (.bl true) H'
section
variable {P : Program} {w : World} {K : PySem.W.Frag} {mg : Str → Option Value} {base : Heap}
theorem scLaw : FnScope ["_law_script", "_law_draw_here", "_law_turn", "_law_first", "_law_second", "_law_size", "_law_start", "_law_step", "_law_number"] ["_law_script"] (defScope sLaw) := ⟨rfl, rfl, rfl, by decide +kernel, rfl, by decide +kernel, by decide +kernel⟩
theorem tcs {v : V} {t : TA} {σ : L2.St} {H : Hp} {Q : List V → Hp → Prop} (h : t σ H fun vs H' => Q (v :: vs) H') : tCons (tC v) t σ H Q := h
theorem tns {σ : L2.St} {H : Hp} {Q : List V → Hp → Prop} (h : Q [] H) : tNil σ H Q := h
theorem n_a : nameS "a" = true := by decide +kernel
theorem n_b : nameS "b" = true := by decide +kernel
theorem n_c : nameS "c" = true := by decide +kernel
theorem no_held {x : Str} {v : V} (h : (x == ("held" : Str)) = false) : ([(("held" : Str), v)] : List (Str × V)).lookup x = none := by
  rw [List.lookup_cons, h]; rfl
theorem ok_law {f c Pc C CS CBN CT CB CU CL CV CM : Addr} {T : List (Addr × Str)} {oc kV doc pm ct : Value} {od an : Option Addr} {osl : Array (Option Value)} (lk0 : K.lookup f = some ⟨oc, od, .func (PySem.W.fnOf "law" "law" (defArgs sLaw) (defBody sLaw) (defScope sLaw) .none kV doc pm an (.ref c) ct), osl⟩) (hcd : PySem.W.codeIn K (.ref c) "law" = true)
    (range_ : mg "range" = none) (isinstance_ : mg "isinstance" = none) (R : PlK P w K mg base C CS CBN CT CB CU CL CV) (Er : ErP K mg CL CM) (TBc : TabB base mg c Pc) (hmT : (Pc, ("law" : Str) ++ ".<locals>." ++ "<lambda>") ∈ T) (hu : ∀ p ∈ T, p.1 = Pc → p.2 = ("law" : Str) ++ ".<locals>." ++ "<lambda>") (Md : RefAt K mg)
    (HState : Has P w K mg base CX0 1 "_law_state" ["_law_script"] (spState K)) (HD : Has P w K mg base CX0 1 "_law_draw" ["_law_draw_here", "_law_below"] spDraw) :
    FnG P w K mg base CX0 8 f (PySem.W.fnOf "law" "law" (defArgs sLaw) (defBody sLaw) (defScope sLaw) .none kV doc pm an (.ref c) ct) ["_law_script"] (spLaw K T) := by
  refine fn_g lk0 hcd scLaw (fun vs H Q E h => ?_) fun A0 outer s0 H vs Q E gd hr h => ?_
  · obtain ⟨a, ns, rfl, _⟩ := h
    rfl
  · obtain ⟨a, ns, rfl, hS, hlen, hT, fin⟩ := h
    obtain ⟨g, oc2, dV2, kV2, doc2, pm2, cd2, ct2, od2, an2, osl2, mMd, kMd, lMd, cMd, bMd⟩ := Md
    obtain ⟨fS, fdS, GState, mState, kState, bState⟩ := HState
    obtain ⟨fD, fdD, GD, mD, kD, bD⟩ := HD
    obtain ⟨fI, fdI, MI, GI, bI⟩ := R.make
    obtain ⟨fadd, fdadd, mmadd, Gadd, badd, kbadd⟩ := R.add_
    obtain ⟨fdrop, fddrop, mmdrop, Gdrop, bdrop, kbdrop⟩ := R.drop_
    obtain ⟨fmap, fdmap, mmmap, Gmap, bmap, kbmap⟩ := R.map_
    obtain ⟨funmap, fdunmap, mmunmap, Gunmap, bunmap, kbunmap⟩ := R.unmap_
    obtain ⟨fmove, fdmove, mmmove, Gmove, bmove, kbmove⟩ := R.move_
    obtain ⟨fwrite, fdwrite, mmwrite, Gwrite, bwrite, kbwrite⟩ := R.write_
    obtain ⟨fread, fdread, mmread, Gread, bread, kbread⟩ := R.read_
    obtain ⟨fplaces, fdplaces, mmplaces, Gplaces, bplaces, kbplaces⟩ := R.places_
    obtain ⟨ffork, fdfork, mmfork, Gfork, bfork, kbfork, kbnfork⟩ := R.fork_
    obtain ⟨fspaces, fdspaces, mmspaces, Gspaces, bspaces⟩ := R.spaces_
    obtain ⟨fE, fdE, GE, hE1, hE2, bE⟩ := R.eq_
    have TP := R.tp
    have mC := R.mC
    have hr1 := hr.mono (show 1 ≤ 7 by decide)
    have hr2 := hr.mono (show 2 ≤ 7 by decide)
    have hr4 := hr.mono (show 4 ≤ 7 by decide)
    have hr5 := hr.mono (show 5 ≤ 7 by decide)
    have hr7 := hr.mono (show 7 ≤ 7 by decide)
    suffices hh : ∃ t, PSs (cxOf CX0 P w K mg base ["_law_script", "_law_draw_here", "_law_turn", "_law_first", "_law_second", "_law_size", "_law_start", "_law_step", "_law_number"] "law" (defScope sLaw) f (.ref c) A0 outer s0 H E).nox (defBody sLaw) t ∧ t { nx := fun _ H' => Q .non H', rt := Q } (start ["_law_script", "_law_draw_here", "_law_turn", "_law_first", "_law_second", "_law_size", "_law_start", "_law_step", "_law_number"] [.ref a]) H by
      obtain ⟨t, h1, h2⟩ := hh
      exact ⟨t, h1.nox, h2⟩
    refine ⟨_, (pss_cons (ps_set (i := 1) scLaw.nd rfl (Or.inl rfl) (pe_call GState hr1 rfl mState kState bState .nil pass0 (pa_cons (pv 0) pa_nil)))
      (pss_cons (ps_for PassesOwn.never rfl (pi_range1 rfl range_ (pa_cons pe_int pa_nil)) (pg_name (i := 2) scLaw.nd rfl (Or.inl rfl))
        (pss_cons (ps_asg (pe_tup (pa_cons (pe_make0 MI GI hr2 rfl mC bI .nil pass0) (pa_cons (pe_make0 MI GI hr2 rfl mC bI .nil pass0) (pa_cons (pe_op op_add pe_int (pe_call GD hr1 rfl mD kD bD .nil pass0 (pa_cons (pv 1) (pa_cons pe_int pa_nil)))) (pa_cons (pe_call GD hr1 rfl mD kD bD .nil pass0 (pa_cons (pv 1) (pa_cons pe_int pa_nil))) pa_nil))))) (pg_tup (by rfl) (pgs_cons (pg_name (i := 3) scLaw.nd rfl (Or.inl rfl)) (pgs_cons (pg_name (i := 4) scLaw.nd rfl (Or.inr rfl)) (pgs_cons (pg_name (i := 5) scLaw.nd rfl (Or.inr rfl)) (pgs_cons (pg_name (i := 6) scLaw.nd rfl (Or.inr rfl)) pgs_nil))))))
          (pss_cons (ps_expr (pe_meth (pv 3) TP.cl mmadd Gadd hr4 badd .nil passL (pa_cons pe_str pa_nil)))
          (pss_cons (ps_expr (pe_methK0 (pv 4) TP.cl mmadd Gadd hr4 kbadd passL (pk_cons pe_str pk_nil)))
          (pss_cons (ps_expr (pe_meth (pv 3) TP.cl mmmap Gmap hr5 bmap .nil passL (pa_cons pe_str (pa_cons (pv 6) (pa_cons (pv 5) pa_nil)))))
          (pss_cons (ps_expr (pe_methK0 (pv 4) TP.cl mmmap Gmap hr5 kbmap passL (pk_cons (pv 5) (pk_cons pe_str (pk_cons (pv 6) pk_nil)))))
          (pss_cons (ps_for PassesOwn.never rfl (pi_range1 rfl range_ (pa_cons (pv 5) pa_nil)) (pg_name (i := 7) scLaw.nd rfl (Or.inl rfl))
            (pss_cons (ps_set (i := 8) scLaw.nd rfl (Or.inl rfl) (pe_call GD hr1 rfl mD kD bD .nil pass0 (pa_cons (pv 1) (pa_cons pe_int pa_nil))))
              (pss_cons (ps_expr (pe_meth (pv 3) TP.cl mmwrite Gwrite hr5 bwrite .nil passL (pa_cons pe_str (pa_cons (pe_op op_add (pv 6) (pv 7)) (pa_cons (pv 8) pa_nil)))))
              (pss_one (ps_expr (pe_methK0 (pv 4) TP.cl mmwrite Gwrite hr5 kbwrite passL (pk_cons (pv 8) (pk_cons (pe_op op_add (pv 6) (pv 7)) (pk_cons pe_str pk_nil)))))))))
          (pss_cons (ps_expr (pe_meth (pv 3) TP.cl mmfork Gfork hr4 bfork .nil passL (pa_cons pe_str (pa_cons pe_str pa_nil))))
          (pss_cons (ps_expr (pe_methK0 (pv 4) TP.cl mmfork Gfork hr4 kbfork passL (pk_cons pe_str (pk_cons pe_str pk_nil))))
          (pss_cons (ps_expr (pe_meth (pv 3) TP.cl mmmove Gmove hr5 bmove .nil passL (pa_cons pe_str (pa_cons (pv 6) (pa_cons (pv 5) (pa_cons (pe_op op_add (pv 6) (pv 5)) pa_nil))))))
          (pss_cons (ps_expr (pe_methK0 (pv 4) TP.cl mmmove Gmove hr5 kbmove passL (pk_cons (pe_op op_add (pv 6) (pv 5)) (pk_cons (pv 5) (pk_cons (pv 6) (pk_cons pe_str pk_nil))))))
          (pss_cons (ps_expr (pe_meth (pv 3) TP.cl mmunmap Gunmap hr5 bunmap .nil passL (pa_cons pe_str (pa_cons (pe_op op_add (pv 6) (pv 5)) (pa_cons pe_int pa_nil)))))
          (pss_cons (ps_expr (pe_methK0 (pv 4) TP.cl mmunmap Gunmap hr5 kbunmap passL (pk_cons pe_int (pk_cons (pe_op op_add (pv 6) (pv 5)) (pk_cons pe_str pk_nil)))))
          (pss_cons (ps_expr (pe_meth (pv 3) TP.cl mmfork Gfork hr4 bfork .nil passL (pa_cons pe_str (pa_cons pe_str pa_nil))))
          (pss_cons (ps_expr (pe_methKN (pv 4) TP.cl mmfork Gfork hr4 kbnfork passL (pa_cons pe_str pa_nil) (pk_cons pe_str pk_nil)))
          (pss_cons (ps_expr (pe_meth (pv 3) TP.cl mmdrop Gdrop hr4 bdrop .nil passL (pa_cons pe_str pa_nil)))
          (pss_cons (ps_expr (pe_methK0 (pv 4) TP.cl mmdrop Gdrop hr4 kbdrop passL (pk_cons pe_str pk_nil)))
          (pss_cons (ps_if (PW.pt (pw_or (pt_not (pt_cmpR (op_eqOwn (C := C) (E := E0) GE hE1 hE2 bE pass0 hr1) (pv 3) (pv 4) (nomark _))) (pw_or (pt_cmpR (op_neD hr.units) (pe_meth0 (pv 3) TP.cl mmspaces Gspaces hr1 bspaces .nil pass0) (pe_lst (pa_cons pe_str (pa_cons pe_str pa_nil))) (nomark _)) (pw_or1 (pt_cmpR (op_neD hr.units) (pe_methK0 (pv 4) TP.cl mmplaces Gplaces hr4 kbplaces passL (pk_cons pe_str pk_nil)) (pe_meth (pv 3) TP.cl mmplaces Gplaces hr4 bplaces .nil passL (pa_cons pe_str pa_nil)) (nomark _))))))
            (pss_one (ps_ret pe_bl))
            pss_nil)
          (pss_cons (ps_if (pt_cmpR op_ne (pe_methK0 (pv 4) TP.cl mmread Gread hr5 kbread passL (pk_cons (pv 6) (pk_cons pe_str pk_nil))) (pe_meth (pv 3) TP.cl mmread Gread hr5 bread .nil passL (pa_cons pe_str (pa_cons (pv 6) pa_nil))) (nomark _))
            (pss_one (ps_ret pe_bl))
            pss_nil)
          (pss_one (ps_if (pt_cmpR (op_neD hr.units) (pe_lamcall (T := T) (TT := TTRef CL) rfl mMd kMd lMd cMd bMd scRef rfl (Or.inl rfl) (ref_gives isinstance_ Er) TBc rfl hmT hu hr7 (lamS_by (by show lamSB (defScope sLaw) _ = true; decide +kernel)) rfl (fun _ _ _ _ _ => rfl) (fun A outer s H E f c' hr' => (pe_methK0 (pv 4) TP.cl mmread Gread hr' kbread (passes_call (takes_of rfl rfl rfl rfl) (fun _ _ _ _ h => h)) (pk_cons (pe_op op_add (pv 6) (pv 5)) (pk_cons pe_str pk_nil))))) (pe_lst (pa_cons (pe_op op_add (pv 6) (pv 5)) pa_nil)) (nomark _))
            (pss_one (ps_ret pe_bl))
            pss_nil)))))))))))))))))))))
      (pss_one (ps_ret pe_bl)))), ?_⟩
    refine ⟨_, rfl, a, ns, rfl, hS, hlen, fun d st H0 s0 _ _ D0 => ?_⟩
    have T0 := hT.ext s0
    refine ⟨4, rfl, by decide, by decide, for_range (n := 4) (fun n σ H' => ∃ v2 v3 v4 v5 v6 v7 v8 : Option V, σ = [some (.ref a), some (.ref d), v2, v3, v4, v5, v6, v7, v8] ∧ Dr d st H' ∧ Tabs T H') ⟨none, none, none, none, none, none, none, rfl, D0, T0⟩ ?_ ?_⟩
    · rintro n0 σ H' hn0 ⟨v2, v3, v4, v5, v6, v7, v8, rfl, D, Tb⟩
      -- two memories, a size, a begin
      refine fun p dx np ndp nep => mk_plain np ndp nep fun hd H1 s1 nh P1 => ⟨rfl, ?_⟩
      refine fun q dy nq ndq neq => mk_plain nq ndq neq fun hd' H2 s2 nh' P2 => ⟨rfl, ?_⟩
      have dj : ∀ x ∈ fpt hd [], x ∉ fpt hd' [] := fun x h1 h2 => by
        have e1 : x = hd := by simpa [fpt] using h1
        have e2 : x = hd' := by simpa [fpt] using h2
        have := P1.held
        rw [← e1, e2, nh'] at this
        cases this
      have W2 : Two T C d st H2 p q [] [] := ⟨dx, hd, [], dy, hd', [], P1.same s2, P2, rfl, rfl, dj, D.same (s1.trans s2), Tb.ext (s1.trans s2)⟩
      have D2 := D.same (s1.trans s2)
      refine ⟨_, rfl, d, st, _, rfl, D2, by decide, by decide, fun r H3 r0 r1 D3 K3 => ⟨_, _, rfl, rfl, _, rfl, d, st, _, rfl, D3, by decide, by decide, fun b H4 b0 b1 D4 K4 => ⟨by show 4 ≤ sizeLine; decide, fun t nt => ?_⟩⟩⟩
      have W4 := (W2.kp D3 K3).kp D4 K4
      obtain ⟨n, hn⟩ : ∃ n : Nat, 1 + r = (n : Int) := ⟨(1 + r).toNat, by omega⟩
      have n1 : 1 ≤ n := by omega
      have n9 : n ≤ 9 := by omega
      generalize eH5 : upd H4 t _ = H5
      have s5 : Same H4 H5 := by rw [← eH5]; exact sameNew nt
      have a5 : H5 t = some (HO.tup [V.ref p, V.ref q, V.int (1 + r), V.int b] : HO) := by rw [← eH5]; exact upd_same
      clear eH5
      rw [hn] at a5
      refine ⟨t, _, rfl, SqT.of a5, rfl, _, _, rfl, _, _, rfl, _, _, rfl, _, _, rfl, rfl, ?_⟩
      have W5 := W4.same s5
      have hS : isS (.int b) (.int n) = true := isS_iff.mpr (by omega)
      have hS2 : isS (.int (b + n)) (.int n) = true := isS_iff.mpr (by omega)
      have hS1 : isS (.int (b + n)) (.int 1) = true := isS_iff.mpr (by omega)
      -- add
      obtain ⟨dx5, hd5, i5⟩ := W5.ins1
      refine ⟨_, rfl, p, dx5, _, rfl, i5, no_held (by decide +kernel), tcs (tns (add1 W5 n_a rfl (by simp) fun H6 W6 => ?_))⟩
      obtain ⟨dx6, hd6, i6⟩ := W6.symm.ins1
      refine ⟨_, rfl, q, dx6, _, rfl, i6, no_held (by decide +kernel), rfl, rfl, add1 W6.symm n_a rfl (by simp) fun H7 W7 => ?_⟩
      -- map
      have u0 : used [] b (n : Int).toNat = none := (used_none [] b _).mpr fun i _ => rfl
      obtain ⟨dx7, hd7, i7⟩ := W7.symm.ins1
      refine ⟨_, rfl, p, dx7, _, rfl, i7, no_held (by decide +kernel), _, rfl, _, rfl, tns (map1 W7.symm lkA hS u0 fun H8 W8 => ?_)⟩
      obtain ⟨dx8, hd8, i8⟩ := W8.symm.ins1
      refine ⟨_, rfl, q, dx8, _, rfl, i8, no_held (by decide +kernel), _, rfl, _, rfl, rfl, rfl, map1 W8.symm lkA hS u0 fun H9 W9 => ?_⟩
      -- writes
      have W9' : Two T C d st H9 p q [("a", mapP [] b n)] [("a", mapP [] b n)] := by
        have := W9.symm
        simp only [List.nil_append, ptA] at this
        exact this
      refine ⟨_, rfl, n, rfl, by omega, by omega, for_range (lo := 0) (n := (n : Int).toNat) (fun i σ H' => ∃ v7 v8, σ = [some (.ref a), some (.ref d), some (.int (0 + (n0 : Int))), some (.ref p), some (.ref q), some (.int n), some (.int b), v7, v8] ∧ ∃ dd, Full dd b n ∧ Two T C d st H' p q [("a", dd)] [("a", dd)]) ⟨_, _, rfl, _, Full.map b0 (by omega), W9'⟩ ?_ ?_⟩
      · rintro i σ H10 hi ⟨v7, v8, rfl, dd, F, W⟩
        have hi' : i < n := hi
        obtain ⟨dxa, hda, ma, dya, hdb, mb, A, B, ea, eb, dj, Da, Tba⟩ := id W
        refine ⟨_, rfl, d, st, _, rfl, Da, by decide, by decide, fun x H11 x0 x1 D11 K11 => ?_⟩
        have W11 := W.kp D11 K11
        have hc : isC (.int x) = true := by simp only [isC, Bool.and_eq_true, decide_eq_true_eq]; omega
        have inb : b ≤ b + (0 + (i : Int)) ∧ b + (0 + (i : Int)) < b + n := by omega
        obtain ⟨y, hy⟩ := F.some inb
        obtain ⟨dx1, hd1, i1⟩ := W11.ins1
        refine ⟨_, rfl, p, dx1, _, rfl, i1, no_held (by decide +kernel), _, rfl, _, rfl, _, _, rfl, rfl, _, rfl, tns (write1 W11 lkA hy hc fun H12 W12 => ?_)⟩
        obtain ⟨dx2, hd2, i2⟩ := W12.symm.ins1
        refine ⟨_, rfl, q, dx2, _, rfl, i2, no_held (by decide +kernel), _, rfl, _, rfl, _, rfl, _, _, rfl, rfl, rfl, rfl, write1 W12.symm lkA hy hc fun H13 W13 => ?_⟩
        refine ⟨_, _, rfl, pt dd (b + (0 + (i : Int))) x, F.pt inb, ?_⟩
        have := W13.symm
        simp only [ptA] at this
        exact this
      · rintro σ H10 ⟨v7, v8, rfl, dd, F, W⟩
        -- fork
        obtain ⟨dx1, hd1, i1⟩ := W.ins1
        refine ⟨_, rfl, p, dx1, _, rfl, i1, no_held (by decide +kernel), tcs (tcs (tns (fork1 W lkA n_b lkA0 (by simp) fun H11 W11 => ?_)))⟩
        obtain ⟨dx2, hd2, i2⟩ := W11.symm.ins1
        refine ⟨_, rfl, q, dx2, _, rfl, i2, no_held (by decide +kernel), rfl, rfl, fork1 W11.symm lkA n_b lkA0 (by simp) fun H12 W12 => ?_⟩
        -- move
        obtain ⟨dx3, hd3, i3⟩ := W12.symm.ins1
        refine ⟨_, rfl, p, dx3, _, rfl, i3, no_held (by decide +kernel), _, rfl, _, rfl, _, rfl, _, rfl, _, _, rfl, rfl, tns (move1 W12.symm lkB2 hS hS2 F.lacks F.used fun H13 W13 => ?_)⟩
        obtain ⟨dx4, hd4, i4⟩ := W13.symm.ins1
        refine ⟨_, rfl, q, dx4, _, rfl, i4, no_held (by decide +kernel), _, rfl, _, rfl, _, _, rfl, rfl, _, rfl, _, rfl, rfl, rfl, move1 W13.symm lkB2 hS hS2 F.lacks F.used fun H14 W14 => ?_⟩
        have W14' : Two T C d st H14 p q [("a", dd), ("b", moveP dd b (b + n) n)] [("a", dd), ("b", moveP dd b (b + n) n)] := by
          have := W14.symm
          simp only [List.cons_append, List.nil_append, ptB2] at this
          exact this
        -- unmap
        obtain ⟨dx5, hd5, i5⟩ := W14'.ins1
        refine ⟨_, rfl, p, dx5, _, rfl, i5, no_held (by decide +kernel), _, rfl, _, rfl, _, _, rfl, rfl, tcs (tns (unmap1 W14' lkB2 hS1 fun H15 W15 => ?_))⟩
        obtain ⟨dx6, hd6, i6⟩ := W15.symm.ins1
        refine ⟨_, rfl, q, dx6, _, rfl, i6, no_held (by decide +kernel), _, rfl, _, rfl, _, _, rfl, rfl, rfl, rfl, unmap1 W15.symm lkB2 hS1 fun H16 W16 => ?_⟩
        have W16' : Two T C d st H16 p q [("a", dd), ("b", left dd b n)] [("a", dd), ("b", left dd b n)] := by
          have := W16.symm
          simp only [ptB2] at this
          exact this
        -- fork, drop
        obtain ⟨dx7, hd7, i7⟩ := W16'.ins1
        refine ⟨_, rfl, p, dx7, _, rfl, i7, no_held (by decide +kernel), tcs (tcs (tns (fork1 W16' lkB2 n_c lkC2 (by simp) fun H17 W17 => ?_)))⟩
        obtain ⟨dx8, hd8, i8⟩ := W17.symm.ins1
        refine ⟨_, rfl, q, dx8, _, rfl, i8, no_held (by decide +kernel), rfl, rfl, fork1 W17.symm lkB2 n_c lkC2 (by simp) fun H18 W18 => ?_⟩
        obtain ⟨dx9, hd9, i9⟩ := W18.symm.ins1
        refine ⟨_, rfl, p, dx9, _, rfl, i9, no_held (by decide +kernel), tcs (tns (drop1 W18.symm (by show (lk [_, _, _] _).isSome = true; rw [lkC3]; rfl) fun H19 W19 => ?_))⟩
        obtain ⟨dx10, hd10, i10⟩ := W19.symm.ins1
        refine ⟨_, rfl, q, dx10, _, rfl, i10, no_held (by decide +kernel), rfl, rfl, drop1 W19.symm (by show (lk [_, _, _] _).isSome = true; rw [lkC3]; rfl) fun H20 W20 => ?_⟩
        have W20' : Two T C d st H20 p q [("a", dd), ("b", left dd b n)] [("a", dd), ("b", left dd b n)] := by
          have := W20.symm
          simp only [List.cons_append, List.nil_append, drC3] at this
          exact this
        clear W W11 W12 W13 W14 W14' W15 W16 W16' W17 W18 W19 W20
        have few : (left dd b n).length < 64 := by have := left_few F b0 (by omega); omega
        -- equal
        obtain ⟨dxa, hda, ia⟩ := W20'.ins1
        obtain ⟨dxb, hdb, ib⟩ := W20'.symm.ins1
        refine ⟨_, rfl, _, rfl, p, dxa, _, .ref C, rfl, ia, R.it.ty ib, R.nf1, eq1 W20' ⟨true, rfl, _, rfl, iteF ?_⟩⟩
        -- spaces
        refine ⟨_, rfl, p, dxa, _, rfl, ia, no_held (by decide +kernel), tns (spaces1 W20' (by simp) fun ys l1 hp hs nl1 => ?_)⟩
        obtain rfl := two_names hp hs
        generalize eH21 : upd H20 l1 _ = H21
        have s21 : Same H20 H21 := by rw [← eH21]; exact sameNew nl1
        have a21 : H21 l1 = some (HO.lst ([("a" : Str), "b"].map V.str) : HO) := by rw [← eH21]; exact upd_same
        clear eH21
        refine ⟨by show 2 ≤ sizeLine; decide, fun l2 nl2 => ?_⟩
        generalize eH22 : upd H21 l2 _ = H22
        have s22 : Same H21 H22 := by rw [← eH22]; exact sameNew nl2
        have a22 : H22 l2 = some (HO.lst [V.str "a", V.str "b"] : HO) := by rw [← eH22]; exact upd_same
        clear eH22
        refine ⟨.list [.str "a", .str "b"], .list [.str "a", .str "b"], .lst (SqL.of (s22 _ _ a21)) (.cons (.str _) (.cons (.str _) .nil)), .lst (SqL.of a22) (.cons (.str _) (.cons (.str _) .nil)), by decide +kernel, by decide +kernel, ?_⟩
        rw [eqv_same (show SeqAt.shaped (.list [.str "a", .str "b"]) = true from by decide +kernel)]
        refine ⟨_, rfl, iteF ?_⟩
        have W22 := (W20'.same s21).same s22
        -- places
        obtain ⟨dxc, hdc, ic⟩ := W22.symm.ins1
        refine ⟨_, rfl, q, dxc, _, rfl, ic, no_held (by decide +kernel), rfl, rfl, places1 W22.symm lkB2 few fun z1 l3 hp1 hs1 nl3 => ?_⟩
        generalize eH23 : upd H22 l3 _ = H23
        have s23 : Same H22 H23 := by rw [← eH23]; exact sameNew nl3
        have a23 : H23 l3 = some (HO.lst (z1.map V.int) : HO) := by rw [← eH23]; exact upd_same
        clear eH23
        have W23 := W22.same s23
        obtain ⟨dxd, hdd, idd⟩ := W23.ins1
        refine ⟨_, rfl, p, dxd, _, rfl, idd, no_held (by decide +kernel), tcs (tns (places1 W23 lkB2 few fun z2 l4 hp2 hs2 nl4 => ?_))⟩
        obtain rfl : z1 = z2 := PySem.W.ksm_same (hp1.trans hp2.symm) hs1 hs2
        generalize eH24 : upd H23 l4 _ = H24
        have s24 : Same H23 H24 := by rw [← eH24]; exact sameNew nl4
        have a24 : H24 l4 = some (HO.lst (z1.map V.int) : HO) := by rw [← eH24]; exact upd_same
        clear eH24
        refine ⟨.list (z1.map .int), .list (z1.map .int), .lst (SqL.of (s24 _ _ a23)) (dp_ints z1), .lst (SqL.of a24) (dp_ints z1), PySem.W.ke_shaped_ints z1, PySem.W.ke_shaped_ints z1, ?_⟩
        rw [eqv_same (PySem.W.ke_shaped_ints z1)]
        refine ⟨_, rfl, iteF ?_⟩
        have W24 := W23.same s24
        -- read
        obtain ⟨y, hy⟩ := F.some (i := b) (by omega)
        obtain ⟨dxe, hde, ie⟩ := W24.symm.ins1
        obtain ⟨dxf, hdf, i_f⟩ := W24.ins1
        refine ⟨_, rfl, q, dxe, _, rfl, ie, no_held (by decide +kernel), _, rfl, rfl, rfl, read1 W24.symm lkA2 hy ?_⟩
        refine ⟨_, rfl, p, dxf, _, rfl, i_f, no_held (by decide +kernel), _, rfl, tns (read1 W24 lkA2 hy ⟨rfl, _, rfl, ?_⟩)⟩
        rw [decide_eq_true rfl]
        refine iteF ?_
        -- refused
        obtain ⟨_, _, _, _, _, _, _, _, _, _, _, _, Tb24⟩ := id W24
        refine ⟨Tb24, fun H25 eN T25 E' Q' hE => ?_⟩
        have W25 := W24.go eN T25
        obtain ⟨dxg, hdg, ig⟩ := W25.symm.ins1
        refine ⟨_, rfl, q, dxg, _, rfl, ig, no_held (by decide +kernel), _, rfl, _, rfl, _, _, rfl, rfl, rfl, rfl, readX W25.symm lkB2 (left_none dd b n) fun H26 d' s26 nd' => hE _ _ _ ⟨rfl, d', .int (b + n), rfl, upd_same, fun H27 l5 s27 a27 => ?_⟩⟩
        have W27 := (W25.same s26).same ((sameNew nd').trans s27)
        refine ⟨_, rfl, _, rfl, _, _, rfl, rfl, by show 1 ≤ sizeLine; decide, fun l6 nl6 => ?_⟩
        generalize eH28 : upd H27 l6 _ = H28
        have s28 : Same H27 H28 := by rw [← eH28]; exact sameNew nl6
        have a28 : H28 l6 = some (HO.lst [V.int (b + n)] : HO) := by rw [← eH28]; exact upd_same
        clear eH28
        refine ⟨.list [.int (b + n)], .list [.int (b + n)], .lst (SqL.of (s28 _ _ a27)) (.cons (.int _) .nil), .lst (SqL.of a28) (.cons (.int _) .nil), PySem.W.ke_shaped_ints [b + n], PySem.W.ke_shaped_ints [b + n], ?_⟩
        rw [eqv_same (show SeqAt.shaped (.list [.int (b + n)]) = true from PySem.W.ke_shaped_ints [b + n])]
        refine ⟨_, rfl, iteF ?_⟩
        obtain ⟨_, _, _, _, _, _, _, _, _, _, _, D28, T28⟩ := W27.same s28
        exact ⟨_, _, _, _, _, _, _, rfl, D28, T28⟩
    · rintro σ H' _
      exact fin H'
end
end Bm
set_option maxRecDepth 100000
set_option maxHeartbeats 4000000
namespace Bm
open PySem L2 L3 LamX Pm
abbrev sXS : Stmt := inClass (top 6) 0
abbrev sXT : Stmt := inClass (top 7) 0
abbrev sXL : Stmt := inClass (top 8) 0
abbrev sXU : Stmt := inClass (top 9) 0
theorem ok_excCS {P : Program} {w : World} {K : PySem.W.Frag} {mg : Str → Option Value} {base : Heap} {CN cc cda f : Addr} {dV kV doc pm ct oc : Value} {od an : Option Addr} {osl : Array (Option Value)} (S : SupT P K mg CN cc cda "NoSpace.__init__") (hno : PySem.W.findIn K (.ref CN) "name" = some none)
    (lk : K.lookup f = some ⟨oc, od, .func (PySem.W.ksFn "__init__" "NoSpace.__init__" (defArgs sXS) (defBody sXS) (defScope sXS) dV kV doc pm an (.ref cda) ct cc), osl⟩) :
    FnOk P w K mg base CX0 1 f (PySem.W.ksFn "__init__" "NoSpace.__init__" (defArgs sXS) (defBody sXS) (defScope sXS) dV kV doc pm an (.ref cda) ct cc) ["self", "name"] (spSup CN "name") :=
  ok_sup (x := "name") S hno lk rfl rfl (by decide +kernel) (by decide +kernel) rfl rfl rfl rfl rfl (by decide +kernel) rfl rfl (fun _ => rfl) (fun _ => rfl) (fun _ => rfl) (fun _ => rfl)
theorem ok_excCT {P : Program} {w : World} {K : PySem.W.Frag} {mg : Str → Option Value} {base : Heap} {CN cc cda f : Addr} {dV kV doc pm ct oc : Value} {od an : Option Addr} {osl : Array (Option Value)} (S : SupT P K mg CN cc cda "Taken.__init__") (hno : PySem.W.findIn K (.ref CN) "name" = some none)
    (lk : K.lookup f = some ⟨oc, od, .func (PySem.W.ksFn "__init__" "Taken.__init__" (defArgs sXT) (defBody sXT) (defScope sXT) dV kV doc pm an (.ref cda) ct cc), osl⟩) :
    FnOk P w K mg base CX0 1 f (PySem.W.ksFn "__init__" "Taken.__init__" (defArgs sXT) (defBody sXT) (defScope sXT) dV kV doc pm an (.ref cda) ct cc) ["self", "name"] (spSup CN "name") :=
  ok_sup (x := "name") S hno lk rfl rfl (by decide +kernel) (by decide +kernel) rfl rfl rfl rfl rfl (by decide +kernel) rfl rfl (fun _ => rfl) (fun _ => rfl) (fun _ => rfl) (fun _ => rfl)
theorem ok_excCL {P : Program} {w : World} {K : PySem.W.Frag} {mg : Str → Option Value} {base : Heap} {CN cc cda f : Addr} {dV kV doc pm ct oc : Value} {od an : Option Addr} {osl : Array (Option Value)} (S : SupT P K mg CN cc cda "NoPlace.__init__") (hno : PySem.W.findIn K (.ref CN) "place" = some none)
    (lk : K.lookup f = some ⟨oc, od, .func (PySem.W.ksFn "__init__" "NoPlace.__init__" (defArgs sXL) (defBody sXL) (defScope sXL) dV kV doc pm an (.ref cda) ct cc), osl⟩) :
    FnOk P w K mg base CX0 1 f (PySem.W.ksFn "__init__" "NoPlace.__init__" (defArgs sXL) (defBody sXL) (defScope sXL) dV kV doc pm an (.ref cda) ct cc) ["self", "place"] (spSup CN "place") :=
  ok_sup (x := "place") S hno lk rfl rfl (by decide +kernel) (by decide +kernel) rfl rfl rfl rfl rfl (by decide +kernel) rfl rfl (fun _ => rfl) (fun _ => rfl) (fun _ => rfl) (fun _ => rfl)
theorem ok_excCU {P : Program} {w : World} {K : PySem.W.Frag} {mg : Str → Option Value} {base : Heap} {CN cc cda f : Addr} {dV kV doc pm ct oc : Value} {od an : Option Addr} {osl : Array (Option Value)} (S : SupT P K mg CN cc cda "Used.__init__") (hno : PySem.W.findIn K (.ref CN) "place" = some none)
    (lk : K.lookup f = some ⟨oc, od, .func (PySem.W.ksFn "__init__" "Used.__init__" (defArgs sXU) (defBody sXU) (defScope sXU) dV kV doc pm an (.ref cda) ct cc), osl⟩) :
    FnOk P w K mg base CX0 1 f (PySem.W.ksFn "__init__" "Used.__init__" (defArgs sXU) (defBody sXU) (defScope sXU) dV kV doc pm an (.ref cda) ct cc) ["self", "place"] (spSup CN "place") :=
  ok_sup (x := "place") S hno lk rfl rfl (by decide +kernel) (by decide +kernel) rfl rfl rfl rfl rfl (by decide +kernel) rfl rfl (fun _ => rfl) (fun _ => rfl) (fun _ => rfl) (fun _ => rfl)
theorem all_mk {l : PySem.W.OpenLaw} {w : World} {K : PySem.W.Frag} {h : Heap} {mg : Str → Option Value} {fa : Addr} (X : K.In h) (G : h.Ns mainGlobals mg) (hfa : mg "law" = some (.ref fa))
    {tPL : Tok} {tLE : Tok} {tML : Tok} {tMC : Tok} {C : Addr} {fII : Addr} {odII anII : Option Addr} {slII : Array (Option Value)} {ocII kVII dcII pmII ctII : Value} {cdII : Value} {fIP : Addr} {odIP anIP : Option Addr} {slIP : Array (Option Value)} {ocIP kVIP dcIP pmIP ctIP : Value} {cdIP : Value} {fIS : Addr} {odIS anIS : Option Addr} {slIS : Array (Option Value)} {ocIS kVIS dcIS pmIS ctIS : Value} {cdIS : Value} {fNS : Addr} {odNS anNS : Option Addr} {slNS : Array (Option Value)} {ocNS kVNS dcNS pmNS ctNS : Value} {cdNS : Value} {fNa : Addr} {odNa anNa : Option Addr} {slNa : Array (Option Value)} {ocNa kVNa dcNa pmNa ctNa : Value} {cdNa : Value} {fNN : Addr} {odNN anNN : Option Addr} {slNN : Array (Option Value)} {ocNN kVNN dcNN pmNN ctNN : Value} {cdNN : Value} {fIC : Addr} {odIC anIC : Option Addr} {slIC : Array (Option Value)} {ocIC kVIC dcIC pmIC ctIC : Value} {cdIC : Value} {fNC : Addr} {odNC anNC : Option Addr} {slNC : Array (Option Value)} {ocNC kVNC dcNC pmNC ctNC : Value} {cdNC : Value} {fSt : Addr} {odSt anSt : Option Addr} {slSt : Array (Option Value)} {ocSt kVSt dcSt pmSt ctSt : Value} {cdSt : Value} {fDr : Addr} {odDr anDr : Option Addr} {slDr : Array (Option Value)} {ocDr kVDr dcDr pmDr ctDr : Value} {cdDr : Value} {fRe : Addr} {odRe anRe : Option Addr} {slRe : Array (Option Value)} {ocRe kVRe dcRe pmRe ctRe : Value} {cdRe : Value} {c1 P1 : Addr} {oc_1 : Value} {od_1 : Option Addr} {vs_1 : Array Value} {sl_1 : Array (Option Value)} {fLa : Addr} {odLa anLa : Option Addr} {slLa : Array (Option Value)} {ocLa kVLa dcLa pmLa ctLa : Value} {fIn : Addr} {odIn anIn : Option Addr} {slIn : Array (Option Value)} {ocIn kVIn dcIn pmIn ctIn : Value} {cdIn : Value} {fEq : Addr} {odEq anEq : Option Addr} {slEq : Array (Option Value)} {ocEq kVEq dcEq pmEq ctEq : Value} {cdEq : Value} {fIns : Addr} {odIns anIns : Option Addr} {slIns : Array (Option Value)} {ocIns kVIns dcIns pmIns ctIns : Value} {cdIns : Value} {fAdd : Addr} {odAdd anAdd : Option Addr} {slAdd : Array (Option Value)} {ocAdd kVAdd dcAdd pmAdd ctAdd : Value} {cdAdd : Value} {fDro : Addr} {odDro anDro : Option Addr} {slDro : Array (Option Value)} {ocDro kVDro dcDro pmDro ctDro : Value} {cdDro : Value} {fMap : Addr} {odMap anMap : Option Addr} {slMap : Array (Option Value)} {ocMap kVMap dcMap pmMap ctMap : Value} {cdMap : Value} {fNF : Addr} {odNF anNF : Option Addr} {slNF : Array (Option Value)} {ocNF kVNF dcNF pmNF ctNF : Value} {cdNF : Value} {fUnm : Addr} {odUnm anUnm : Option Addr} {slUnm : Array (Option Value)} {ocUnm kVUnm dcUnm pmUnm ctUnm : Value} {cdUnm : Value} {fFor : Addr} {odFor anFor : Option Addr} {slFor : Array (Option Value)} {ocFor kVFor dcFor pmFor ctFor : Value} {cdFor : Value} {fMov : Addr} {odMov anMov : Option Addr} {slMov : Array (Option Value)} {ocMov kVMov dcMov pmMov ctMov : Value} {cdMov : Value} {fNPl : Addr} {odNPl anNPl : Option Addr} {slNPl : Array (Option Value)} {ocNPl kVNPl dcNPl pmNPl ctNPl : Value} {cdNPl : Value} {fWri : Addr} {odWri anWri : Option Addr} {slWri : Array (Option Value)} {ocWri kVWri dcWri pmWri ctWri : Value} {cdWri : Value} {fRea : Addr} {odRea anRea : Option Addr} {slRea : Array (Option Value)} {ocRea kVRea dcRea pmRea ctRea : Value} {cdRea : Value} {fSpa : Addr} {odSpa anSpa : Option Addr} {slSpa : Array (Option Value)} {ocSpa kVSpa dcSpa pmSpa ctSpa : Value} {cdSpa : Value} {fPla : Addr} {odPla anPla : Option Addr} {slPla : Array (Option Value)} {ocPla kVPla dcPla pmPla ctPla : Value} {cdPla : Value} {CBN : Addr} {CB : Addr} {CV : Addr} {CM : Addr} {CS : Addr} {nmCS qnCS : Str} {NNCS : Addr} {bsCS bmCS : List Value} {snCS : List Str} {subCS : List Value} {abCS : Bool} {colCS : Option Bool} {ddCS : Option Addr} {k0CS k1CS k2CS k3CS k5CS : Option Value} {ccCS cdaCS : Addr} {fICS : Addr} {ocICS kVCS dcCS pmCS ctCS : Value} {odICS anCS : Option Addr} {slICS : Array (Option Value)} {occCS : Value} {odcCS : Option Addr} {vsCS : Array Value} {slcCS : Array (Option Value)} {fileCS : Str} {tfCS : Tok} {clCS : Value} {cldCS : Option Addr} {cslCS : Array (Option Value)} {cdCCS : ClassData} {CT : Addr} {nmCT qnCT : Str} {NNCT : Addr} {bsCT bmCT : List Value} {snCT : List Str} {subCT : List Value} {abCT : Bool} {colCT : Option Bool} {ddCT : Option Addr} {k0CT k1CT k2CT k3CT k5CT : Option Value} {ccCT cdaCT : Addr} {fICT : Addr} {ocICT kVCT dcCT pmCT ctCT : Value} {odICT anCT : Option Addr} {slICT : Array (Option Value)} {occCT : Value} {odcCT : Option Addr} {vsCT : Array Value} {slcCT : Array (Option Value)} {fileCT : Str} {tfCT : Tok} {clCT : Value} {cldCT : Option Addr} {cslCT : Array (Option Value)} {cdCCT : ClassData} {CL : Addr} {nmCL qnCL : Str} {NNCL : Addr} {bsCL bmCL : List Value} {snCL : List Str} {subCL : List Value} {abCL : Bool} {colCL : Option Bool} {ddCL : Option Addr} {k0CL k1CL k2CL k3CL k5CL : Option Value} {ccCL cdaCL : Addr} {fICL : Addr} {ocICL kVCL dcCL pmCL ctCL : Value} {odICL anCL : Option Addr} {slICL : Array (Option Value)} {occCL : Value} {odcCL : Option Addr} {vsCL : Array Value} {slcCL : Array (Option Value)} {fileCL : Str} {tfCL : Tok} {clCL : Value} {cldCL : Option Addr} {cslCL : Array (Option Value)} {cdCCL : ClassData} {CU : Addr} {nmCU qnCU : Str} {NNCU : Addr} {bsCU bmCU : List Value} {snCU : List Str} {subCU : List Value} {abCU : Bool} {colCU : Option Bool} {ddCU : Option Addr} {k0CU k1CU k2CU k3CU k5CU : Option Value} {ccCU cdaCU : Addr} {fICU : Addr} {ocICU kVCU dcCU pmCU ctCU : Value} {odICU anCU : Option Addr} {slICU : Array (Option Value)} {occCU : Value} {odcCU : Option Addr} {vsCU : Array Value} {slcCU : Array (Option Value)} {fileCU : Str} {tfCU : Tok} {clCU : Value} {cldCU : Option Addr} {cslCU : Array (Option Value)} {cdCCU : ClassData}
    (zint : PySem.W.nsIn K mainGlobals "int" = some none)
    (zlen : PySem.W.nsIn K mainGlobals "len" = some none)
    (zabs : PySem.W.nsIn K mainGlobals "abs" = some none)
    (zisinstance : PySem.W.nsIn K mainGlobals "isinstance" = some none)
    (zbool : PySem.W.nsIn K mainGlobals "bool" = some none)
    (zstr : PySem.W.nsIn K mainGlobals "str" = some none)
    (zall : PySem.W.nsIn K mainGlobals "all" = some none)
    (zrange : PySem.W.nsIn K mainGlobals "range" = some none)
    (zdict : PySem.W.nsIn K mainGlobals "dict" = some none)
    (zsorted : PySem.W.nsIn K mainGlobals "sorted" = some none)
    (zsuper : PySem.W.nsIn K mainGlobals "super" = some none)
    (aPL : PySem.W.nsIn K mainGlobals "PLACES" = some (some (.int 10000 tPL)))
    (aLE : PySem.W.nsIn K mainGlobals "LETTERS" = some (some (.str LET tLE)))
    (aML : PySem.W.nsIn K mainGlobals "MOST_LETTERS" = some (some (.int 8 tML)))
    (aMC : PySem.W.nsIn K mainGlobals "MOST_CONTENTS" = some (some (.int 1000000 tMC)))
    (aC : PySem.W.nsIn K mainGlobals "Plain" = some (some (.ref C)))
    (aII : PySem.W.nsIn K mainGlobals "is_integer" = some (some (.ref fII)))
    (lII : K.lookup fII = some ⟨ocII, odII, .func (PySem.W.fnOf "is_integer" "is_integer" (defArgs sIsInt) (defBody sIsInt) (defScope sIsInt) .none kVII dcII pmII anII cdII ctII), slII⟩)
    (cII : PySem.W.codeIn K cdII "is_integer" = true)
    (kII : PySem.W.keepIn K (.ref fII) = true)
    (aIP : PySem.W.nsIn K mainGlobals "is_place" = some (some (.ref fIP)))
    (lIP : K.lookup fIP = some ⟨ocIP, odIP, .func (PySem.W.fnOf "is_place" "is_place" (defArgs sIsPlace) (defBody sIsPlace) (defScope sIsPlace) .none kVIP dcIP pmIP anIP cdIP ctIP), slIP⟩)
    (cIP : PySem.W.codeIn K cdIP "is_place" = true)
    (kIP : PySem.W.keepIn K (.ref fIP) = true)
    (aIS : PySem.W.nsIn K mainGlobals "is_stretch" = some (some (.ref fIS)))
    (lIS : K.lookup fIS = some ⟨ocIS, odIS, .func (PySem.W.fnOf "is_stretch" "is_stretch" (defArgs sIsStretch) (defBody sIsStretch) (defScope sIsStretch) .none kVIS dcIS pmIS anIS cdIS ctIS), slIS⟩)
    (cIS : PySem.W.codeIn K cdIS "is_stretch" = true)
    (kIS : PySem.W.keepIn K (.ref fIS) = true)
    (aNS : PySem.W.nsIn K mainGlobals "need_stretch" = some (some (.ref fNS)))
    (lNS : K.lookup fNS = some ⟨ocNS, odNS, .func (PySem.W.fnOf "need_stretch" "need_stretch" (defArgs sNeed) (defBody sNeed) (defScope sNeed) .none kVNS dcNS pmNS anNS cdNS ctNS), slNS⟩)
    (cNS : PySem.W.codeIn K cdNS "need_stretch" = true)
    (kNS : PySem.W.keepIn K (.ref fNS) = true)
    (aNa : PySem.W.nsIn K mainGlobals "is_name" = some (some (.ref fNa)))
    (lNa : K.lookup fNa = some ⟨ocNa, odNa, .func (PySem.W.fnOf "is_name" "is_name" (defArgs sName) (defBody sName) (defScope sName) .none kVNa dcNa pmNa anNa cdNa ctNa), slNa⟩)
    (cNa : PySem.W.codeIn K cdNa "is_name" = true)
    (kNa : PySem.W.keepIn K (.ref fNa) = true)
    (aNN : PySem.W.nsIn K mainGlobals "need_new" = some (some (.ref fNN)))
    (lNN : K.lookup fNN = some ⟨ocNN, odNN, .func (PySem.W.fnOf "need_new" "need_new" (defArgs sNew) (defBody sNew) (defScope sNew) .none kVNN dcNN pmNN anNN cdNN ctNN), slNN⟩)
    (cNN : PySem.W.codeIn K cdNN "need_new" = true)
    (kNN : PySem.W.keepIn K (.ref fNN) = true)
    (aIC : PySem.W.nsIn K mainGlobals "is_contents" = some (some (.ref fIC)))
    (lIC : K.lookup fIC = some ⟨ocIC, odIC, .func (PySem.W.fnOf "is_contents" "is_contents" (defArgs sCont) (defBody sCont) (defScope sCont) .none kVIC dcIC pmIC anIC cdIC ctIC), slIC⟩)
    (cIC : PySem.W.codeIn K cdIC "is_contents" = true)
    (kIC : PySem.W.keepIn K (.ref fIC) = true)
    (aNC : PySem.W.nsIn K mainGlobals "need_contents" = some (some (.ref fNC)))
    (lNC : K.lookup fNC = some ⟨ocNC, odNC, .func (PySem.W.fnOf "need_contents" "need_contents" (defArgs sNCont) (defBody sNCont) (defScope sNCont) .none kVNC dcNC pmNC anNC cdNC ctNC), slNC⟩)
    (cNC : PySem.W.codeIn K cdNC "need_contents" = true)
    (kNC : PySem.W.keepIn K (.ref fNC) = true)
    (aSt : PySem.W.nsIn K mainGlobals "_law_state" = some (some (.ref fSt)))
    (lSt : K.lookup fSt = some ⟨ocSt, odSt, .func (PySem.W.fnOf "_law_state" "_law_state" (defArgs sState) (defBody sState) (defScope sState) .none kVSt dcSt pmSt anSt cdSt ctSt), slSt⟩)
    (cSt : PySem.W.codeIn K cdSt "_law_state" = true)
    (kSt : PySem.W.keepIn K (.ref fSt) = true)
    (aDr : PySem.W.nsIn K mainGlobals "_law_draw" = some (some (.ref fDr)))
    (lDr : K.lookup fDr = some ⟨ocDr, odDr, .func (PySem.W.fnOf "_law_draw" "_law_draw" (defArgs sDraw) (defBody sDraw) (defScope sDraw) .none kVDr dcDr pmDr anDr cdDr ctDr), slDr⟩)
    (cDr : PySem.W.codeIn K cdDr "_law_draw" = true)
    (kDr : PySem.W.keepIn K (.ref fDr) = true)
    (aRe : PySem.W.nsIn K mainGlobals "_law_refused" = some (some (.ref fRe)))
    (lRe : K.lookup fRe = some ⟨ocRe, odRe, .func (PySem.W.fnOf "_law_refused" "_law_refused" (defArgs sRef) (defBody sRef) (defScope sRef) .none kVRe dcRe pmRe anRe cdRe ctRe), slRe⟩)
    (cRe : PySem.W.codeIn K cdRe "_law_refused" = true)
    (kRe : PySem.W.keepIn K (.ref fRe) = true)
    (aLa : PySem.W.nsIn K mainGlobals "law" = some (some (.ref fLa)))
    (lLa : K.lookup fLa = some ⟨ocLa, odLa, .func (PySem.W.fnOf "law" "law" (defArgs sLaw) (defBody sLaw) (defScope sLaw) .none kVLa dcLa pmLa anLa (.ref c1) ctLa), slLa⟩)
    (cLa : PySem.W.codeIn K (.ref c1) "law" = true)
    (kLa : PySem.W.keepIn K (.ref fLa) = true)
    (cn : PySem.W.specialIn K (.builtin "object.__class__") "__get__" = some (some (.builtin "getset_descriptor.__get__")))
    (ct : PySem.W.takesIn K (.builtin "object.__class__") = some true)
    (pgC : PySem.W.plainGet K C Str.empty = true)
    (hdC : PySem.W.hasDictIn K C = true)
    (poC : PySem.W.plainOver K C = true)
    (saC : PySem.W.findIn K (.ref C) "__setattr__" = some (some (.builtin "object.__setattr__")))
    (mkC : PySem.W.makesIn K C = true)
    (kC : PySem.W.keepIn K (.ref C) = true)
    (n1C : PySem.W.findIn K (.ref C) "held" = some none)
    (ccC : PySem.W.findIn K (.ref C) "__class__" = some (some (.builtin "object.__class__")))
    (cmC : PySem.W.mroIn K C (.type "object") = some true)
    (aIn : PySem.W.findIn K (.ref C) "__init__" = some (some (.ref fIn)))
    (iIn : PySem.W.isFn K (.ref fIn) = true)
    (lIn : K.lookup fIn = some ⟨ocIn, odIn, .func (PySem.W.fnOf "__init__" "Plain.__init__" (defArgs sPI) (defBody sPI) (defScope sPI) .none kVIn dcIn pmIn anIn cdIn ctIn), slIn⟩)
    (cIn : PySem.W.codeIn K cdIn "Plain.__init__" = true)
    (kIn : PySem.W.keepIn K (.ref fIn) = true)
    (aEq : PySem.W.findIn K (.ref C) "__eq__" = some (some (.ref fEq)))
    (iEq : PySem.W.isFn K (.ref fEq) = true)
    (lEq : K.lookup fEq = some ⟨ocEq, odEq, .func (PySem.W.fnOf "__eq__" "Plain.__eq__" (defArgs sPEq) (defBody sPEq) (defScope sPEq) .none kVEq dcEq pmEq anEq cdEq ctEq), slEq⟩)
    (cEq : PySem.W.codeIn K cdEq "Plain.__eq__" = true)
    (kEq : PySem.W.keepIn K (.ref fEq) = true)
    (aIns : PySem.W.findIn K (.ref C) "inside" = some (some (.ref fIns)))
    (iIns : PySem.W.isFn K (.ref fIns) = true)
    (lIns : K.lookup fIns = some ⟨ocIns, odIns, .func (PySem.W.fnOf "inside" "Plain.inside" (defArgs sIn) (defBody sIn) (defScope sIn) .none kVIns dcIns pmIns anIns cdIns ctIns), slIns⟩)
    (cIns : PySem.W.codeIn K cdIns "Plain.inside" = true)
    (kIns : PySem.W.keepIn K (.ref fIns) = true)
    (aAdd : PySem.W.findIn K (.ref C) "add" = some (some (.ref fAdd)))
    (iAdd : PySem.W.isFn K (.ref fAdd) = true)
    (lAdd : K.lookup fAdd = some ⟨ocAdd, odAdd, .func (PySem.W.fnOf "add" "Plain.add" (defArgs sAdd) (defBody sAdd) (defScope sAdd) .none kVAdd dcAdd pmAdd anAdd cdAdd ctAdd), slAdd⟩)
    (cAdd : PySem.W.codeIn K cdAdd "Plain.add" = true)
    (kAdd : PySem.W.keepIn K (.ref fAdd) = true)
    (aDro : PySem.W.findIn K (.ref C) "drop" = some (some (.ref fDro)))
    (iDro : PySem.W.isFn K (.ref fDro) = true)
    (lDro : K.lookup fDro = some ⟨ocDro, odDro, .func (PySem.W.fnOf "drop" "Plain.drop" (defArgs sDrop) (defBody sDrop) (defScope sDrop) .none kVDro dcDro pmDro anDro cdDro ctDro), slDro⟩)
    (cDro : PySem.W.codeIn K cdDro "Plain.drop" = true)
    (kDro : PySem.W.keepIn K (.ref fDro) = true)
    (aMap : PySem.W.findIn K (.ref C) "map" = some (some (.ref fMap)))
    (iMap : PySem.W.isFn K (.ref fMap) = true)
    (lMap : K.lookup fMap = some ⟨ocMap, odMap, .func (PySem.W.fnOf "map" "Plain.map" (defArgs sMap) (defBody sMap) (defScope sMap) .none kVMap dcMap pmMap anMap cdMap ctMap), slMap⟩)
    (cMap : PySem.W.codeIn K cdMap "Plain.map" = true)
    (kMap : PySem.W.keepIn K (.ref fMap) = true)
    (aNF : PySem.W.findIn K (.ref C) "need_free" = some (some (.ref fNF)))
    (iNF : PySem.W.isFn K (.ref fNF) = true)
    (lNF : K.lookup fNF = some ⟨ocNF, odNF, .func (PySem.W.fnOf "need_free" "Plain.need_free" (defArgs sNF) (defBody sNF) (defScope sNF) .none kVNF dcNF pmNF anNF cdNF ctNF), slNF⟩)
    (cNF : PySem.W.codeIn K cdNF "Plain.need_free" = true)
    (kNF : PySem.W.keepIn K (.ref fNF) = true)
    (aUnm : PySem.W.findIn K (.ref C) "unmap" = some (some (.ref fUnm)))
    (iUnm : PySem.W.isFn K (.ref fUnm) = true)
    (lUnm : K.lookup fUnm = some ⟨ocUnm, odUnm, .func (PySem.W.fnOf "unmap" "Plain.unmap" (defArgs sUnmap) (defBody sUnmap) (defScope sUnmap) .none kVUnm dcUnm pmUnm anUnm cdUnm ctUnm), slUnm⟩)
    (cUnm : PySem.W.codeIn K cdUnm "Plain.unmap" = true)
    (kUnm : PySem.W.keepIn K (.ref fUnm) = true)
    (aFor : PySem.W.findIn K (.ref C) "fork" = some (some (.ref fFor)))
    (iFor : PySem.W.isFn K (.ref fFor) = true)
    (lFor : K.lookup fFor = some ⟨ocFor, odFor, .func (PySem.W.fnOf "fork" "Plain.fork" (defArgs sFork) (defBody sFork) (defScope sFork) .none kVFor dcFor pmFor anFor cdFor ctFor), slFor⟩)
    (cFor : PySem.W.codeIn K cdFor "Plain.fork" = true)
    (kFor : PySem.W.keepIn K (.ref fFor) = true)
    (aMov : PySem.W.findIn K (.ref C) "move" = some (some (.ref fMov)))
    (iMov : PySem.W.isFn K (.ref fMov) = true)
    (lMov : K.lookup fMov = some ⟨ocMov, odMov, .func (PySem.W.fnOf "move" "Plain.move" (defArgs sMove) (defBody sMove) (defScope sMove) .none kVMov dcMov pmMov anMov cdMov ctMov), slMov⟩)
    (cMov : PySem.W.codeIn K cdMov "Plain.move" = true)
    (kMov : PySem.W.keepIn K (.ref fMov) = true)
    (aNPl : PySem.W.findIn K (.ref C) "need_place" = some (some (.ref fNPl)))
    (iNPl : PySem.W.isFn K (.ref fNPl) = true)
    (lNPl : K.lookup fNPl = some ⟨ocNPl, odNPl, .func (PySem.W.fnOf "need_place" "Plain.need_place" (defArgs sNP) (defBody sNP) (defScope sNP) .none kVNPl dcNPl pmNPl anNPl cdNPl ctNPl), slNPl⟩)
    (cNPl : PySem.W.codeIn K cdNPl "Plain.need_place" = true)
    (kNPl : PySem.W.keepIn K (.ref fNPl) = true)
    (aWri : PySem.W.findIn K (.ref C) "write" = some (some (.ref fWri)))
    (iWri : PySem.W.isFn K (.ref fWri) = true)
    (lWri : K.lookup fWri = some ⟨ocWri, odWri, .func (PySem.W.fnOf "write" "Plain.write" (defArgs sWrite) (defBody sWrite) (defScope sWrite) .none kVWri dcWri pmWri anWri cdWri ctWri), slWri⟩)
    (cWri : PySem.W.codeIn K cdWri "Plain.write" = true)
    (kWri : PySem.W.keepIn K (.ref fWri) = true)
    (aRea : PySem.W.findIn K (.ref C) "read" = some (some (.ref fRea)))
    (iRea : PySem.W.isFn K (.ref fRea) = true)
    (lRea : K.lookup fRea = some ⟨ocRea, odRea, .func (PySem.W.fnOf "read" "Plain.read" (defArgs sRead) (defBody sRead) (defScope sRead) .none kVRea dcRea pmRea anRea cdRea ctRea), slRea⟩)
    (cRea : PySem.W.codeIn K cdRea "Plain.read" = true)
    (kRea : PySem.W.keepIn K (.ref fRea) = true)
    (aSpa : PySem.W.findIn K (.ref C) "spaces" = some (some (.ref fSpa)))
    (iSpa : PySem.W.isFn K (.ref fSpa) = true)
    (lSpa : K.lookup fSpa = some ⟨ocSpa, odSpa, .func (PySem.W.fnOf "spaces" "Plain.spaces" (defArgs sSpaces) (defBody sSpaces) (defScope sSpaces) .none kVSpa dcSpa pmSpa anSpa cdSpa ctSpa), slSpa⟩)
    (cSpa : PySem.W.codeIn K cdSpa "Plain.spaces" = true)
    (kSpa : PySem.W.keepIn K (.ref fSpa) = true)
    (aPla : PySem.W.findIn K (.ref C) "places" = some (some (.ref fPla)))
    (iPla : PySem.W.isFn K (.ref fPla) = true)
    (lPla : K.lookup fPla = some ⟨ocPla, odPla, .func (PySem.W.fnOf "places" "Plain.places" (defArgs sPlaces) (defBody sPlaces) (defScope sPlaces) .none kVPla dcPla pmPla anPla cdPla ctPla), slPla⟩)
    (cPla : PySem.W.codeIn K cdPla "Plain.places" = true)
    (kPla : PySem.W.keepIn K (.ref fPla) = true)
    (aCBN : PySem.W.nsIn K mainGlobals "BadName" = some (some (.ref CBN)))
    (kCBN : PySem.W.keepIn K (.ref CBN) = true)
    (bCBN : PySem.W.subIn K (.ref CBN) (.type "BaseException") = some true)
    (tCBN : PySem.W.typeIn K (.ref CBN) = some (.type "type"))
    (xCBN : PySem.W.excIn K CBN [.type "ValueError", .type "Exception", .type "BaseException", .type "object"] "ValueError.__new__" = true)
    (aCB : PySem.W.nsIn K mainGlobals "BadArea" = some (some (.ref CB)))
    (kCB : PySem.W.keepIn K (.ref CB) = true)
    (bCB : PySem.W.subIn K (.ref CB) (.type "BaseException") = some true)
    (tCB : PySem.W.typeIn K (.ref CB) = some (.type "type"))
    (xCB : PySem.W.excIn K CB [.type "ValueError", .type "Exception", .type "BaseException", .type "object"] "ValueError.__new__" = true)
    (aCV : PySem.W.nsIn K mainGlobals "BadValue" = some (some (.ref CV)))
    (kCV : PySem.W.keepIn K (.ref CV) = true)
    (bCV : PySem.W.subIn K (.ref CV) (.type "BaseException") = some true)
    (tCV : PySem.W.typeIn K (.ref CV) = some (.type "type"))
    (xCV : PySem.W.excIn K CV [.type "ValueError", .type "Exception", .type "BaseException", .type "object"] "ValueError.__new__" = true)
    (aCM : PySem.W.nsIn K mainGlobals "MapError" = some (some (.ref CM)))
    (mB : PySem.W.subIn K (.ref CM) (.type "BaseException") = some true)
    (mD : PySem.W.hasDictIn K CM = true)
    (mT : PySem.W.typeIn K (.ref CM) = some (.type "type"))
    (aCS : PySem.W.nsIn K mainGlobals "NoSpace" = some (some (.ref CS)))
    (kCS : PySem.W.keepIn K (.ref CS) = true)
    (bCS : PySem.W.subIn K (.ref CS) (.type "BaseException") = some true)
    (tCS : PySem.W.typeIn K (.ref CS) = some (.type "type"))
    (lCS : K.lookup CS = some (excClassObj nmCS qnCS CS NNCS bsCS bmCS true snCS subCS abCS colCS ddCS k0CS k1CS k2CS k3CS k5CS "ValueError.__new__"))
    (rvCS : PySem.HandSPX.refsVE bmCS = true)
    (saCS : PySem.W.findIn K (.ref CS) "__setattr__" = some (some (.builtin "object.__setattr__")))
    (iiCS : PySem.W.excInitIn K CS [.type "ValueError", .type "Exception", .type "BaseException", .type "object"] "ValueError.__new__" = true)
    (noCS : PySem.W.findIn K (.ref CS) "name" = some none)
    (aiCS : PySem.W.findIn K (.ref CS) "__init__" = some (some (.ref fICS)))
    (tiCS : PySem.W.typeIn K (.ref fICS) = some (.type "function"))
    (liCS : K.lookup fICS = some ⟨ocICS, odICS, .func (PySem.W.ksFn "__init__" "NoSpace.__init__" (defArgs sXS) (defBody sXS) (defScope sXS) .none kVCS dcCS pmCS anCS (.ref cdaCS) ctCS ccCS), slICS⟩)
    (ciCS : PySem.W.codeIn K (.ref cdaCS) "NoSpace.__init__" = true)
    (lcdCS : K.lookup cdaCS = some ⟨occCS, odcCS, .fields vsCS, slcCS⟩)
    (v2CS : vsCS[2]? = some (.str fileCS tfCS))
    (fiCS : ((l.prog.main.file : Str) == fileCS) = true)
    (lccCS : K.lookup ccCS = some ⟨clCS, cldCS, .cell (some (.ref CS)), cslCS⟩)
    (clsCS : PySem.W.clsIn K CS = some cdCCS)
    (supCS : PySem.W.ks_superIn K CS CS "__init__" = some (some (.builtin "ValueError.__init__")))
    (sveCS : PySem.W.subIn K (.ref CS) (.type "ValueError") = some true)
    (mroCS : PySem.W.mroIn K CS (.ref CS) = some true)
    (opq : PySem.W.nsIn K cStatics "thirdparty.any" = some none)
    (topS : (l.prog.main.scope.names.lookup ("super" : Str)).isSome = false)
    (aCT : PySem.W.nsIn K mainGlobals "Taken" = some (some (.ref CT)))
    (kCT : PySem.W.keepIn K (.ref CT) = true)
    (bCT : PySem.W.subIn K (.ref CT) (.type "BaseException") = some true)
    (tCT : PySem.W.typeIn K (.ref CT) = some (.type "type"))
    (lCT : K.lookup CT = some (excClassObj nmCT qnCT CT NNCT bsCT bmCT true snCT subCT abCT colCT ddCT k0CT k1CT k2CT k3CT k5CT "ValueError.__new__"))
    (rvCT : PySem.HandSPX.refsVE bmCT = true)
    (saCT : PySem.W.findIn K (.ref CT) "__setattr__" = some (some (.builtin "object.__setattr__")))
    (iiCT : PySem.W.excInitIn K CT [.type "ValueError", .type "Exception", .type "BaseException", .type "object"] "ValueError.__new__" = true)
    (noCT : PySem.W.findIn K (.ref CT) "name" = some none)
    (aiCT : PySem.W.findIn K (.ref CT) "__init__" = some (some (.ref fICT)))
    (tiCT : PySem.W.typeIn K (.ref fICT) = some (.type "function"))
    (liCT : K.lookup fICT = some ⟨ocICT, odICT, .func (PySem.W.ksFn "__init__" "Taken.__init__" (defArgs sXT) (defBody sXT) (defScope sXT) .none kVCT dcCT pmCT anCT (.ref cdaCT) ctCT ccCT), slICT⟩)
    (ciCT : PySem.W.codeIn K (.ref cdaCT) "Taken.__init__" = true)
    (lcdCT : K.lookup cdaCT = some ⟨occCT, odcCT, .fields vsCT, slcCT⟩)
    (v2CT : vsCT[2]? = some (.str fileCT tfCT))
    (fiCT : ((l.prog.main.file : Str) == fileCT) = true)
    (lccCT : K.lookup ccCT = some ⟨clCT, cldCT, .cell (some (.ref CT)), cslCT⟩)
    (clsCT : PySem.W.clsIn K CT = some cdCCT)
    (supCT : PySem.W.ks_superIn K CT CT "__init__" = some (some (.builtin "ValueError.__init__")))
    (sveCT : PySem.W.subIn K (.ref CT) (.type "ValueError") = some true)
    (mroCT : PySem.W.mroIn K CT (.ref CT) = some true)
    (aCL : PySem.W.nsIn K mainGlobals "NoPlace" = some (some (.ref CL)))
    (kCL : PySem.W.keepIn K (.ref CL) = true)
    (bCL : PySem.W.subIn K (.ref CL) (.type "BaseException") = some true)
    (tCL : PySem.W.typeIn K (.ref CL) = some (.type "type"))
    (lCL : K.lookup CL = some (excClassObj nmCL qnCL CL NNCL bsCL bmCL true snCL subCL abCL colCL ddCL k0CL k1CL k2CL k3CL k5CL "ValueError.__new__"))
    (rvCL : PySem.HandSPX.refsVE bmCL = true)
    (saCL : PySem.W.findIn K (.ref CL) "__setattr__" = some (some (.builtin "object.__setattr__")))
    (iiCL : PySem.W.excInitIn K CL [.type "ValueError", .type "Exception", .type "BaseException", .type "object"] "ValueError.__new__" = true)
    (noCL : PySem.W.findIn K (.ref CL) "place" = some none)
    (aiCL : PySem.W.findIn K (.ref CL) "__init__" = some (some (.ref fICL)))
    (tiCL : PySem.W.typeIn K (.ref fICL) = some (.type "function"))
    (liCL : K.lookup fICL = some ⟨ocICL, odICL, .func (PySem.W.ksFn "__init__" "NoPlace.__init__" (defArgs sXL) (defBody sXL) (defScope sXL) .none kVCL dcCL pmCL anCL (.ref cdaCL) ctCL ccCL), slICL⟩)
    (ciCL : PySem.W.codeIn K (.ref cdaCL) "NoPlace.__init__" = true)
    (lcdCL : K.lookup cdaCL = some ⟨occCL, odcCL, .fields vsCL, slcCL⟩)
    (v2CL : vsCL[2]? = some (.str fileCL tfCL))
    (fiCL : ((l.prog.main.file : Str) == fileCL) = true)
    (lccCL : K.lookup ccCL = some ⟨clCL, cldCL, .cell (some (.ref CL)), cslCL⟩)
    (clsCL : PySem.W.clsIn K CL = some cdCCL)
    (supCL : PySem.W.ks_superIn K CL CL "__init__" = some (some (.builtin "ValueError.__init__")))
    (sveCL : PySem.W.subIn K (.ref CL) (.type "ValueError") = some true)
    (mroCL : PySem.W.mroIn K CL (.ref CL) = some true)
    (aCU : PySem.W.nsIn K mainGlobals "Used" = some (some (.ref CU)))
    (kCU : PySem.W.keepIn K (.ref CU) = true)
    (bCU : PySem.W.subIn K (.ref CU) (.type "BaseException") = some true)
    (tCU : PySem.W.typeIn K (.ref CU) = some (.type "type"))
    (lCU : K.lookup CU = some (excClassObj nmCU qnCU CU NNCU bsCU bmCU true snCU subCU abCU colCU ddCU k0CU k1CU k2CU k3CU k5CU "ValueError.__new__"))
    (rvCU : PySem.HandSPX.refsVE bmCU = true)
    (saCU : PySem.W.findIn K (.ref CU) "__setattr__" = some (some (.builtin "object.__setattr__")))
    (iiCU : PySem.W.excInitIn K CU [.type "ValueError", .type "Exception", .type "BaseException", .type "object"] "ValueError.__new__" = true)
    (noCU : PySem.W.findIn K (.ref CU) "place" = some none)
    (aiCU : PySem.W.findIn K (.ref CU) "__init__" = some (some (.ref fICU)))
    (tiCU : PySem.W.typeIn K (.ref fICU) = some (.type "function"))
    (liCU : K.lookup fICU = some ⟨ocICU, odICU, .func (PySem.W.ksFn "__init__" "Used.__init__" (defArgs sXU) (defBody sXU) (defScope sXU) .none kVCU dcCU pmCU anCU (.ref cdaCU) ctCU ccCU), slICU⟩)
    (ciCU : PySem.W.codeIn K (.ref cdaCU) "Used.__init__" = true)
    (lcdCU : K.lookup cdaCU = some ⟨occCU, odcCU, .fields vsCU, slcCU⟩)
    (v2CU : vsCU[2]? = some (.str fileCU tfCU))
    (fiCU : ((l.prog.main.file : Str) == fileCU) = true)
    (lccCU : K.lookup ccCU = some ⟨clCU, cldCU, .cell (some (.ref CU)), cslCU⟩)
    (clsCU : PySem.W.clsIn K CU = some cdCCU)
    (supCU : PySem.W.ks_superIn K CU CU "__init__" = some (some (.builtin "ValueError.__init__")))
    (sveCU : PySem.W.subIn K (.ref CU) (.type "ValueError") = some true)
    (mroCU : PySem.W.mroIn K CU (.ref CU) = some true)
    (egCL : PySem.W.findIn K (.ref CL) "__getattribute__" = some (some (.builtin "BaseException.__getattribute__")))
    (ehCL : PySem.W.findIn K (.ref CL) "__getattr__" = some none)
    (edCL : PySem.W.hasDictIn K CL = true)
    (ecCL : PySem.W.findIn K (.ref CL) "__class__" = some (some (.builtin "object.__class__")))
    (emCL : PySem.W.mroIn K CL (.type "object") = some true)
    (mSCL : PySem.W.subIn K (.ref CL) (.ref CM) = some true)
    (lc1 : K.lookup c1 = some ⟨oc_1, od_1, .fields vs_1, sl_1⟩)
    (h11_1 : vs_1[11]? = some (.ref P1))
    (cT1 : PySem.W.codeHdIn K c1 P1 = true)
    (lP_1 : K.lookup P1 = none)
    (tT1 : h.get? P1 = some { cls := .none, data := .fields #[] }) : LawG l w K CX0 8 63 "_law_script" mg fa h := by
  have e := hfa.symm.trans (PySem.W.mg_of X G aLa)
  cases e
  let T : List (Addr × Str) := [(P1, ("law" : Str) ++ ".<locals>." ++ "<lambda>")]
  refine ⟨PySem.W.fnOf "law" "law" (defArgs sLaw) (defBody sLaw) (defScope sLaw) .none kVLa dcLa pmLa anLa (.ref c1) ctLa, [(c1, P1)], spLaw K T, fun p hp => ?_, fun p hp => ?_, fun p hp => ?_, fun s v => ?_, fun H a ns hl hH hS => ⟨a, ns, rfl, hS, hl, ?_, fun _ => rfl⟩, fun base kb hb hTB => ?_⟩
  · simp only [List.mem_cons, List.not_mem_nil, or_false] at hp
    rcases hp with rfl
    · exact tT1
  · simp only [List.mem_cons, List.not_mem_nil, or_false] at hp
    rcases hp with rfl
    · exact lP_1
  · simp only [List.mem_cons, List.not_mem_nil, or_false] at hp
    rcases hp with rfl
    · exact PySem.W.codeHd_of_K X cT1
  · exact .of_eq rfl
  · intro p hp
    simp only [T, List.mem_cons, List.not_mem_nil, or_false] at hp
    rcases hp with rfl
    · exact TabS.nil (hH (c1, P1) (by simp))
  · have int_ := PySem.W.mg_none_of X G zint
    have len_ := PySem.W.mg_none_of X G zlen
    have abs_ := PySem.W.mg_none_of X G zabs
    have isinstance_ := PySem.W.mg_none_of X G zisinstance
    have bool_ := PySem.W.mg_none_of X G zbool
    have str_ := PySem.W.mg_none_of X G zstr
    have all_ := PySem.W.mg_none_of X G zall
    have range_ := PySem.W.mg_none_of X G zrange
    have dict_ := PySem.W.mg_none_of X G zdict
    have sorted_ := PySem.W.mg_none_of X G zsorted
    have super_ := PySem.W.mg_none_of X G zsuper
    have gPL := PySem.W.mg_of X G aPL
    have gLE := PySem.W.mg_of X G aLE
    have gML := PySem.W.mg_of X G aML
    have gMC := PySem.W.mg_of X G aMC
    have gC := PySem.W.mg_of X G aC
    have FII := fun_mk (st := sIsInt) lII cII kII
    have bII := FII.binds (ps := ["value"]) fun _ _ _ _ _ _ us hl => match us, hl with | [_], _ => rfl
    have mII := PySem.W.mg_of X G aII
    have FIP := fun_mk (st := sIsPlace) lIP cIP kIP
    have bIP := FIP.binds (ps := ["value"]) fun _ _ _ _ _ _ us hl => match us, hl with | [_], _ => rfl
    have mIP := PySem.W.mg_of X G aIP
    have FIS := fun_mk (st := sIsStretch) lIS cIS kIS
    have bIS := FIS.binds (ps := ["begin", "many"]) fun _ _ _ _ _ _ us hl => match us, hl with | [_, _], _ => rfl
    have mIS := PySem.W.mg_of X G aIS
    have FNS := fun_mk (st := sNeed) lNS cNS kNS
    have bNS := FNS.binds (ps := ["begin", "many"]) fun _ _ _ _ _ _ us hl => match us, hl with | [_, _], _ => rfl
    have mNS := PySem.W.mg_of X G aNS
    have FNa := fun_mk (st := sName) lNa cNa kNa
    have bNa := FNa.binds (ps := ["value"]) fun _ _ _ _ _ _ us hl => match us, hl with | [_], _ => rfl
    have mNa := PySem.W.mg_of X G aNa
    have FNN := fun_mk (st := sNew) lNN cNN kNN
    have bNN := FNN.binds (ps := ["spaces", "name"]) fun _ _ _ _ _ _ us hl => match us, hl with | [_, _], _ => rfl
    have mNN := PySem.W.mg_of X G aNN
    have FIC := fun_mk (st := sCont) lIC cIC kIC
    have bIC := FIC.binds (ps := ["value"]) fun _ _ _ _ _ _ us hl => match us, hl with | [_], _ => rfl
    have mIC := PySem.W.mg_of X G aIC
    have FNC := fun_mk (st := sNCont) lNC cNC kNC
    have bNC := FNC.binds (ps := ["value"]) fun _ _ _ _ _ _ us hl => match us, hl with | [_], _ => rfl
    have mNC := PySem.W.mg_of X G aNC
    have FSt := fun_mk (st := sState) lSt cSt kSt
    have bSt := FSt.binds (ps := ["_law_script"]) fun _ _ _ _ _ _ us hl => match us, hl with | [_], _ => rfl
    have mSt := PySem.W.mg_of X G aSt
    have FDr := fun_mk (st := sDraw) lDr cDr kDr
    have bDr := FDr.binds (ps := ["_law_draw_here", "_law_below"]) fun _ _ _ _ _ _ us hl => match us, hl with | [_, _], _ => rfl
    have mDr := PySem.W.mg_of X G aDr
    have FRe := fun_mk (st := sRef) lRe cRe kRe
    have bRe := FRe.binds (ps := ["_law_work"]) fun _ _ _ _ _ _ us hl => match us, hl with | [_], _ => rfl
    have mRe := PySem.W.mg_of X G aRe
    have FLa := fun_mk (st := sLaw) lLa cLa kLa
    have bLa := FLa.binds (ps := ["_law_script"]) fun _ _ _ _ _ _ us hl => match us, hl with | [_], _ => rfl
    have mLa := PySem.W.mg_of X G aLa
    have clC : Cls K C := ⟨pgC, hdC, poC, saC⟩
    have FIn := fun_mk (st := sPI) lIn cIn kIn
    have bIn := FIn.binds (ps := ["self"]) fun _ _ _ _ _ _ us hl => match us, hl with | [_], _ => rfl
    have mmIn : Meth K C "__init__" fIn := ⟨aIn, iIn, kIn⟩
    have FEq := fun_mk (st := sPEq) lEq cEq kEq
    have bEq := FEq.binds (ps := ["self", "other"]) fun _ _ _ _ _ _ us hl => match us, hl with | [_, _], _ => rfl
    have mmEq : Meth K C "__eq__" fEq := ⟨aEq, iEq, kEq⟩
    have FIns := fun_mk (st := sIn) lIns cIns kIns
    have bIns := FIns.binds (ps := ["self", "space"]) fun _ _ _ _ _ _ us hl => match us, hl with | [_, _], _ => rfl
    have mmIns : Meth K C "inside" fIns := ⟨aIns, iIns, kIns⟩
    have FAdd := fun_mk (st := sAdd) lAdd cAdd kAdd
    have bAdd := FAdd.binds (ps := ["self", "space"]) fun _ _ _ _ _ _ us hl => match us, hl with | [_, _], _ => rfl
    have mmAdd : Meth K C "add" fAdd := ⟨aAdd, iAdd, kAdd⟩
    have FDro := fun_mk (st := sDrop) lDro cDro kDro
    have bDro := FDro.binds (ps := ["self", "space"]) fun _ _ _ _ _ _ us hl => match us, hl with | [_, _], _ => rfl
    have mmDro : Meth K C "drop" fDro := ⟨aDro, iDro, kDro⟩
    have FMap := fun_mk (st := sMap) lMap cMap kMap
    have bMap := FMap.binds (ps := ["self", "space", "begin", "many"]) fun _ _ _ _ _ _ us hl => match us, hl with | [_, _, _, _], _ => rfl
    have mmMap : Meth K C "map" fMap := ⟨aMap, iMap, kMap⟩
    have FNF := fun_mk (st := sNF) lNF cNF kNF
    have bNF := FNF.binds (ps := ["self", "inside", "begin", "many"]) fun _ _ _ _ _ _ us hl => match us, hl with | [_, _, _, _], _ => rfl
    have mmNF : Meth K C "need_free" fNF := ⟨aNF, iNF, kNF⟩
    have FUnm := fun_mk (st := sUnmap) lUnm cUnm kUnm
    have bUnm := FUnm.binds (ps := ["self", "space", "begin", "many"]) fun _ _ _ _ _ _ us hl => match us, hl with | [_, _, _, _], _ => rfl
    have mmUnm : Meth K C "unmap" fUnm := ⟨aUnm, iUnm, kUnm⟩
    have FFor := fun_mk (st := sFork) lFor cFor kFor
    have bFor := FFor.binds (ps := ["self", "space", "child"]) fun _ _ _ _ _ _ us hl => match us, hl with | [_, _, _], _ => rfl
    have mmFor : Meth K C "fork" fFor := ⟨aFor, iFor, kFor⟩
    have FMov := fun_mk (st := sMove) lMov cMov kMov
    have bMov := FMov.binds (ps := ["self", "space", "begin", "many", "to"]) fun _ _ _ _ _ _ us hl => match us, hl with | [_, _, _, _, _], _ => rfl
    have mmMov : Meth K C "move" fMov := ⟨aMov, iMov, kMov⟩
    have FNPl := fun_mk (st := sNP) lNPl cNPl kNPl
    have bNPl := FNPl.binds (ps := ["self", "space", "place"]) fun _ _ _ _ _ _ us hl => match us, hl with | [_, _, _], _ => rfl
    have mmNPl : Meth K C "need_place" fNPl := ⟨aNPl, iNPl, kNPl⟩
    have FWri := fun_mk (st := sWrite) lWri cWri kWri
    have bWri := FWri.binds (ps := ["self", "space", "place", "value"]) fun _ _ _ _ _ _ us hl => match us, hl with | [_, _, _, _], _ => rfl
    have mmWri : Meth K C "write" fWri := ⟨aWri, iWri, kWri⟩
    have FRea := fun_mk (st := sRead) lRea cRea kRea
    have bRea := FRea.binds (ps := ["self", "space", "place"]) fun _ _ _ _ _ _ us hl => match us, hl with | [_, _, _], _ => rfl
    have mmRea : Meth K C "read" fRea := ⟨aRea, iRea, kRea⟩
    have FSpa := fun_mk (st := sSpaces) lSpa cSpa kSpa
    have bSpa := FSpa.binds (ps := ["self"]) fun _ _ _ _ _ _ us hl => match us, hl with | [_], _ => rfl
    have mmSpa : Meth K C "spaces" fSpa := ⟨aSpa, iSpa, kSpa⟩
    have FPla := fun_mk (st := sPlaces) lPla cPla kPla
    have bPla := FPla.binds (ps := ["self", "space"]) fun _ _ _ _ _ _ us hl => match us, hl with | [_, _], _ => rfl
    have mmPla : Meth K C "places" fPla := ⟨aPla, iPla, kPla⟩
    have gCBN := PySem.W.mg_of X G aCBN
    have gCB := PySem.W.mg_of X G aCB
    have gCV := PySem.W.mg_of X G aCV
    have gCM := PySem.W.mg_of X G aCM
    have gCS := PySem.W.mg_of X G aCS
    have OXCS : OexC K CS := ⟨⟨_, _, _, _, _, _, _, _, _, _, _, _, _, _, _, lCS, rvCS⟩, saCS, bCS, tCS, kCS⟩
    have STCS : SupT l.prog K mg CS ccCS cdaCS "NoSpace.__init__" := ⟨OXCS, iiCS, ciCS, ⟨_, _, _, _, _, _, lcdCS, v2CS, fiCS⟩, ⟨_, _, _, lccCS⟩, ⟨_, clsCS⟩, supCS, sveCS, opq, mroCS, super_, topS⟩
    have SECS : SupE l.prog w K mg base "NoSpace" "name" CS := ⟨gCS, OXCS, _, _, aiCS, tiCS, ok_excCS STCS noCS liCS, fun s us _ hl => match us, hl with | [_, _], _ => .of_eq rfl⟩
    have gCT := PySem.W.mg_of X G aCT
    have OXCT : OexC K CT := ⟨⟨_, _, _, _, _, _, _, _, _, _, _, _, _, _, _, lCT, rvCT⟩, saCT, bCT, tCT, kCT⟩
    have STCT : SupT l.prog K mg CT ccCT cdaCT "Taken.__init__" := ⟨OXCT, iiCT, ciCT, ⟨_, _, _, _, _, _, lcdCT, v2CT, fiCT⟩, ⟨_, _, _, lccCT⟩, ⟨_, clsCT⟩, supCT, sveCT, opq, mroCT, super_, topS⟩
    have SECT : SupE l.prog w K mg base "Taken" "name" CT := ⟨gCT, OXCT, _, _, aiCT, tiCT, ok_excCT STCT noCT liCT, fun s us _ hl => match us, hl with | [_, _], _ => .of_eq rfl⟩
    have gCL := PySem.W.mg_of X G aCL
    have OXCL : OexC K CL := ⟨⟨_, _, _, _, _, _, _, _, _, _, _, _, _, _, _, lCL, rvCL⟩, saCL, bCL, tCL, kCL⟩
    have STCL : SupT l.prog K mg CL ccCL cdaCL "NoPlace.__init__" := ⟨OXCL, iiCL, ciCL, ⟨_, _, _, _, _, _, lcdCL, v2CL, fiCL⟩, ⟨_, _, _, lccCL⟩, ⟨_, clsCL⟩, supCL, sveCL, opq, mroCL, super_, topS⟩
    have SECL : SupE l.prog w K mg base "NoPlace" "place" CL := ⟨gCL, OXCL, _, _, aiCL, tiCL, ok_excCL STCL noCL liCL, fun s us _ hl => match us, hl with | [_, _], _ => .of_eq rfl⟩
    have gCU := PySem.W.mg_of X G aCU
    have OXCU : OexC K CU := ⟨⟨_, _, _, _, _, _, _, _, _, _, _, _, _, _, _, lCU, rvCU⟩, saCU, bCU, tCU, kCU⟩
    have STCU : SupT l.prog K mg CU ccCU cdaCU "Used.__init__" := ⟨OXCU, iiCU, ciCU, ⟨_, _, _, _, _, _, lcdCU, v2CU, fiCU⟩, ⟨_, _, _, lccCU⟩, ⟨_, clsCU⟩, supCU, sveCU, opq, mroCU, super_, topS⟩
    have SECU : SupE l.prog w K mg base "Used" "place" CU := ⟨gCU, OXCU, _, _, aiCU, tiCU, ok_excCU STCU noCU liCU, fun s us _ hl => match us, hl with | [_, _], _ => .of_eq rfl⟩
    have ECCL : L2.ExcC K CL := ⟨egCL, ehCL, bCL, edCL, ecCL, cn, ct, emCL⟩
    have XFCL : XfC K CL := ⟨egCL, ehCL, bCL, edCL⟩
    have EMCL := PySem.W.exm_ref mB mD mT mSCL
    have TB0 : TB mg := ⟨int_, len_, abs_⟩
    have TC0 : TC K mg := ⟨TB0, isinstance_, bool_, _, gPL⟩
    have TD0 : TD K mg := ⟨TC0, str_, all_, ⟨_, gLE⟩, ⟨_, gML⟩, ⟨_, gMC⟩⟩
    have hu1 : ∀ p ∈ T, p.1 = P1 → p.2 = ("law" : Str) ++ ".<locals>." ++ "<lambda>" := fun p hp e => by
      simp only [T, List.mem_cons, List.not_mem_nil, or_false] at hp
      rcases hp with rfl
      rfl
    have TP : PlT K C := ⟨clC, n1C⟩
    have TI : InT K C := ⟨clC, ccC, cn, ct, cmC⟩
    have GII := ok_is_integer (P := l.prog) (w := w) (base := base) FII TC0
    have GIP := ok_is_place (P := l.prog) (w := w) (base := base) FIP TC0 GII mII kII bII
    have GIS := ok_is_stretch (P := l.prog) (w := w) (base := base) FIS TC0 GII mII kII bII GIP mIP kIP bIP
    have GNS := ok_need (P := l.prog) (w := w) (base := base) FNS ⟨gCB, xCB, kCB, bCB, tCB⟩ ⟨_, _, GIS, mIS, kIS, bIS⟩
    have HNS : Has l.prog w K mg base (L2.CX l.prog w) 4 "need_stretch" ["begin", "many"] (spNeed CB) := ⟨_, _, GNS, mNS, kNS, bNS⟩
    have HII : Has l.prog w K mg base CX0 1 "is_integer" ["value"] spIsInt := ⟨_, _, GII, mII, kII, bII⟩
    have HNa : Has l.prog w K mg base CX0 1 "is_name" ["value"] spName := ⟨_, _, ok_name FNa TD0, mNa, kNa, bNa⟩
    have HNN : Has l.prog w K mg base (L2.CX l.prog w) 3 "need_new" ["spaces", "name"] (spNew CBN CT) := ⟨_, _, ok_new FNN ⟨gCBN, xCBN, kCBN, bCBN, tCBN⟩ SECT HNa, mNN, kNN, bNN⟩
    have HIC : Has l.prog w K mg base CX0 2 "is_contents" ["value"] spCont := ⟨_, _, ok_cont FIC TD0 HII, mIC, kIC, bIC⟩
    have HNC : Has l.prog w K mg base (L2.CX l.prog w) 3 "need_contents" ["value"] (spNCont CV) := ⟨_, _, ok_ncont FNC ⟨gCV, xCV, kCV, bCV, tCV⟩ HIC, mNC, kNC, bNC⟩
    have HIns : HasM l.prog w K mg base (L2.CX l.prog w) 3 C "inside" ["self", "space"] (spIn C CS) := ⟨_, _, mmIns, ok_inside FIns TP TD0 SECS, bIns⟩
    have HNF : HasM l.prog w K mg base (L2.CX l.prog w) 3 C "need_free" ["self", "inside", "begin", "many"] (spNF C CU) := ⟨_, _, mmNF, ok_nfree FNF range_ SECU, bNF⟩
    have HNP : HasM l.prog w K mg base (L2.CX l.prog w) 4 C "need_place" ["self", "space", "place"] (spNP C CS CL) := ⟨_, _, mmNPl, ok_nplace FNPl TP HIns HII SECL, bNPl⟩
    have R : PlK l.prog w K mg base C CS CBN CT CB CU CL CV := ⟨TP, gC, ⟨_, _, ⟨mkC, aIn, iIn, kC⟩, ok_pinit FIn TP, bIn⟩,
      ⟨_, _, mmAdd, ok_add FAdd TP HNN, bAdd, kbp [0] (fun us ws h1 h2 => match us, ws, h1, h2 with | [_], [_], _, _ => rfl)⟩, ⟨_, _, mmDro, ok_drop FDro TP HIns, bDro, kbp [0] (fun us ws h1 h2 => match us, ws, h1, h2 with | [_], [_], _, _ => rfl)⟩, ⟨_, _, mmMap, ok_map FMap TP range_ HIns HNF HNS, bMap, kbp [1, 2, 0] (fun us ws h1 h2 => match us, ws, h1, h2 with | [_], [_, _, _], _, _ => rfl)⟩, ⟨_, _, mmUnm, ok_unmap FUnm TP range_ HIns HNS, bUnm, kbp [2, 1, 0] (fun us ws h1 h2 => match us, ws, h1, h2 with | [_], [_, _, _], _, _ => rfl)⟩,
      ⟨_, _, mmMov, ok_move FMov TP range_ HIns HNF HNS SECL, bMov, kbp [3, 2, 1, 0] (fun us ws h1 h2 => match us, ws, h1, h2 with | [_], [_, _, _, _], _, _ => rfl)⟩, ⟨_, _, mmWri, ok_write FWri TP HNP HNC, bWri, kbp [2, 1, 0] (fun us ws h1 h2 => match us, ws, h1, h2 with | [_], [_, _, _], _, _ => rfl)⟩, ⟨_, _, mmRea, ok_read FRea TP HNP, bRea, kbp [1, 0] (fun us ws h1 h2 => match us, ws, h1, h2 with | [_], [_, _], _, _ => rfl)⟩, ⟨_, _, mmPla, ok_places FPla TP sorted_ HIns, bPla, kbp [0] (fun us ws h1 h2 => match us, ws, h1, h2 with | [_], [_], _, _ => rfl)⟩,
      ⟨_, _, mmFor, ok_fork FFor TP dict_ HIns HNN, bFor, kbp [1, 0] (fun us ws h1 h2 => match us, ws, h1, h2 with | [_], [_, _], _, _ => rfl), kbp [0] (fun us ws h1 h2 => match us, ws, h1, h2 with | [_, _], [_], _, _ => rfl)⟩, ⟨_, _, mmSpa, ok_spaces FSpa TP sorted_, bSpa⟩, ⟨_, _, ok_peq FEq TP TI isinstance_ gC, aEq, iEq, bEq⟩, TI, by simp [PySem.W.notFirst]⟩
    have Er : ErP K mg CL CM := ⟨gCL, gCM, ECCL, EMCL, XFCL, noCL⟩
    have md : RefAt K mg := ⟨_, _, _, _, _, _, _, _, _, _, _, mRe, kRe, lRe, cRe, bRe⟩
    exact ok_law (T := T) lLa cLa range_ isinstance_ R Er (hTB (c1, P1) (by simp)) (by simp [T]) hu1 md ⟨_, _, ok_state FSt TB0, mSt, kSt, bSt⟩ ⟨_, _, ok_draw FDr TB0, mDr, kDr, bDr⟩
end Bm
open PySem PySem.W PyProof.Rows
set_option maxRecDepth 100000 in
set_option maxHeartbeats 0 in
theorem PySem.Challenge.cw_backmaps_k06_areas_and_plain_memories_by_holds : PySem.Challenge.rw_backmaps_k06_areas_and_plain_memories_by.Holds := by
  w_on; o_law; k_head; (case hw => w_witness2)
  k_fill
  refine L3.walk_g (l := PySem.Challenge.rw_backmaps_k06_areas_and_plain_memories_by) (n := 63) (k := 8) (CX := fun _ => L2.CX0) (x := "_law_script") rfl (by decide) rfl ⟨rfl, by decide, by decide⟩ (fun w h Y => PySem.W.km_in_of Y) ?F (fun _ _ _ _ _ z => z)
  case F =>
    intro w mg fa h Y KX G hmg
    have hTabs := PySem.W.km_tabs_of Y
    refine' Bm.all_mk KX G hmg ?zint ?zlen ?zabs ?zisinstance ?zbool ?zstr ?zall ?zrange ?zdict ?zsorted ?zsuper ?aPL ?aLE ?aML ?aMC ?aC ?aII ?lII ?cII ?kII ?aIP ?lIP ?cIP ?kIP ?aIS ?lIS ?cIS ?kIS ?aNS ?lNS ?cNS ?kNS ?aNa ?lNa ?cNa ?kNa ?aNN ?lNN ?cNN ?kNN ?aIC ?lIC ?cIC ?kIC ?aNC ?lNC ?cNC ?kNC ?aSt ?lSt ?cSt ?kSt ?aDr ?lDr ?cDr ?kDr ?aRe ?lRe ?cRe ?kRe ?aLa ?lLa ?cLa ?kLa ?cn ?ct ?pgC ?hdC ?poC ?saC ?mkC ?kC ?n1C ?ccC ?cmC ?aIn ?iIn ?lIn ?cIn ?kIn ?aEq ?iEq ?lEq ?cEq ?kEq ?aIns ?iIns ?lIns ?cIns ?kIns ?aAdd ?iAdd ?lAdd ?cAdd ?kAdd ?aDro ?iDro ?lDro ?cDro ?kDro ?aMap ?iMap ?lMap ?cMap ?kMap ?aNF ?iNF ?lNF ?cNF ?kNF ?aUnm ?iUnm ?lUnm ?cUnm ?kUnm ?aFor ?iFor ?lFor ?cFor ?kFor ?aMov ?iMov ?lMov ?cMov ?kMov ?aNPl ?iNPl ?lNPl ?cNPl ?kNPl ?aWri ?iWri ?lWri ?cWri ?kWri ?aRea ?iRea ?lRea ?cRea ?kRea ?aSpa ?iSpa ?lSpa ?cSpa ?kSpa ?aPla ?iPla ?lPla ?cPla ?kPla ?aCBN ?kCBN ?bCBN ?tCBN ?xCBN ?aCB ?kCB ?bCB ?tCB ?xCB ?aCV ?kCV ?bCV ?tCV ?xCV ?aCM ?mB ?mD ?mT ?aCS ?kCS ?bCS ?tCS ?lCS ?rvCS ?saCS ?iiCS ?noCS ?aiCS ?tiCS ?liCS ?ciCS ?lcdCS ?v2CS ?fiCS ?lccCS ?clsCS ?supCS ?sveCS ?mroCS ?opq ?topS ?aCT ?kCT ?bCT ?tCT ?lCT ?rvCT ?saCT ?iiCT ?noCT ?aiCT ?tiCT ?liCT ?ciCT ?lcdCT ?v2CT ?fiCT ?lccCT ?clsCT ?supCT ?sveCT ?mroCT ?aCL ?kCL ?bCL ?tCL ?lCL ?rvCL ?saCL ?iiCL ?noCL ?aiCL ?tiCL ?liCL ?ciCL ?lcdCL ?v2CL ?fiCL ?lccCL ?clsCL ?supCL ?sveCL ?mroCL ?aCU ?kCU ?bCU ?tCU ?lCU ?rvCU ?saCU ?iiCU ?noCU ?aiCU ?tiCU ?liCU ?ciCU ?lcdCU ?v2CU ?fiCU ?lccCU ?clsCU ?supCU ?sveCU ?mroCU ?egCL ?ehCL ?edCL ?ecCL ?emCL ?mSCL ?lc1 ?h11_1 ?cT1 ?lP_1 ?tT1
    (case zint => k_is)
    (case zlen => k_is)
    (case zabs => k_is)
    (case zisinstance => k_is)
    (case zbool => k_is)
    (case zstr => k_is)
    (case zall => k_is)
    (case zrange => k_is)
    (case zdict => k_is)
    (case zsorted => k_is)
    (case zsuper => k_is)
    (case aPL => k_is)
    (case aLE => k_is)
    (case aML => k_is)
    (case aMC => k_is)
    (case aC => k_is)
    (case aII => k_is)
    (case lII => k_is)
    (case cII => k_is)
    (case kII => k_is)
    (case aIP => k_is)
    (case lIP => k_is)
    (case cIP => k_is)
    (case kIP => k_is)
    (case aIS => k_is)
    (case lIS => k_is)
    (case cIS => k_is)
    (case kIS => k_is)
    (case aNS => k_is)
    (case lNS => k_is)
    (case cNS => k_is)
    (case kNS => k_is)
    (case aNa => k_is)
    (case lNa => k_is)
    (case cNa => k_is)
    (case kNa => k_is)
    (case aNN => k_is)
    (case lNN => k_is)
    (case cNN => k_is)
    (case kNN => k_is)
    (case aIC => k_is)
    (case lIC => k_is)
    (case cIC => k_is)
    (case kIC => k_is)
    (case aNC => k_is)
    (case lNC => k_is)
    (case cNC => k_is)
    (case kNC => k_is)
    (case aSt => k_is)
    (case lSt => k_is)
    (case cSt => k_is)
    (case kSt => k_is)
    (case aDr => k_is)
    (case lDr => k_is)
    (case cDr => k_is)
    (case kDr => k_is)
    (case aRe => k_is)
    (case lRe => k_is)
    (case cRe => k_is)
    (case kRe => k_is)
    (case aLa => k_is)
    (case lLa => k_is)
    (case cLa => k_is)
    (case kLa => k_is)
    (case cn => k_is)
    (case ct => k_is)
    (case pgC => k_is)
    (case hdC => k_is)
    (case poC => k_is)
    (case saC => k_is)
    (case mkC => k_is)
    (case kC => k_is)
    (case n1C => k_is)
    (case ccC => k_is)
    (case cmC => k_is)
    (case aIn => k_is)
    (case iIn => k_is)
    (case lIn => k_is)
    (case cIn => k_is)
    (case kIn => k_is)
    (case aEq => k_is)
    (case iEq => k_is)
    (case lEq => k_is)
    (case cEq => k_is)
    (case kEq => k_is)
    (case aIns => k_is)
    (case iIns => k_is)
    (case lIns => k_is)
    (case cIns => k_is)
    (case kIns => k_is)
    (case aAdd => k_is)
    (case iAdd => k_is)
    (case lAdd => k_is)
    (case cAdd => k_is)
    (case kAdd => k_is)
    (case aDro => k_is)
    (case iDro => k_is)
    (case lDro => k_is)
    (case cDro => k_is)
    (case kDro => k_is)
    (case aMap => k_is)
    (case iMap => k_is)
    (case lMap => k_is)
    (case cMap => k_is)
    (case kMap => k_is)
    (case aNF => k_is)
    (case iNF => k_is)
    (case lNF => k_is)
    (case cNF => k_is)
    (case kNF => k_is)
    (case aUnm => k_is)
    (case iUnm => k_is)
    (case lUnm => k_is)
    (case cUnm => k_is)
    (case kUnm => k_is)
    (case aFor => k_is)
    (case iFor => k_is)
    (case lFor => k_is)
    (case cFor => k_is)
    (case kFor => k_is)
    (case aMov => k_is)
    (case iMov => k_is)
    (case lMov => k_is)
    (case cMov => k_is)
    (case kMov => k_is)
    (case aNPl => k_is)
    (case iNPl => k_is)
    (case lNPl => k_is)
    (case cNPl => k_is)
    (case kNPl => k_is)
    (case aWri => k_is)
    (case iWri => k_is)
    (case lWri => k_is)
    (case cWri => k_is)
    (case kWri => k_is)
    (case aRea => k_is)
    (case iRea => k_is)
    (case lRea => k_is)
    (case cRea => k_is)
    (case kRea => k_is)
    (case aSpa => k_is)
    (case iSpa => k_is)
    (case lSpa => k_is)
    (case cSpa => k_is)
    (case kSpa => k_is)
    (case aPla => k_is)
    (case iPla => k_is)
    (case lPla => k_is)
    (case cPla => k_is)
    (case kPla => k_is)
    (case aCBN => k_is)
    (case kCBN => k_is)
    (case bCBN => k_is)
    (case tCBN => k_is)
    (case xCBN => k_exc)
    (case aCB => k_is)
    (case kCB => k_is)
    (case bCB => k_is)
    (case tCB => k_is)
    (case xCB => k_exc)
    (case aCV => k_is)
    (case kCV => k_is)
    (case bCV => k_is)
    (case tCV => k_is)
    (case xCV => k_exc)
    (case aCM => k_is)
    (case mB => k_is)
    (case mD => k_is)
    (case mT => k_is)
    (case aCS => k_is)
    (case kCS => k_is)
    (case bCS => k_is)
    (case tCS => k_is)
    (case lCS => k_is)
    (case rvCS => kernel_rfl)
    (case saCS => k_is)
    (case iiCS => kernel_rfl)
    (case noCS => k_is)
    (case aiCS => k_is)
    (case tiCS => k_is)
    (case liCS => k_is)
    (case ciCS => k_is)
    (case lcdCS => k_is)
    (case v2CS => rfl)
    (case fiCS => kernel_rfl)
    (case lccCS => k_is)
    (case clsCS => k_is)
    (case supCS => kernel_rfl)
    (case sveCS => k_is)
    (case mroCS => k_is)
    (case opq => k_is)
    (case topS => kernel_rfl)
    (case aCT => k_is)
    (case kCT => k_is)
    (case bCT => k_is)
    (case tCT => k_is)
    (case lCT => k_is)
    (case rvCT => kernel_rfl)
    (case saCT => k_is)
    (case iiCT => kernel_rfl)
    (case noCT => k_is)
    (case aiCT => k_is)
    (case tiCT => k_is)
    (case liCT => k_is)
    (case ciCT => k_is)
    (case lcdCT => k_is)
    (case v2CT => rfl)
    (case fiCT => kernel_rfl)
    (case lccCT => k_is)
    (case clsCT => k_is)
    (case supCT => kernel_rfl)
    (case sveCT => k_is)
    (case mroCT => k_is)
    (case aCL => k_is)
    (case kCL => k_is)
    (case bCL => k_is)
    (case tCL => k_is)
    (case lCL => k_is)
    (case rvCL => kernel_rfl)
    (case saCL => k_is)
    (case iiCL => kernel_rfl)
    (case noCL => k_is)
    (case aiCL => k_is)
    (case tiCL => k_is)
    (case liCL => k_is)
    (case ciCL => k_is)
    (case lcdCL => k_is)
    (case v2CL => rfl)
    (case fiCL => kernel_rfl)
    (case lccCL => k_is)
    (case clsCL => k_is)
    (case supCL => kernel_rfl)
    (case sveCL => k_is)
    (case mroCL => k_is)
    (case aCU => k_is)
    (case kCU => k_is)
    (case bCU => k_is)
    (case tCU => k_is)
    (case lCU => k_is)
    (case rvCU => kernel_rfl)
    (case saCU => k_is)
    (case iiCU => kernel_rfl)
    (case noCU => k_is)
    (case aiCU => k_is)
    (case tiCU => k_is)
    (case liCU => k_is)
    (case ciCU => k_is)
    (case lcdCU => k_is)
    (case v2CU => rfl)
    (case fiCU => kernel_rfl)
    (case lccCU => k_is)
    (case clsCU => k_is)
    (case supCU => kernel_rfl)
    (case sveCU => k_is)
    (case mroCU => k_is)
    (case egCL => k_is)
    (case ehCL => k_is)
    (case edCL => k_is)
    (case ecCL => k_is)
    (case emCL => k_is)
    (case mSCL => k_is)
    (case lc1 => k_is)
    (case h11_1 => rfl)
    (case cT1 => kernel_rfl)
    (case lP_1 => kernel_rfl)
    (case tT1 => exact hTabs _ (by k_mem))
