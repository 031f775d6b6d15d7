import PyProof.Rows.All
import Wide.All
import OpenK.AllK
import Wide.FinOn
import HandS.ForMost
import HandS.ForExc
import HandS.Lambda
import HandS.EndTab
import HandS.IsInst
import HandS.ExcValue
import HandS.ExcIs
import PyProof.FactsAll.object_2
import PyProof.InstNe
import KE.KExcIs
import HandS.ExcInit
import HandS.ExcField
import KE.KExcSuper
import PyProof.ReprRoads
import HandS.Defaults
import HandS.MakeKwOnly
import HandS.SetFor
import HandS.OwnEq
import PyProof.DictUpdate
import HandS.DictComp
import HandS.DeepEq
import HandS.Walk
import HandS.More
import PyProof.Rows.SortShellAny
import PyProof.Rows.SortStr
import PyProof.ReprLen
import KE.KEqDict
import HandS.Flow
import HandS.Property
import HandS.MakeKw
import KE.KSortedM
import PyProof.StrLawsRepr
import HandS.Conv
import PySem.Challenge.RW_backmaps_k05_plain_copies_are_equal_and
set_option Elab.async false
set_option linter.all false
set_option maxRecDepth 100000
set_option maxHeartbeats 4000000
/-! further rules: a caught exception kept as a value; isinstance of it; == and != by an own __eq__ with either answer -/
namespace L3
open PySem PySem.Spec PyProof.Rows L2

/-- an exception object of the class cls, its own dict at d, held as a value -/
def ExV (cls : Value) (d : Option Addr) (a : Addr) : HO := .ext fun h => ∃ (oe : Obj) (vs : Array Value), h.get? a = some oe ∧ Zc cls d oe ∧ oe.data = .fields vs
theorem exV_ok {P : Program} {w : World} {H : Hp} {h : Heap} {a : Addr} {cls : Value} {d : Option Addr} {oe : Obj} {vs : Array Value} (e : h.get? a = some oe) (z : Zc cls d oe) (hd : oe.data = .fields vs) : ObjOk P w H h a (ExV cls d a) :=
  ⟨⟨oe, vs, e, z, hd⟩, ⟨oe, e⟩, fun _ _ ⟨o, v, q, r⟩ k => ⟨o, v, k o q, r⟩⟩
section
variable {X : Cx} {pins : List (Addr × Obj)} {σ : L2.St} {H : Hp} {s sI : Shared}
/-- an object that is new since sI is tracked from now on -/
theorem track (J : Inv X pins σ H s) (JI : Inv X pins σ H sI) {a : Addr} {oe : Obj} {vs : Array Value} {cls : Value} {d : Option Addr} (na : H a = none) (new : sI.heap.get? a = none) (he : s.heap.get? a = some oe) (hz : Zc cls d oe) (hd : oe.data = .fields vs) :
    Inv X pins σ (upd H a (ExV cls d a)) s := by
  have nI : ∀ b o, sI.heap.get? b = some o → b ≠ a := fun b o e z => by
    rw [z, new] at e
    cases e
  have nH : ∀ b u, H b = some u → b ≠ a := fun b u e => ne_of_none e na
  refine ⟨J.ok, J.os, J.bare, ⟨J.base.keep, J.base.slot, fun b o e n hx => ?_, J.base.there, fun b xs e => ?_, fun b o u e => ?_, fun b ps e => ?_⟩, J.loc, J.cell, ?_, fun x c e => ?_, fun p hp => ?_, ?_, J.len⟩
  · obtain ⟨o', e'⟩ := JI.base.there b o e hx
    rw [upd_ne (nI b o' e')]
    exact J.base.free b o e n hx
  · have q := J.base.tups b xs e
    rw [upd_ne (nH b _ q)]
    exact q
  · have q := J.base.frzs b o u e
    rw [upd_ne (nH b _ q)]
    exact q
  · obtain ⟨m, q⟩ := J.base.tbls b ps e
    exact ⟨m, by rw [upd_ne (nH b _ q)]; exact q⟩
  · obtain ⟨m, ⟨o, es, ep, ho, r⟩, _⟩ := JI.loc
    rw [upd_ne (nI _ _ ho)]
    exact J.free
  · obtain ⟨v, o, ho, _⟩ := JI.cell x c e
    rw [upd_ne (nI _ _ ho)]
    exact J.freeC x c e
  · obtain ⟨e1, _⟩ := JI.pin p hp
    obtain ⟨g1, g2, g3, g4, g5⟩ := J.pin p hp
    exact ⟨g1, by rw [upd_ne (nI _ _ e1)]; exact g2, g3, g4, g5⟩
  · exact J.hok.laidN (fun _ _ e => e) na (exV_ok he hz hd)
/-- an exception in the air at a, from here on an object of the abstract heap: what an except clause's suite starts from -/
theorem kept_at (hs : X.stack = X.env :: X.outer) {B : Heap} {sI : Shared} {a : Addr} {cls : Value} {d : Option Addr} (I : Inv X pins σ H sI) (old : ∀ b o, sI.heap.get? b = some o → b ∉ frs X.stack → B.get? b = some o)
    (fly : HandSPX.FlyingZ B (X.env :: X.outer) a (Zc cls d) s.heap) (up : sI.heap.UpToSlots s.heap) (ho : s.os = sI.os) (hb : AllBare s.gens) (na : H a = none) :
    Inv (X.suite a (X.pn ++ pins)) [] σ (upd H a (ExV cls d a)) s := by
  obtain ⟨oe, vs, he, hz, hd⟩ := fly.there
  have off : a ∉ frs X.stack := by
    rw [hs]
    intro hm
    obtain ⟨_, o, e, bad⟩ := fly.2.2.1.mem hm
    cases he.symm.trans e
    exact bad vs hd
  have fresh : sI.heap.get? a = none := Option.eq_none_iff_forall_ne_some.mpr fun o e => by
    have z := old a o e off
    rw [fly.2.1] at z
    cases z
  have K := track (I.landed old fly.1 up ho hb) I na fresh he hz hd
  exact { ok := K.ok.suite _ _, os := K.os, bare := K.bare, base := K.base, loc := K.loc, cell := K.cell, free := K.free, freeC := K.freeC, pin := fun p hp => K.pin p (by simpa using hp), hok := K.hok, len := K.len }
/-- behind the suite -/
theorem out_of_suite {a : Addr} {rest : List (Addr × Obj)} (ok : X.Ok) (K : Inv (X.suite a (X.pn ++ pins)) rest σ H s) : Inv X pins σ H s where
  ok := ok
  os := K.os
  bare := K.bare
  base := K.base
  loc := K.loc
  cell := K.cell
  free := K.free
  freeC := K.freeC
  pin := fun p hp => K.pin p (List.mem_append.mpr (.inl hp))
  hok := K.hok
  len := K.len
end
/-- the ends of an except clause's suite: the name at i goes -/
def goes (i : Nat) (D : Ends) : Ends := ⟨fun τ G => D.nx (τ.set i none) G, D.rt, fun τ G => D.bk (τ.set i none) G, fun τ G => D.ct (τ.set i none) G⟩
/-- what 'except x as n' wishes, if it catches all that the body raises, and the exception is held as a value from the suite on; n is at the slot i of m -/
def wTrk (K : PySem.W.Frag) (c : Value) (i m : Nat) (ts : Addr → TS) (D : Ends) : WX := fun cls d τ G => τ.length = m → PySem.W.exmOne K cls c = some true ∧ ∀ a, G a = none → ts a (goes i D) (τ.set i (some (.ref a))) (upd G a (ExV cls d a))
section
variable {X : Cx} {x n : Str} {c : Value} {i : Nat} {body suite : List Stmt} {b₀ : Stmt} {np pos pos' : Pos} {tb : WX → TS} {ts : Addr → TS}
/-- the clause, at an exception that flies -/
theorem clause_trk {pins : List (Addr × Obj)} {D : Ends} {e : Value} {s₁ : Shared} (ok : X.Ok) (hs : X.stack = X.env :: X.outer) (hf : X.env.frame = some X.env.locals) (hN : X.N.Nodup) (hi : X.N[i]? = some n) (hln : X.env.kindOf n = some .local) (hc : Names X x c)
    (hsu : ∀ (a : Addr) (pn : List (Addr × Obj)), PSs (X.suite a pn) (b₀ :: suite) (ts a)) {xe : Value → Shared → Prop} (air : XE (X.tr (X.pn ++ pins) xe) (wTrk X.K c i X.N.length ts D) e s₁) :
    wpAny (model X.prog X.w) X.A (noteFrame e X.env) (fun _ s₂ => wpAny (model X.prog X.w) X.A (setFlight e none) (fun _ s₃ => wpAny (model X.prog X.w) X.A (handleBy e X.env [.ExceptHandler (some (.Name x np)) (some n) (b₀ :: suite) pos']) (SP X pins D) X.xe s₃) X.xe s₂) X.xe s₁ := by
  have off : ∀ {σ₆ : L2.St} {H₆ : Hp} {s₆ : Shared} {Q : Shared → Prop} {a : Addr}, Inv (X.suite a (X.pn ++ pins)) [] σ₆ H₆ s₆ → (∀ s₇, Inv X pins (σ₆.set i none) H₆ s₇ → Q s₇) →
      wpAny (model X.prog X.w) X.A (do bindName X.env n .none; unbindBehindTheSuite X.env n pos') (fun _ s₇ => Q s₇) X.xe s₆ := fun K q => gone_ok (out_of_suite ok K) hN hi hln q
  rcases air with ⟨a, B, sI, rest, τ, G, cls, d, rfl, J', old, up, sky, na, ho, hb, wish⟩
  have J := J'.ofTry ok
  obtain ⟨mt, run⟩ := wish J'.len
  have kept := fun (h : Heap) (fl : HandSPX.FlyingZ B (X.env :: X.outer) a (Zc cls d) h) (u : sI.heap.UpToSlots h) => kept_at (s := { s₁ with heap := h }) hs J old fl u ho hb na
  apply Sky.land Zc.steady (ok.frames.trans (congrArg some hs)) hf (by rw [← hs]; exact sky)
  intro h₃ fly₃ up₃
  have K₃ := kept h₃ fly₃ (up.trans up₃)
  obtain ⟨oe, vs, he, hz, _⟩ := fly₃.there
  apply wpAny_handleBy_cons (codeAny_handlers_test ?_) (by intro q; cases q)
  have ask := PySem.W.exm_one (M := model X.prog X.w) K₃.kIn (e := a) (fun A Q E s k q => wpAny_typeOf_ref (k _ _ he) (hz.1.symm ▸ q)) mt
  have name : ∀ {Q : Value → Shared → Prop} {E : Value → Shared → Prop}, Q c { s₁ with heap := h₃ } → wpAny (model X.prog X.w) (X.A.mark (some (.ref a))) (eval (.Name x np) X.env) Q E { s₁ with heap := h₃ } := by
    intro Q E q
    rcases hc with ⟨hg, nd, own | ⟨no, bb, nn⟩⟩
    · exact ld_glob (X := X.suite a (X.pn ++ pins)) K₃ hg own q nd
    · exact ld_blt (X := X.suite a (X.pn ++ pins)) K₃ hg no bb q nn nd
  apply name
  apply ask.here
  apply codeAny_handlers_suite_as
  apply HandSPX.lands_againZ fly₃
  intro h₄ fly₄ up₄
  apply store_ok (X := X.suite a (X.pn ++ pins)) (v := .ref a) (kept h₄ fly₄ ((up.trans up₃).trans up₄)) hN hi (.inl hln) rfl _ (.inr hln)
  intro s₅ K₅
  apply wpAny_mono ((hsu a (X.pn ++ pins)).run [] s₅ _ _ _ K₅ (run a na)) _ fun _ _ z => z.elim
  intro f s₆ e₆
  cases f with
  | ret u =>
    obtain ⟨v, _, _, K, r, q⟩ := e₆
    exact off K fun _ J₇ => ⟨v, _, _, J₇, r, q⟩
  | next => exact (match e₆ with | ⟨_, _, K, q⟩ => off K fun _ J₇ => ⟨_, _, J₇, q⟩)
  | brk => exact (match e₆ with | ⟨_, _, K, q⟩ => off K fun _ J₇ => ⟨_, _, J₇, q⟩)
  | cont => exact (match e₆ with | ⟨_, _, K, q⟩ => off K fun _ J₇ => ⟨_, _, J₇, q⟩)
/-- try: body / except x as n: suite, where x catches all that the body raises -/
theorem ps_try_trk (hs : X.stack = X.env :: X.outer) (hf : X.env.frame = some X.env.locals) (hN : X.N.Nodup) (hi : X.N[i]? = some n) (hln : X.env.kindOf n = some .local) (hc : Names X x c)
    (hb : ∀ (W : WX) (pn : List (Addr × Obj)) (xe : Value → Shared → Prop), Takes (X.tr pn xe) W → PassesOwn (model X.prog X.w) X.A X.env xe → PSs (X.tr pn xe) body (tb W))
    (hsu : ∀ (a : Addr) (pn : List (Addr × Obj)), PSs (X.suite a pn) (b₀ :: suite) (ts a)) :
    PS X (.Try body [.ExceptHandler (some (.Name x np)) (some n) (b₀ :: suite) pos'] [] [] pos) (fun D τ G => tb (wTrk X.K c i X.N.length ts D) D τ G) where
  run pins s τ G D I h := by
    apply wpAny_Try_except
    refine wpAny_mono ((hb (wTrk X.K c i X.N.length ts D) (X.pn ++ pins) _ (fun _ _ air => clause_trk I.ok hs hf hN hi hln hc hsu air) PassesOwn.looking).run [] s τ G D (I.toTry _) h) ?_ fun _ _ r => r
    intro f s₁ e₁
    cases f with
    | ret u => exact (match e₁ with | ⟨v, _, _, K, r, q⟩ => ⟨v, _, _, K.ofTry I.ok, r, q⟩)
    | next => exact (match e₁ with | ⟨_, _, K, q⟩ => wpAny_execs_nil ⟨_, _, K.ofTry I.ok, q⟩)
    | brk => exact (match e₁ with | ⟨_, _, K, q⟩ => ⟨_, _, K.ofTry I.ok, q⟩)
    | cont => exact (match e₁ with | ⟨_, _, K, q⟩ => ⟨_, _, K.ofTry I.ok, q⟩)
end
end L3
namespace L3
open PySem PySem.Spec PyProof.Rows L2
/-! ### isinstance of any of these -/
/-- what x is: a value of a kind that TyX tells, or a kept exception of an own class -/
inductive TyV (K : PySem.W.Frag) (H : Hp) : V → Value → Prop where
  | base {x : V} {t : Value} (h : TyX K H x t) : TyV K H x t
  | exc {a D : Addr} (h : H a = some (ExV (.ref D) none a)) (c : L2.ExcC K D) : TyV K H (.ref a) (.ref D)
  | excd {a D dd : Addr} {fs : List (Str × V)} (h : H a = some (ExV (.ref D) (some dd) a)) (hd : H dd = some (.xd fs)) (c : L2.ExcC K D) (hno : ¬ ("__class__" : Str) ∈ fs.map (·.1)) : TyV K H (.ref a) (.ref D)
def rIsV (K : PySem.W.Frag) : List V → Hp → VK → Prop := fun xs H Q => ∃ (x c : V) (t u : Value) (b : Bool), xs = [x, c] ∧ ClsV c u ∧ TyV K H x t ∧ PySem.W.kitOne K t u = some b ∧ Q (.bl b) H
theorem excC_kit {K : PySem.W.Frag} {D x : Addr} {ox : Obj} {od : Option Obj} (c : L2.ExcC K D) : PySem.W.KitX K (.ref x) (.ref D) (fun h => PySem.W.InstAt h x ox D od) :=
  PySem.W.kitx_exc (by obtain ⟨cd, hc, _⟩ := PySem.W.any_some c.hd; rw [hc]; rfl) c.hg c.hk c.hs c.ha c.hn c.ht c.hm
section
variable {X : Cx} {pins : List (Addr × Obj)} {σ : L2.St} {H : Hp} {s : Shared}
theorem exv_inst (I : Inv X pins σ H s) {a D : Addr} (h : H a = some (ExV (.ref D) none a)) : ∃ ox, PySem.W.InstAt s.heap a ox D none := by
  obtain ⟨⟨oe, vs, e, z, hd⟩, _, _⟩ := I.hok a _ h
  refine ⟨oe, ?_⟩
  obtain ⟨oc, od, oda, osl⟩ := oe
  obtain ⟨h1, h2⟩ := z
  dsimp only at h1 h2 hd
  subst h1 h2 hd
  exact ⟨e, rfl, rfl, trivial⟩
theorem exv_instd (I : Inv X pins σ H s) {a D dd : Addr} {fs : List (Str × V)} (h : H a = some (ExV (.ref D) (some dd) a)) (hd : H dd = some (.xd fs)) : ∃ ox od, PySem.W.InstAt s.heap a ox D (some od) ∧ s.heap.get? dd = some od := by
  obtain ⟨⟨oe, vs, e, z, hdt⟩, _, _⟩ := I.hok a _ h
  obtain ⟨mA, ⟨od, es, ep, e2, r⟩, _⟩ := (show ObjOk X.prog X.w H s.heap dd (.xd fs) from I.hok dd _ hd)
  refine ⟨oe, od, ?_, e2⟩
  obtain ⟨oc, o2, oda, osl⟩ := oe
  obtain ⟨h1, h2⟩ := z
  dsimp only at h1 h2 hdt
  subst h1 h2 hdt
  exact ⟨e, rfl, rfl, e2⟩
/-- what the library's isinstance rules ask -/
theorem kitV_of {x : V} {u t : Value} (I : Inv X pins σ H s) (rx : RelV x u) (ty : TyV X.K H x t) : ∃ P : Heap → Prop, PySem.W.KitX X.K u t P ∧ P s.heap ∧ u ≠ .builtin "__main__.__loader__#opaque" := by
  cases ty with
  | base h => exact kit_of I rx h
  | @exc a D h c =>
    obtain rfl : u = .ref a := rx
    obtain ⟨ox, J⟩ := exv_inst I h
    exact ⟨_, excC_kit c, J, fun z => nomatch z⟩
  | @excd a D dd fs h hd c hno =>
    obtain rfl : u = .ref a := rx
    obtain ⟨ox, od, J, _⟩ := exv_instd I h hd
    exact ⟨_, excC_kit c, J, fun z => nomatch z⟩
end
theorem call_isV {X : Cx} : CallR X (.builtin "isinstance") (rIsV X.K) := by
  rintro pins s σ H xs us Q I r ⟨x, c, t, u, b, rfl, k, ty, e, q⟩
  obtain ⟨_, _, rfl, r1, r2⟩ := vals2 r
  have e2 := k.eq r2
  subst e2
  obtain ⟨P, Z, p, hx⟩ := kitV_of I r1 ty
  exact PySem.W.kia_one Z I.kIn p e hx fun n => ⟨.bl b, H, I.tok n, rfl, q⟩
/-! ### == and != by an own __eq__ -/
/-- x == y, x an instance of the class at C whose __eq__ is the text's own -/
def rOwnEq (K : PySem.W.Frag) (C : Addr) (sp : Sp) (E : XK) (neg : Bool) : R2 := fun x y H Q => ∃ (a dx : Addr) (fs : List (Str × V)) (tb : Value), x = .ref a ∧ H a = some (.ins C dx fs) ∧ TyV K H y tb ∧ PySem.W.notFirst K C tb = true ∧
  sp [x, y] H (fun v H' => ∃ b, v = .bl b ∧ Q (.bl (if neg then !b else b)) H') E
section
variable {prog : Program} {w : World} {A : Around} {E : Value → Shared → Prop} {s : Shared} {K : PySem.W.Frag} {x C L f : Addr} {h₀ : Heap} {m : Str → Option Value} {ox : Obj} {od : Option Obj} {name : Str} {b tb : Value}
open PySem.W in
/-- a special method that the class has as a builtin is called with the instance ahead -/
theorem ifBound_B {M : Model} {id : String} {args : List Value} {Q : Option Value → Shared → Prop} (X : K.In s.heap) (I : InstAt s.heap x ox C od) (hs : findIn K (.ref C) name = some (some (.builtin id))) (hb : ∀ self, bindSpecial (.builtin id) self = pure (.builtin id, [self]))
    (h : wpAny M A (call (.builtin id) (.ref x :: args)) (fun v => Q (some v)) E s) : wpAny M A (callSpecialIfBound? (.ref x) name args) Q E s := by
  have ended : wpAny M A (call (.builtin id) ([.ref x] ++ args) >>= fun v => pure (some v)) Q E s :=
    wpAny_bind (wpAny_mono h (fun _ _ => wpAny_pure) fun _ _ e => e)
  unfold callSpecialIfBound? bindSpecialIfBound?
  apply wpAny_holding
  iterate 3 apply wpAny_bind
  apply I.type.here
  apply (looks_findIn X hs).here
  apply wpAny_bind
  apply wpAny_askSetting
  apply wpAny_ite
  split <;> rw [hb]
  all_goals repeat (first | exact ended | apply wpAny_tryCatch | apply wpAny_bind | apply wpAny_pure)
open PySem.W in
/-- object.__ne__ of an instance whose __eq__ is the text's own -/
theorem objNe_own {Q : Fin → Shared → Prop} (X : K.In s.heap) (I : InstAt s.heap x ox C od) (hu : A.units < cLine) (hs : findIn K (.ref C) "__eq__" = some (some (.ref f))) (hf : isFn K (.ref f) = true)
    (h : wpAny (model prog w) A (call (.ref f) [.ref x, b]) (fun v s' => ∃ r, v = .bool r ∧ Q (.done (.ret (.bool (!r)))) s') E s) :
    wpAny (model prog w) A (Builtin.«object.__ne__» ⟨[.ref x, b], []⟩) Q E s := by
  have eqd := fun (R : Option Value → Shared → Prop) (z : ∀ r s', Q (.done (.ret (.bool (!r)))) s' → R (some (.bool r)) s') =>
    ifBound_K (args := [b]) (Q := R) X I hs hf (wpAny_mono h (fun _ s' ⟨r, e, q⟩ => e ▸ z r s' q) fun _ _ e => e)
  unfold Builtin.«object.__ne__»
  repeat (first
    | (with_reducible apply wpAny_cRoomFor hu)
    | (apply wpAny_bind (m := callSpecialIfBound? (.ref x) (Str.ofString "__eq__") [b]); apply eqd; intro r s' q)
    | exact q
    | exact wpAny_pure q
    | exact wpAny_truthy_bool q
    | (apply wpAny_bind (m := truthy (.bool _)); apply wpAny_truthy_bool)
    | wp_step)
open PySem.W in
/-- the comparison's own answer, where the left side is asked first and answers -/
theorem asked_first {Q : Value → Shared → Prop} (hu : A.units < cLine) (X : K.In s.heap) (I : InstAt s.heap x ox C od) (hb : Looks (model prog w) s.heap (typeOf b) tb) (hn : notFirst K C tb = true)
    (one : wpAny (model prog w) A (tryCompare (.ref x) (cmpInfo .NotEq).2.1 b) (fun r s' => ∃ v, r = some v ∧ Q v s') E s) : wpAny (model prog w) A (richCompare .NotEq (.ref x) b) Q E s := by
  have no : (tb != .ref C) = true → subIn K tb (.ref C) = some false := fun z => by
    have hn' : (tb == .ref C || subIn K tb (.ref C) == some false) = true := hn
    rw [show (tb == .ref C) = false from by simpa [bne] using z, Bool.false_or] at hn'
    exact beq_iff_eq.mp hn'
  have rest := fun (k : Option Value → Sem Value) (hk : ∀ v, k (some v) = pure v) => wpAny_bind (f := k) (wpAny_mono one (fun r s' ⟨v, e, q⟩ => show wpAny (model prog w) A (k r) Q E s' by rw [e, hk]; exact wpAny_pure q) fun _ _ e => e)
  simp only [richCompare, oneThing_ref]
  apply wpAny_holding
  apply wpAny_bind
  apply wpAny_cRoomFor hu
  apply wpAny_bind
  apply I.type.here
  apply wpAny_bind
  apply hb.here
  by_cases q : (Value.ref C != tb) = true
  · rw [if_pos q]
    apply wpAny_bind
    apply (looks_subIn X (no (bne_comm.trans q))).here
    exact rest _ fun _ => rfl
  · rw [if_neg q]
    exact wpAny_bind (wpAny_pure (rest _ fun _ => rfl))
open PySem.W in
theorem cmp_neOwn {Q : Value → Shared → Prop} (hu : A.units + 1 < cLine) (X : K.In s.heap) (I : InstAt s.heap x ox C od) (hb : Looks (model prog w) s.heap (typeOf b) tb) (hn : notFirst K C tb = true) (hs : findIn K (.ref C) "__eq__" = some (some (.ref f))) (hf : isFn K (.ref f) = true)
    (hsN : findIn K (.ref C) "__ne__" = some (some (.builtin "object.__ne__"))) (hm : mroIn K C (.type "object") = some true)
    (h : wpAny (model prog w) A.in1 (call (.ref f) [.ref x, b]) (fun v s' => ∃ r, v = .bool r ∧ Q (.bool (!r)) s') E s) : wpAny (model prog w) A (richCompare .NotEq (.ref x) b) Q E s := by
  apply asked_first (Nat.lt_of_succ_lt hu) X I hb hn
  unfold tryCompare
  apply wpAny_bind
  apply ifBound_B X I hsN F.slot_object_ne.bind
  apply wpAny_call (codeAny_call_builtin F.slot_object_ne.plain F.cmpEntry_ne (check_slot F.cmpKind_ne F.cmpSplit_ne (I.type.andThen (looks_mroIn X hm)) (F.cmpArgs_ne _ _) _))
  exact objNe_own X I (A := A.in1) hu hs hf (wpAny_mono h (fun _ _ ⟨r, e, q⟩ => ⟨r, e, wpAny_pure ⟨_, rfl, q⟩⟩) fun _ _ e => e)
end
section
variable {X : Cx} {CX : CXT} {n : Nat} {C f : Addr} {fd : FuncData} {ps : List Str} {sp : Sp} {E : XK}
/-- the call of an own __eq__ that answers with a bool -/
theorem call_eq {A' : Around} {pins : List (Addr × Obj)} {s : Shared} {σ : L2.St} {H : Hp} {a : Addr} {y : V} {u : Value} {Q : Bool → Hp → Prop} (F : FnOk X.prog X.w X.K X.mg X.base CX n f fd ps sp) (hb : L2.Binds X.K fd ps []) (hx : Passes CX X E) (I : Inv X pins σ H s) (ry : RelV y u)
    (hr : Room n A') (he : Env0 X.prog X.w X.K X.mg X.base A' X.stack s H) (hsp : sp [.ref a, y] H (fun v H' => ∃ b, v = .bl b ∧ Q b H') E) :
    wpAny (model X.prog X.w) A' (call (.ref f) [.ref a, u]) (fun v s' => ∃ b, v = .bool b ∧ ∃ H', Inv X pins σ H' s' ∧ Q b H') X.xe s := by
  have bound := hb s [.ref a, u] I.kIn (by simpa using F.len _ _ _ _ hsp)
  apply wpAny_call (codeAny_mono (F.run A' X.stack s H ⟨[.ref a, u], []⟩ [.ref a, u] [.ref a, y] _ E hr he (by simpa using bound) (.cons rfl (.cons ry .nil)) hsp) _)
  rintro (e | fl) s' hq
  · exact hx pins σ H s e s' I hq
  · cases fl with
    | ret v =>
      obtain ⟨_, H', I', rz, b, rfl, q⟩ := I.after hq
      exact ⟨b, rz, H', I', q⟩
    | _ => exact hq.elim
theorem op_eqOwn (F : FnOk X.prog X.w X.K X.mg X.base CX n f fd ps sp) (hs : PySem.W.findIn X.K (.ref C) "__eq__" = some (some (.ref f))) (hf : PySem.W.isFn X.K (.ref f) = true) (hb : L2.Binds X.K fd ps []) (hx : Passes CX X E) (hr : Room n X.A) :
    OpR X (compareOp .Eq) (rOwnEq X.K C sp E false) := by
  rintro pins s σ H x y v u Q I rx ry ⟨a, dx, fs, tb, rfl, ha, ty, hn, hsp⟩
  cases rx
  obtain ⟨_, ⟨od, J, _⟩⟩ := (ins_get I.hok ha).imp fun _ z => z.1.look
  obtain ⟨P, Z, p, _⟩ := kitV_of I ry ty
  obtain ⟨m, hF⟩ := I.fr
  exact PySem.W.cmp_K (op := .Eq) (tb := tb) hr.units0 hF I.ok.mod.kin J (Z.ty _ _ I.kIn p) hn hs hf
    (wpAny_mono (call_eq F hb hx I ry hr I.env0 hsp) (fun _ _ ⟨b, e, H', I', q⟩ => e ▸ ⟨.bl b, H', I', rfl, q⟩) fun _ _ e => e)
theorem op_neOwn (F : FnOk X.prog X.w X.K X.mg X.base CX n f fd ps sp) (hs : PySem.W.findIn X.K (.ref C) "__eq__" = some (some (.ref f))) (hf : PySem.W.isFn X.K (.ref f) = true) (hsN : PySem.W.findIn X.K (.ref C) "__ne__" = some (some (.builtin "object.__ne__")))
    (hm : PySem.W.mroIn X.K C (.type "object") = some true) (hb : L2.Binds X.K fd ps []) (hx : Passes CX X E) (hr : Room (n + 1) X.A) :
    OpR X (compareOp .NotEq) (rOwnEq X.K C sp E true) := by
  rintro pins s σ H x y v u Q I rx ry ⟨a, dx, fs, tb, rfl, ha, ty, hn, hsp⟩
  cases rx
  obtain ⟨_, ⟨od, J, _⟩⟩ := (ins_get I.hok ha).imp fun _ z => z.1.look
  obtain ⟨P, Z, p, _⟩ := kitV_of I ry ty
  exact cmp_neOwn (by have := hr.un; omega) I.kIn J (Z.ty _ _ I.kIn p) hn hs hf hsN hm
    (wpAny_mono (call_eq F hb hx I ry hr.in1 I.env0.in1 hsp) (fun _ _ ⟨b, e, H', I', q⟩ => ⟨b, e, .bl (!b), H', I', rfl, q⟩) fun _ _ e => e)
end
end L3
set_option maxRecDepth 100000
set_option maxHeartbeats 4000000
/-! promises that hold where nothing is being shown yet (no guards): calls of such defs, and the law's end -/
namespace L3
open PySem PySem.Spec PyProof.Rows L2 LamX
/-- a def's promise, where no object is being shown -/
structure FnG (P : Program) (w : World) (K : PySem.W.Frag) (mg : Str → Option Value) (base : Heap) (CX : CXT) (k : Nat) (f : Addr) (fd : FuncData) (ps : List Str) (sp : Sp) : Prop where
  len : ∀ vs H Q E, sp vs H Q E → vs.length = ps.length
  run : ∀ (A : Around) (outer : List Env) (s : Shared) (H : Hp) (args : Args) (us : List Value) (vs : List V) (Q : VK) (E : XK), A.guards = some [] → Room k A → Env0 P w K mg base A outer s H → BindsTo s fd args (ps.zip us) → Vals vs us → sp vs H Q E →
    codeAny (model P w) A (.call (.ref f) args) (CR CX outer P w H s Q E) s
theorem FnG.of {P : Program} {w : World} {K : PySem.W.Frag} {mg : Str → Option Value} {base : Heap} {CX : CXT} {k : Nat} {f : Addr} {fd : FuncData} {ps : List Str} {sp : Sp} (F : FnOk P w K mg base CX k f fd ps sp) : FnG P w K mg base CX k f fd ps sp :=
  ⟨F.len, fun A outer s H args us vs Q E _ => F.run A outer s H args us vs Q E⟩
section
variable {X : Cx} {CX : CXT} {k : Nat} {f : Addr} {fd : FuncData} {ps : List Str} {sp : Sp} {E : XK} {ds : List Value} {dvs : List V}
theorem run_g {pins : List (Addr × Obj)} {σ : L2.St} {H : Hp} {s : Shared} {Q : VK} {us : List Value} {vs : List V} (F : FnG X.prog X.w X.K X.mg X.base CX k f fd ps sp) (gd : X.A.guards = some []) (hr : Room k X.A) (hb : L2.Binds X.K fd ps ds) (hd : Vals dvs ds) (hx : Passes CX X E)
    (I : Inv X pins σ H s) (r : Vals vs us) (h : sp (vs ++ dvs) H Q E) : wpAny (model X.prog X.w) X.A (call (.ref f) us) (EP X pins σ Q) X.xe s := by
  have all : Vals (vs ++ dvs) (us ++ ds) := r.append hd
  have long : (us ++ ds).length = ps.length := all.length ▸ F.len _ _ _ _ h
  apply wpAny_call
  refine codeAny_mono (F.run X.A X.stack s H ⟨us, []⟩ _ _ Q E gd hr I.env0 (hb s us I.kIn long) all h) ?_
  rintro (e | fl) s' hq
  · exact hx pins σ H s e s' I hq
  · cases fl with
    | ret u => exact I.after hq
    | _ => exact hq.elim
/-- f(e, ..) -/
theorem pe_callG {x : Str} {p pos : Pos} {e : Expr} {es : List Expr} {t : TA} (F : FnG X.prog X.w X.K X.mg X.base CX k f fd ps sp) (gd : X.A.guards = some []) (hr : Room k X.A) (hg : Gl X x) (hm : X.mg x = some (.ref f)) (hk : PySem.W.keepIn X.K (.ref f) = true) (hb : L2.Binds X.K fd ps ds) (hd : Vals dvs ds) (hx : Passes CX X E)
    (ha : PA X (e :: es) t) (hdb : (x == ("__debug__" : Str)) = false := by decide) (he : starEach (e :: es) X.env = (false, eval e X.env) :: starEach es X.env := by rfl) (hpl : (backTo pos (starEach es X.env)).any (·.1) = false := by rfl) :
    PE X (.Call (.Name x p) (e :: es) [] pos) (tCall sp dvs E t) where
  run pins s σ H Q I h := by
    apply wpAny_Call_Name_kw
    apply ld_glob I hg hm _ hdb
    refine PySem.W.callWith_K (h₀ := X.base) I.ok.mod.kin hk (thn (ha.run pos pins s σ H _ I h) ?_) he hpl
    rintro us s₁ ⟨vs, H₁, I₁, r, q⟩
    exact ⟨I₁.kIn, run_g F gd hr hb hd hx I₁ r q⟩
end
/-- a def whose body's readings want that nothing is being shown -/
theorem fn_g {CX : CXT} {P : Program} {w : World} {K : PySem.W.Frag} {mg : Str → Option Value} {base : Heap} {k : Nat} {f : Addr} {name qual : Str} {params : Arguments} {body : List Stmt} {scope : Scope} {dV kV doc pm cdv ct oc : Value} {an od : Option Addr} {osl : Array (Option Value)} {N ps : List Str} {sp : Sp}
    (lk : K.lookup f = some ⟨oc, od, .func (PySem.W.fnOf name qual params body scope dV kV doc pm an cdv ct), osl⟩) (hcd : PySem.W.codeIn K cdv qual = true) (S : FnScope N ps scope) (hl : ∀ vs H Q E, sp vs H Q E → vs.length = ps.length)
    (h : ∀ (A : Around) (outer : List Env) (s : Shared) (H : Hp) (vs : List V) (Q : VK) (E : XK), (A.deeper (envOfC qual scope s.heap.objs.size f cdv)).guards = some [] → Room k (A.deeper (envOfC qual scope s.heap.objs.size f cdv)) → sp vs H Q E →
      ∃ t, PSs (cxOf CX P w K mg base N qual scope f cdv A outer s H E) body t ∧ t { nx := fun _ H' => Q .non H', rt := Q } (L2.start N vs) H) :
    FnG P w K mg base CX (k + 1) f (PySem.W.fnOf name qual params body scope dV kV doc pm an cdv ct) ps sp :=
  ⟨hl, fun A outer s H args us vs Q E gd hr e0 hb r hs => run_ofS lk hcd S hr e0 hb r (hl _ _ _ _ hs) fun hr' => h A outer s H vs Q E gd hr' hs⟩
section
variable {K : PySem.W.Frag} {h : Heap} {ts : List Addr} {a : Addr} {vs : Array Value} {xs : List V}
/-- what is tracked as the law begins: the tables, and the script's list as it stands (if the written part has it not) -/
def H₀ (K : PySem.W.Frag) (ts : List Addr) (a : Addr) (vs : Array Value) (xs : List V) : Hp := fun b =>
  if b ∈ ts then some (.tbl #[]) else if b = a ∧ (K.lookup a).isNone = true then some (.frz { cls := .type "list", data := .seq vs } (.lst xs)) else none
theorem H₀_tab {b : Addr} (e : b ∈ ts) : H₀ K ts a vs xs b = some (.tbl #[]) := if_pos e
theorem H₀_at (n : a ∉ ts) (k : K.lookup a = none) : H₀ K ts a vs xs a = some (.frz { cls := .type "list", data := .seq vs } (.lst xs)) := by
  unfold H₀
  rw [if_neg n, if_pos ⟨rfl, by rw [k]; rfl⟩]
theorem H₀_cases (b : Addr) : H₀ K ts a vs xs b = none ∨ (b ∈ ts ∧ H₀ K ts a vs xs b = some (.tbl #[])) ∨ (b = a ∧ K.lookup a = none ∧ H₀ K ts a vs xs b = some (.frz { cls := .type "list", data := .seq vs } (.lst xs))) := by
  unfold H₀
  by_cases t : b ∈ ts
  · exact .inr (.inl ⟨t, if_pos t⟩)
  · rw [if_neg t]
    by_cases e : b = a ∧ (K.lookup a).isNone = true
    · exact .inr (.inr ⟨e.1, Option.isNone_iff_eq_none.mp e.2, if_pos e⟩)
    · exact .inl (if_neg e)
theorem H₀_off (hT : ∀ b ∈ ts, h.get? b = some { cls := .none, data := .fields #[] }) (ha : h.get? a = some { cls := .type "list", data := .seq vs }) {b : Addr} {o : Obj} (e : h.get? b = some o) (n1 : ∀ v n, o.data ≠ .seq v n) (n2 : o.data ≠ .fields #[]) : H₀ K ts a vs xs b = none := by
  rcases H₀_cases (K := K) (ts := ts) (a := a) (vs := vs) (xs := xs) b with z | ⟨t, _⟩ | ⟨rfl, _, _⟩
  · exact z
  · obtain rfl := Option.some.inj (e.symm.trans (hT b t))
    exact (n2 rfl).elim
  · obtain rfl := Option.some.inj (e.symm.trans ha)
    exact (n1 _ _ rfl).elim
end
section
variable {P : Program} {w : World} {K : PySem.W.Frag} {mg mb : Str → Option Value} {CX : CXT} {k : Nat} {fa a : Addr} {cs : List (Addr × Addr)} {fd : FuncData} {x : Str} {sp : Sp} {s₁ : Shared} {vs : List Value} {ns : List Int}
theorem law_g (KX : K.In s₁.heap) (hns : s₁.heap.Ns mainGlobals mg) (hb : s₁.heap.Ns builtinsNs mb) (hbb : ∀ x : Str, x ≠ "__name__" → mb x = bootBuiltins x) (hlim : s₁.heap.NoLimit) (hg : s₁.gens = #[])
    (hT : ∀ p ∈ cs, s₁.heap.get? p.2 = some { cls := .none, data := .fields #[] }) (nT : ∀ p ∈ cs, K.lookup p.2 = none) (C : ∀ p ∈ cs, PySem.W.CodeHd s₁.heap p.1 p.2) (hbm : ∃ (bm : Addr) (ob : Obj), mg "__builtins__" = some (.ref bm) ∧ bm ≠ builtinsNs ∧ s₁.heap.get? bm = some ob ∧ ob.cls = .type "module" ∧ ob.dict = some builtinsNs ∧ ob.data = .plain)
    (ha : s₁.heap.get? a = some { cls := .type "list", data := .seq vs.toArray }) (hi : IntsAre vs ns) (hl : ns.length ≤ sizeLine) (hr : Room k callerA)
    (F : ∀ base : Heap, K.In base → base.Ns mainGlobals mg → (∀ p ∈ cs, TabB base mg p.1 p.2) → FnG P w K mg base CX k fa fd [x] sp) (hbind : ∀ (s : Shared) (u : Value), BindsTo s fd ⟨[u], []⟩ [(x, u)])
    (hsp : ∀ H : Hp, (∀ p ∈ cs, H p.2 = some (.tbl #[])) → SqL K H a (ns.map V.int) → sp [.ref a] H (fun v _ => v = .bl true) fun _ _ _ => False)
    (hCX : ∀ H e s', CX [] H s₁ (fun _ _ _ => False) e s' → False) :
    codeAny (model P w) callerA (.call (.ref fa) ⟨[.ref a], []⟩) (fun r s' => r = .ok (.ret (.bool true)) ∧ OldK s₁.heap s'.heap ∧ s'.os = s₁.os ∧ AllBare s'.gens) s₁ := by
  have values := vals_ints hi
  have long : vs.length = ns.length := hi.length
  have tab : ∀ b ∈ cs.map (·.2), s₁.heap.get? b = some { cls := .none, data := .fields #[] } := fun b m => by
    obtain ⟨p, hp, rfl⟩ := List.mem_map.mp m
    exact hT p hp
  have mem : ∀ p ∈ cs, p.2 ∈ cs.map (·.2) := fun p hp => List.mem_map_of_mem hp
  have na : a ∉ cs.map (·.2) := fun m => by
    cases ha.symm.trans (tab a m)
  let H : Hp := H₀ K (cs.map (·.2)) a vs.toArray (ns.map V.int)
  have stays : ∀ {b o}, s₁.heap.get? b = some o → (∀ v n, o.data ≠ .seq v n) → o.data ≠ .fields #[] → (hidT s₁.heap H).get? b = some o := fun e n1 n2 => hidT_get e (H₀_off tab ha e n1 n2)
  have space : ∀ {b m}, s₁.heap.Ns b m → (hidT s₁.heap H).Ns b m := fun ⟨o, es, ep, e, d, r⟩ => ⟨o, es, ep, stays e (fun _ _ z => by rw [d] at z; cases z) (fun z => by rw [d] at z; cases z), d, r⟩
  have inK : K.In (hidT s₁.heap H) := fun b o e => hidT_get (KX b o e) (by
    rcases H₀_cases (K := K) (ts := cs.map (·.2)) (a := a) (vs := vs.toArray) (xs := ns.map V.int) b with z | ⟨m, _⟩ | ⟨rfl, n, _⟩
    · exact z
    · obtain ⟨p, hp, rfl⟩ := List.mem_map.mp m
      cases (nT p hp).symm.trans e
    · cases n.symm.trans e)
  have mod : L2.Mod K mg (hidT s₁.heap H) := ⟨inK, space hns, ⟨mb, space hb, hbb⟩, hlim.elim fun mc z => ⟨mc, space z.1, z.2⟩⟩
  have tables : ∀ p ∈ cs, TabB (hidT s₁.heap H) mg p.1 p.2 := fun p hp => by
    have at_ := hT p hp
    have apart : ∀ {q o}, s₁.heap.get? q = some o → o.data ≠ .fields #[] → q ≠ p.2 := fun e n z => by
      rw [z, at_] at e
      exact n (Option.some.inj e ▸ rfl)
    constructor
    · obtain ⟨o, us, file, tf, flags, tg, inF, text, tt, e, c, d, r⟩ := C p hp
      exact ⟨o, us, file, tf, flags, tg, inF, text, tt, stays e (fun _ _ z => by rw [d] at z; cases z) (fun z => by rw [d] at z; cases z; cases r.1), c, d, r⟩
    · obtain ⟨bm, ob, b1, b2, b3, b4, b5, b6⟩ := hbm
      refine ⟨bm, ob, b1, b2, fun z => ?_, apart b3 (fun z => by rw [b6] at z; cases z), stays b3 (fun _ _ z => by rw [b6] at z; cases z) (fun z => by rw [b6] at z; cases z), b4, b5, b6⟩
      obtain ⟨o, es, ep, e, d, _⟩ := hns
      obtain rfl := Option.some.inj ((z ▸ b3).symm.trans e)
      cases b6.symm.trans d
    · obtain ⟨o, es, ep, e, d, _⟩ := hns
      exact apart e fun z => by rw [d] at z; cases z
  have held : HOk P w H s₁.heap := fun b u e => by
    rcases H₀_cases (K := K) (ts := cs.map (·.2)) (a := a) (vs := vs.toArray) (xs := ns.map V.int) b with z | ⟨m, z⟩ | ⟨rfl, _, z⟩ <;> cases e.symm.trans z
    · exact tab b m
    · exact ⟨ha, by rw [List.length_map]; exact hl, vs, _, values, ha⟩
  have script : SqL K H a (ns.map V.int) := by
    cases n : K.lookup a with
    | none => exact .inl (.inr ⟨_, H₀_at na n⟩)
    | some o =>
      obtain rfl := Option.some.inj ((KX a o n).symm.trans ha)
      exact .inr ⟨_, vs.toArray, _, n, rfl, rfl, rfl, by rw [List.size_toArray, long]; exact hl, by simpa using values⟩
  have tracked : ∀ p ∈ cs, H p.2 = some (.tbl #[]) := fun p hp => H₀_tab (mem p hp)
  have e0 : Env0 P w K mg (hidT s₁.heap H) callerA [] s₁ H := ⟨rfl, mod, fun b o e => of_hidT e, Nat.le_of_eq (hidT_size _ _), trivial, fun b m => (List.not_mem_nil m).elim, held, .of_eq hg⟩
  refine codeAny_mono ((F _ inK (space hns) tables).run callerA [] s₁ H ⟨[.ref a], []⟩ [.ref a] [.ref a] _ _ rfl hr e0 (hbind s₁ (.ref a)) (.cons rfl .nil) (hsp H tracked script)) ?_
  rintro (e | fl) s' q
  · exact (hCX H e s' q).elim
  cases fl with
  | ret u =>
    obtain ⟨v, H', os, bare, un, held', rv, rfl⟩ := q
    obtain rfl : u = .bool true := rv
    have kept : ∀ b o, b ∉ cs.map (·.2) → s₁.heap.get? b = some o → s'.heap.get? b = some o := fun b o n e => by
      rcases H₀_cases (K := K) (ts := cs.map (·.2)) (a := a) (vs := vs.toArray) (xs := ns.map V.int) b with z | ⟨m, _⟩ | ⟨rfl, _, z⟩
      · exact un.keep b o e z (fun m => (List.not_mem_nil m).elim) (by simp)
      · exact (n m).elim
      · obtain ⟨e', _⟩ : ObjOk P w H' s'.heap b (.frz _ _) := held' b _ (un.frzs b _ _ z)
        exact e'.trans (ha.symm.trans e)
    have grown : ∀ p ∈ cs, ∃ more : Array Value, s'.heap.get? p.2 = some { cls := .none, data := .fields more } := fun p hp => by
      obtain ⟨more, z⟩ := un.tbls p.2 #[] (tracked p hp)
      exact ⟨_, held' p.2 _ z⟩
    refine ⟨rfl, ⟨fun b o e => ?_, fun b o e => ?_⟩, os, bare⟩
    · by_cases m : b ∈ cs.map (·.2)
      · obtain ⟨p, hp, rfl⟩ := List.mem_map.mp m
        obtain ⟨more, g⟩ := grown p hp
        obtain rfl := Option.some.inj ((tab _ m).symm.trans e)
        exact .inr (.inl ⟨((C p hp).tab (hT p hp)).isCodeTable, rfl, #[], more, rfl, by rw [Array.empty_append]; exact g⟩)
      · exact .inl (kept b o m e)
    · by_cases m : b ∈ cs.map (·.2)
      · obtain ⟨p, hp, rfl⟩ := List.mem_map.mp m
        exact (grown p hp).elim fun _ g => ⟨_, g⟩
      · exact ⟨o, kept b o m e⟩
  | _ => exact q.elim
end
/-- what is known of the law's promise at the head's heap h -/
def LawG (l : PySem.W.OpenLaw) (w : World) (K : PySem.W.Frag) (CX : CXT) (k n : Nat) (x : Str) (mg : Str → Option Value) (fa : Addr) (h : Heap) : Prop :=
  ∃ (fd : FuncData) (cs : List (Addr × Addr)) (sp : Sp), (∀ p ∈ cs, h.get? p.2 = some { cls := .none, data := .fields #[] }) ∧ (∀ p ∈ cs, K.lookup p.2 = none) ∧ (∀ p ∈ cs, PySem.W.CodeHd h p.1 p.2) ∧ (∀ (s : Shared) (u : Value), BindsTo s fd ⟨[u], []⟩ [(x, u)]) ∧
    (∀ (H : Hp) (a : Addr) (ns : List Int), ns.length ≤ n → (∀ p ∈ cs, H p.2 = some (.tbl #[])) → SqL K H a (ns.map V.int) → sp [.ref a] H (fun v _ => v = .bl true) fun _ _ _ => False) ∧
    ∀ base : Heap, K.In base → base.Ns mainGlobals mg → (∀ p ∈ cs, TabB base mg p.1 p.2) → FnG l.prog w K mg base CX k fa fd [x] sp
theorem walk_g {l : PySem.W.OpenLaw} {n k : Nat} {q : Program} {loose : List Str} {XP : (Str → Option Value) → Heap → Prop} {YP : World → Heap → Prop} {d : DefRec} {K : Params → PySem.W.Frag} {CX : World → CXT} {x : Str}
    (hn : l.most = some n) (hn2 : n ≤ sizeLine) (hdf : d.params.defaults = []) (hr : Room k callerA) (hY : ∀ (w : World) (h : Heap), YP w h → (K w.params).In h)
    (F : ∀ (w : World) (mg : Str → Option Value) (fa : Addr) (h : Heap), YP w h → (K w.params).In h → h.Ns mainGlobals mg → mg d.name = some (.ref fa) → LawG l w (K w.params) (CX w) k n x mg fa h)
    (hCX : ∀ (w : World) (H : Hp) (s : Shared) (e : Value) (s' : Shared), CX w [] H s (fun _ _ _ => False) e s' → False) : PySem.W.WalkO q loose XP YP l.row.toRowW d [] (fun f vs => PySem.call f vs) := by
  apply Att.attach_callB hn hdf
  intro w s₀ s₁ mg mb fa o pm cd doc a vs ns G Y ho hd hcd hmg hobj hints hlen _ hg
  obtain ⟨fd, cs, sp, hT, nT, C, hb, hsp, hF⟩ := F w mg fa _ Y (hY w _ Y) G.T.g hmg
  exact law_g (hY w _ Y) G.T.g G.T.b G.T.builtins G.T.nolimit hg hT nT C G.T.bmain hobj hints (Nat.le_trans hlen hn2) hr hF hb (fun H hH hS => hsp H a ns hlen hH hS) fun H e s' => hCX w H s₁ e s'
end L3
set_option maxRecDepth 100000
set_option maxHeartbeats 4000000
/-! an exception whose __init__ says super().__init__(text) and then stores what it got -/
namespace L3
open PySem PySem.Spec PyProof.Rows L2 PySem.W
/-- what the written part says of the class at C and its __init__'s code -/
structure SupT (P : Program) (K : Frag) (mg : Str → Option Value) (C cc cda : Addr) (qual : Str) : Prop where
  T : OexC K C
  ii : excInitIn K C [.type "ValueError", .type "Exception", .type "BaseException", .type "object"] "ValueError.__new__" = true
  hcd : codeIn K (.ref cda) qual = true
  file : ∃ (ccl : Value) (cdd : Option Addr) (vs : Array Value) (ccs : Array (Option Value)) (file : Str) (tf : Tok), K.lookup cda = some ⟨ccl, cdd, .fields vs, ccs⟩ ∧ vs[2]? = some (.str file tf) ∧ ((P.main.file : Str) == file) = true
  cell : ∃ (cl : Value) (cld : Option Addr) (csl : Array (Option Value)), K.lookup cc = some ⟨cl, cld, .cell (some (.ref C)), csl⟩
  cls : ∃ cdC, clsIn K C = some cdC
  sup : ks_superIn K C C "__init__" = some (some (.builtin "ValueError.__init__"))
  sve : subIn K (.ref C) (.type "ValueError") = some true
  opq : nsIn K cStatics "thirdparty.any" = some none
  mro : mroIn K C (.ref C) = some true
  nosup : mg "super" = none
  top : (P.main.scope.names.lookup ("super" : Str)).isSome = false
section
variable {P : Program} {w : World} {K : Frag} {mg : Str → Option Value} {base : Heap} {A : Around} {E : Value → Shared → Prop}
/-- super(): the object that looks behind the class -/
theorem super_here {C cc cda x f : Addr} {qual q : Str} {h₀ : Heap} {L : Addr} {m : Str → Option Value} {news : List (Addr × Obj)} {body : List Stmt} {scope : Scope} {p0 p1 : Pos} {attr : Str} {whole : Sem Value} {fd : FuncData} {ar : Arg} {ox : Obj} {odx : Option Obj} {oc : Value} {od : Option Addr} {osl : Array (Option Value)} {s : Shared} {Q : Value → Shared → Prop}
    (S : SupT P K mg C cc cda qual) (M : Mod K mg h₀) (F : Fr h₀ L s.heap m) (N : News h₀ L s.heap news) (lk : K.lookup f = some ⟨oc, od, .func fd, osl⟩) (hp : (fd.params.posonlyargs ++ fd.params.args).head? = some ar) (hv : m ar.arg = some (.ref x)) (I : InstAt s.heap x ox C odx)
    (hat : (attr == ("__class__" : Str)) = false) (hks : scope.names.lookup ("super" : Str) = some .globalImplicit) (hkc : scope.names.lookup ("__class__" : Str) = some .free) (hka : scope.names.lookup ar.arg = some .local) (hk : scope.kind = .function)
    (h : ∀ so h', Fr h₀ L h' m → News h₀ L h' ((so, ks_superObj C x C) :: news) → (∀ p ∈ news, p.1 < so) → Q (.ref so) { s with heap := h' }) :
    PySem.wpAt (model P w) A (.func body (ksEnv q scope L f (.ref cda) cc)) (attributeBase (.Call (.Name "super" p0) [] [] p1) attr (ksEnv q scope L f (.ref cda) cc) whole) Q E s := by
  obtain ⟨_, _, vs, _, file, tf, hcode, hvs, hfile⟩ := S.file
  obtain ⟨_, _, _, hcell⟩ := S.cell
  obtain ⟨cd, hcl⟩ := S.cls
  obtain ⟨mb, hblt, hboot⟩ := M.blt
  have X : K.In s.heap := M.kin.keeps F.keep
  obtain ⟨oC, there, isc⟩ : ∃ o, s.heap.get? C = some o ∧ o.data = .cls cd := by
    revert hcl
    unfold clsIn
    split
    · rename_i e
      intro z
      exact ⟨_, X _ _ e, by cases z; rfl⟩
    · exact fun z => nomatch z
  apply ks_wpAt_super_base (env := ksEnv q scope L f (.ref cda) cc) hks hkc hat rfl (X _ _ lk) rfl hp rfl (X _ _ hcode) rfl hvs hfile S.top
  apply ks_loadName_global (env := ksEnv q scope L f (.ref cda) cc) hk hks
  apply Calls.loadGlobal_builtin (env := ksEnv q scope L f (.ref cda) cc) (M.glob.keeps F.keep) S.nosup (hblt.keeps F.keep) ((hboot _ (by decide +kernel)).trans (by first | boot_by_name | kernel_rfl))
  refine ⟨rfl, ?_⟩
  apply wpAny_loadName_free (env := ksEnv q scope L f (.ref cda) cc) hk hkc rfl ⟨_, X _ _ hcell, rfl⟩
  apply wpAny_loadName_local (env := ksEnv q scope L f (.ref cda) cc) hk hka F.ns hv
  obtain ⟨hh, g, d, t, os⟩ := s
  apply ks_wpAny_isType_cls there isc
  refine ⟨rfl, ?_⟩
  apply ks_wpAny_call_super there isc I.at_ I.cls
  · intro c e
    have n := I.no
    unfold notCls at n
    rw [e] at n
    cases n
  · exact looks_mroIn X S.mro
  · intro h' e k
    obtain ⟨F', N', lt⟩ := ks_newsPush (s := ⟨hh, g, d, t, os⟩) F N rfl e k
    exact h _ _ F' N' lt
/-- super().__init__(text), then the rest: the exception has other args, all else stays -/
theorem sup_first {C cc cda a t₁ f : Addr} {qual q : Str} {h₀ : Heap} {L : Addr} {m : Str → Option Value} {rest : List Stmt} {body : List Stmt} {scope : Scope} {p0 p1 p2 p3 p4 p5 : Pos} {txt : Str} {j : Nat} {fd : FuncData} {ar : Arg} {oc : Value} {od : Option Addr} {osl : Array (Option Value)} {s : Shared} {Q : Flow → Shared → Prop}
    (S : SupT P K mg C cc cda qual) (M : Mod K mg h₀) (F : Fr h₀ L s.heap m) (N : News h₀ L s.heap [(a, excObj C t₁ none .none)]) (lk : K.lookup f = some ⟨oc, od, .func fd, osl⟩) (hp : (fd.params.posonlyargs ++ fd.params.args).head? = some ar) (hv : m ar.arg = some (.ref a))
    (hks : scope.names.lookup ("super" : Str) = some .globalImplicit) (hkc : scope.names.lookup ("__class__" : Str) = some .free) (hka : scope.names.lookup ar.arg = some .local) (hk : scope.kind = .function)
    {pl : Sem Bool} (he : eval (.Call (.Attribute (.Call (.Name "super" p0) [] [] p1) "__init__" p2) [.Constant (.str txt) j p3] [] p4) (ksEnv q scope L f (.ref cda) cc) = (do
      let ov ← attributeBase (.Call (.Name "super" p0) [] [] p1) "__init__" (ksEnv q scope L f (.ref cda) cc) (eval (.Call (.Name "super" p0) [] [] p1) (ksEnv q scope L f (.ref cda) cc))
      standAt p2.atName
      let (g, first) ← holding [ov] (getMethod ov "__init__" pl)
      callWith p4 g first (backTo p4 (starEach [.Constant (.str txt) j p3] (ksEnv q scope L f (.ref cda) cc))) []))
    (hs : swapsWith (.Call (.Attribute (.Call (.Name "super" p0) [] [] p1) "__init__" p2) [.Constant (.str txt) j p3] [] p4) none p5.line (ksEnv q scope L f (.ref cda) cc) = pure false) (hi : interactive (ksEnv q scope L f (.ref cda) cc) = false)
    (h : ∀ t₂ h' k', Fr h₀ L h' m → News h₀ L h' [(a, excObj C t₂ none .none)] → wpAny (model P w) A (execs rest (ksEnv q scope L f (.ref cda) cc)) Q E { s with heap := h', toks := k' }) :
    PySem.wpAt (model P w) A (.func body (ksEnv q scope L f (.ref cda) cc)) (execs (.Expr (.Call (.Attribute (.Call (.Name "super" p0) [] [] p1) "__init__" p2) [.Constant (.str txt) j p3] [] p4) p5 :: rest) (ksEnv q scope L f (.ref cda) cc)) Q E s := by
  have I : InstAt s.heap a (excObj C t₁ none .none) C none := .of_exc0 N List.mem_cons_self
  refine ks_wpAt_execs_cons (ks_wpAt_Expr_any (ks_wpAt_MethodCall (pl := pl) ?_ he) hi hs)
  apply super_here S M F N lk hp hv I rfl hks hkc hka hk
  intro so h₁ F₁ N₁ lt₁
  have I₁ : InstAt h₁ a (excObj C t₁ none .none) C none := .of_exc0 N₁ (.tail _ List.mem_cons_self)
  apply kxs_method (s := { s with heap := h₁ }) kxs_ValueError F₁ M.kin N₁ List.mem_cons_self I₁ S.opq S.sup S.sve (by decide)
  intro u h₂ F₂ N₂ lt₂
  refine kxs_callWith1 N₂ List.mem_cons_self (Calls.spliced_cons (Calls.Constant_str (k := j) (pos := p3) (Calls.spliced_nil ?_)))
  have na : a < so := lt₁ _ List.mem_cons_self
  have nu : a < u := lt₂ (a, _) (.tail _ List.mem_cons_self)
  refine ⟨kxs_at N₂ List.mem_cons_self, ?_⟩
  refine kxs_call F₂ M.kin N₂ PySem.F.excBase_ValueError S.ii List.mem_cons_self (.tail (Nat.ne_of_gt nu) (.tail (Nat.ne_of_gt na) (.head fun _ z => nomatch z))) (by show 1 ≤ sizeLine; decide) ?_
  intro t₂ h₃ F₃ N₃ _
  exact wpAt_of_wpAny (h t₂ h₃ _ F₃ fun p hp => N₃ p (.tail _ (.tail _ (.tail _ hp))))
/-- where an exception gets its dict: what else lies in the heap stays -/
theorem exc_fills {fs₀ : List Addr} {H : Hp} {h h' : Heap} {a C dx t₂ : Addr} {fs : List (Str × V)} {mA : Str → Option Value} (hok : HOk P w H h) (ea : H a = some (exo a C none)) (dn : h.objs.size ≤ dx) (k : ∀ b o, b ≠ a → h.get? b = some o → h'.get? b = some o)
    (hx : h'.get? a = some (excObj C t₂ (some dx) .none)) (hn : h'.Ns1 dx mA) (r : ∀ g, RelO (fs.lookup g) (mA g)) :
    Un fs₀ [] H (upd (upd H dx (exd dx fs)) a (exo a C (some dx))) h h' ∧ HOk P w (upd (upd H dx (exd dx fs)) a (exo a C (some dx))) h' := by
  have nd : H dx = none := hok.fresh dn
  have off : ∀ {b o}, H b = some o → b ≠ dx := fun e => ne_of_none e nd
  have other : ∀ {b o}, H b = some o → (∀ d, o ≠ exo a C d) → b ≠ a := fun e n z => n none (Option.some.inj ((z ▸ e).symm.trans ea))
  have keep : ∀ {b o}, H b = some o → (∀ d, o ≠ exo a C d) → (upd (upd H dx (exd dx fs)) a (exo a C (some dx))) b = some o := fun e n => by rw [upd_ne (other e n), upd_ne (off e), e]
  have none_a : ∀ {b}, H b = none → b ≠ a := fun n z => by rw [z, ea] at n; cases n
  have old : ∀ {b o}, h.get? b = some o → b ≠ dx := fun e => Nat.ne_of_lt (Nat.lt_of_lt_of_le (Heap.lt_size e) dn)
  constructor
  · constructor
    · exact fun b o e n _ _ => k b o (none_a n) e
    · exact fun b o e n _ _ => ⟨o.slots, k b o (none_a n) e⟩
    · exact fun b o e n _ => by rw [upd_ne (none_a n), upd_ne (old e)]; exact n
    · intro b o e _
      by_cases z : b = a
      · exact ⟨_, z ▸ hx⟩
      · exact ⟨o, k b o z e⟩
    · exact fun b xs e => keep e fun d z => exo_tup z.symm
    · exact fun b o u e => keep e fun d z => exo_frz z.symm
    · exact fun b ps e => ⟨#[], by rw [keep e fun d z => exo_tbl z.symm]; simp⟩
  · intro b o e
    by_cases z : b = a
    · subst z
      obtain rfl := Option.some.inj (upd_same.symm.trans e)
      exact exo_ok hx
    rw [upd_ne z] at e
    by_cases y : b = dx
    · subst y
      obtain rfl := Option.some.inj (upd_same.symm.trans e)
      exact exd_ok hn r
    rw [upd_ne y] at e
    refine (hok b o e).stay (fun c v hc q => k c v (hc.elim (fun c' => c' ▸ z) fun c' => other c' fun d x => exo_own x.symm) q) (fun c hc => keep hc fun d x => exo_own x.symm) fun c xs hc => keep hc fun d x => exo_tup x.symm
/-- what such an __init__ promises -/
def spSup (C : Addr) (x : Str) : Sp := fun vs H Q _ => ∃ (a : Addr) (y : V), vs = [.ref a, y] ∧ H a = some (exo a C none) ∧ ∀ dx, H dx = none → dx ≠ a → Q .non (upd (upd H dx (exd dx [(x, y)])) a (exo a C (some dx)))
theorem ok_sup {CX : CXT} {C cc cda f : Addr} {name qual x : Str} {params : Arguments} {scope : Scope} {dV kV doc pm ct oc : Value} {an od : Option Addr} {osl : Array (Option Value)} {p0 p1 p2 p3 p4 p5 q1 q2 q3 q4 : Pos} {txt : Str} {j : Nat} {ar : Arg}
    (S : SupT P K mg C cc cda qual) (hno : findIn K (.ref C) x = some none)
    (lk : K.lookup f = some ⟨oc, od, .func (ksFn name qual params [.Expr (.Call (.Attribute (.Call (.Name "super" p0) [] [] p1) "__init__" p2) [.Constant (.str txt) j p3] [] p4) p5, .Assign [.Attribute (.Name "self" q1) x q2] (.Name x q3) q4] scope dV kV doc pm an (.ref cda) ct cc), osl⟩)
    (hp : (params.posonlyargs ++ params.args).head? = some ar) (har : ar.arg = ("self" : Str)) (hx : x ≠ "self") (hd : (x == ("__debug__" : Str)) = false)
    (hks : scope.names.lookup ("super" : Str) = some .globalImplicit) (hkc : scope.names.lookup ("__class__" : Str) = some .free) (hka : scope.names.lookup ("self" : Str) = some .local) (hkx : scope.names.lookup x = some .local) (hk : scope.kind = .function)
    (hcell : ∀ x ∈ scope.names, x.2 ≠ .cell) (hco : scope.isCoroutine = false) (hgen : scope.isGenerator = false)
    {pl : Sem Bool} (he : ∀ L, eval (.Call (.Attribute (.Call (.Name "super" p0) [] [] p1) "__init__" p2) [.Constant (.str txt) j p3] [] p4) (ksEnv qual scope L f (.ref cda) cc) = (do
      let ov ← attributeBase (.Call (.Name "super" p0) [] [] p1) "__init__" (ksEnv qual scope L f (.ref cda) cc) (eval (.Call (.Name "super" p0) [] [] p1) (ksEnv qual scope L f (.ref cda) cc))
      standAt p2.atName
      let (g, first) ← holding [ov] (getMethod ov "__init__" pl)
      callWith p4 g first (backTo p4 (starEach [.Constant (.str txt) j p3] (ksEnv qual scope L f (.ref cda) cc))) []))
    (hs : ∀ L, swapsWith (.Call (.Attribute (.Call (.Name "super" p0) [] [] p1) "__init__" p2) [.Constant (.str txt) j p3] [] p4) none p5.line (ksEnv qual scope L f (.ref cda) cc) = pure false) (hi : ∀ L, interactive (ksEnv qual scope L f (.ref cda) cc) = false)
    (hs2 : ∀ L, swapsWith (.Name x q3) (some (.Attribute (.Name "self" q1) x q2)) q4.line (ksEnv qual scope L f (.ref cda) cc) = pure false) :
    FnOk P w K mg base CX 1 f (ksFn name qual params [.Expr (.Call (.Attribute (.Call (.Name "super" p0) [] [] p1) "__init__" p2) [.Constant (.str txt) j p3] [] p4) p5, .Assign [.Attribute (.Name "self" q1) x q2] (.Name x q3) q4] scope dV kV doc pm an (.ref cda) ct cc) ["self", x] (spSup C x) := by
  refine ⟨fun vs H Q E ⟨_, _, e, _⟩ => by rw [e]; rfl, fun A outer s H args us vs Q E hr e0 hb r hsp => ?_⟩
  obtain ⟨a, y, rfl, ha, fin⟩ := hsp
  obtain ⟨_, u, rfl, r1, ry⟩ := vals2 r
  cases r1
  have up : ∀ b o, base.get? b = some o → s.heap.get? b = some o := fun b o e => (e0.bs b o e).1
  have KX : K.In s.heap := e0.mod.kin.keeps up
  obtain ⟨t₁, hat⟩ := exo_at e0.hok ha
  have off : ∀ b o, base.get? b = some o → b ∉ [a] := fun b o e z => by
    have n := (e0.bs b o e).2
    rw [List.mem_singleton.mp z, ha] at n
    cases n
  have up₀ : ∀ b o, base.get? b = some o → (hideAll s.heap [a]).get? b = some o := fun b o e => hideAll_get _ (up b o e) (off b o e)
  obtain ⟨mb, hb1, hb2⟩ := e0.mod.blt
  have M : Mod K mg (hideAll s.heap [a]) := ⟨e0.mod.kin.keeps up₀, e0.mod.glob.keeps up₀, ⟨mb, hb1.keeps up₀, hb2⟩, e0.mod.nolimit.keeps up₀⟩
  refine ks_codeAny_call_defAt (body := _) hr.depth (KX _ _ lk) rfl (e0.mod.nolimit.keeps up) (codeRec_of KX S.hcd) rfl hb hcell ?_ (fun h₁ hns hk₁ => ?_) hco hgen hk
  · intro p hp
    simp at hp
    rcases hp with rfl | rfl
    · exact hka
    · exact hkx
  have F : Fr (hideAll s.heap [a]) s.heap.objs.size h₁ _ := ⟨hns, fun b o e => hk₁ b o (of_hideAll _ e), Nat.le_of_eq (hideAll_size _ _)⟩
  have N : News (hideAll s.heap [a]) s.heap.objs.size h₁ [(a, excObj C t₁ none .none)] := fun p hp => by
    rw [List.mem_singleton.mp hp]
    exact ⟨hk₁ _ _ hat, Nat.ne_of_lt (Heap.lt_size hat), hideAll_none _ List.mem_cons_self⟩
  obtain ⟨nm, qn, NN, bs, bm, sn, sub, ab, col, dd, k0, k1, k2, k3, k5, hC, hbm⟩ := S.T.cls
  have hcl : clsIn K C = some { name := nm, bases := bs, mro := .ref C :: bm, ns := NN, qualname := qn, hasDict := true, slotNames := sn, subclasses := sub, abstract := ab, collection := col, hasDel := false } := by
    unfold clsIn
    rw [hC] <;> rfl
  refine sup_first (q := qual) (L := s.heap.objs.size) S M F N lk hp ?_ hks hkc (har ▸ hka) hk (he _) (hs _) (hi _) ?_
  · rw [har]
    show List.lookup ("self" : Str) [(x, u), (("self" : Str), Value.ref a)] = _
    rw [List.lookup_cons, show (("self" : Str) == x) = false from beq_eq_false_iff_ne.mpr fun z => hx z.symm]
    rfl
  intro t₂ h₂ k₂ F₂ N₂
  have M₂ : K.In h₂ := M.kin.keeps F₂.keep
  have at₂ := (N₂ _ List.mem_cons_self).1
  refine wpAny_execs_cons (plainObj_wpAny_Assign_Attribute (wpAny_Name (wpAny_loadName_local (env := ksEnv qual scope s.heap.objs.size f (.ref cda) cc) hk hkx F₂.ns (v := u) ?_ (wpAny_Name (wpAny_loadName_local (env := ksEnv qual scope s.heap.objs.size f (.ref cda) cc) hk hka F₂.ns (v := .ref a) ?_ ?_))) hd) (hs2 _))
  · show List.lookup x [(x, u), (("self" : Str), Value.ref a)] = _
    rw [List.lookup_cons, beq_self_eq_true]
  · show List.lookup ("self" : Str) [(x, u), (("self" : Str), Value.ref a)] = _
    rw [List.lookup_cons, show (("self" : Str) == x) = false from beq_eq_false_iff_ne.mpr fun z => hx z.symm]
    rfl
  refine set_plain (ox := excObj C t₂ none .none) (od := none) M₂ (.of_exc0 N₂ List.mem_cons_self) S.T.sa ?_
  refine HandSPX.exc_osa M₂ at₂ hcl (show HandSPX.refsVE (.ref C :: bm) = true from hbm) rfl hno fun h₃ k₃ dx keep₃ dn dne hx₃ hn₃ => ?_
  have big : s.heap.objs.size ≤ dx := by
    obtain ⟨_, _, _, e, _⟩ := F₂.ns
    exact Nat.le_trans (Nat.le_of_lt (Heap.lt_size e)) dn
  obtain ⟨un, hok⟩ := exc_fills (P := P) (w := w) (fs₀ := frs outer) (fs := [(x, y)]) e0.hok ha big (fun b o n e => keep₃ b o n (F₂.keep b o (hideAll_get _ e fun z => n (List.mem_singleton.mp z)))) hx₃ hn₃ (relO_put (fs := []) ry fun _ => True.intro)
  exact wpAny_execs_nil ⟨.non, _, rfl, e0.bare, un, hok, rfl, fin dx (e0.hok.fresh big) dne⟩
end
/-- an attribute of a kept exception -/
def tExf (C : Addr) (n : Str) (te : TE) : TE := fun σ H Q => te σ H fun x H₁ => ∃ (a d : Addr) (fs : List (Str × V)) (v : V), x = .ref a ∧ H₁ a = some (ExV (.ref C) (some d) a) ∧ H₁ d = some (.xd fs) ∧ fs.lookup n = some v ∧ Q v H₁
theorem pe_exf {X : Cx} {C : Addr} {e : Expr} {te : TE} {pos : Pos} {n : Str} (T : XfC X.K C) (hno : findIn X.K (.ref C) n = some none) (he : PE X e te) (hb : attributeBase e n X.env (eval e X.env) = eval e X.env := by rfl) : PE X (.Attribute e n pos) (tExf C n te) where
  run pins s σ H Q I h := by
    apply attr_of hb
    apply thn (he.run pins s σ H _ I h)
    rintro u s₁ ⟨_, H₁, I₁, rx, a, d, fs, v, rfl, ea, ed, l, q⟩
    obtain rfl : u = .ref a := rx
    have tracked : ObjOk X.prog X.w H₁ s₁.heap d (.xd fs) := I₁.hok d _ ed
    obtain ⟨mA, ns, rel⟩ := tracked
    obtain ⟨od, there, look⟩ := lookIn_ns ns
    have rn := rel n
    rw [l] at rn
    obtain ⟨u, hu, ru⟩ := RelO.some_of rn
    obtain ⟨⟨oe, vs, he', hz, hd⟩, _⟩ := I₁.hok a _ ea
    have J : InstAt s₁.heap a oe C (some od) := ⟨he', hz.1, by unfold notCls; rw [hd] <;> rfl, hz.2.symm ▸ there⟩
    exact HandSPX.exc_get I₁.kIn J T.ga T.gg T.exC (findObj_own T.hdC hno rfl ((look n).trans (congrArg some hu))) (handed_of ru) ⟨v, H₁, I₁.tok _, ru, q⟩
end L3
set_option maxRecDepth 100000
set_option maxHeartbeats 4000000
/-! repr of data; methods by keywords; list.count of bools -/
namespace L3
open PySem PySem.Spec PyProof.Rows L2
/-- a dict of ints -/
def dInt (ps : List (Int × Int)) : List (Key × V) := ps.map fun p => (Sum.inl p.1, V.int p.2)
/-- a value and the data that it is -/
inductive ThV (H : Hp) : V → PyData → Prop where
  | non : ThV H .non .none
  | bl (b : Bool) : ThV H (.bl b) (.bool b)
  | int (i : Int) : ThV H (.int i) (.int i)
  | str (x : Str) : ThV H (.str x) (.str x)
  | lst {a : Addr} {ns : List Int} (e : H a = some (.lst (ns.map V.int))) : ThV H (.ref a) (.list (ns.map .int))
  | tup {a : Addr} {ns : List Int} (e : H a = some (.tup (ns.map V.int))) : ThV H (.ref a) (.tuple (ns.map .int))
  | dct {a : Addr} {ps : List (Int × Int)} (e : H a = some (.dK (dInt ps))) : ThV H (.ref a) (.dict (ps.map fun p => (.int p.1, .int p.2)))
theorem ThV.mono {H H' : Hp} {v : V} {d : PyData} (h : ThV H v d) (k : ∀ a o, v = .ref a → H a = some o → (∀ ps, o ≠ .tbl ps) → H' a = some o) : ThV H' v d := by
  cases h with
  | non => exact .non
  | bl b => exact .bl b
  | int i => exact .int i
  | str x => exact .str x
  | lst e => exact .lst (k _ _ rfl e fun ps z => nomatch z)
  | tup e => exact .tup (k _ _ rfl e fun ps z => nomatch z)
  | dct e => exact .dct (k _ _ rfl e fun ps z => nomatch z)
/-- what can be shown -/
def Fits (d : PyData) : Prop := d.showable = true ∧ d.shown.length ≤ 10000 ∧ ∀ i, d = .int i → i.natAbs < 2 ^ 80
def rRepr : List V → Hp → VK → Prop := fun xs H Q => ∃ v d, xs = [v] ∧ ThV H v d ∧ Fits d ∧ Q (.str d.shown) H
theorem reads_ints {h : Heap} : ∀ {ns : List Int} {us : List Value}, Vals (ns.map V.int) us → ReadsAll h us (ns.map .int) []
  | [], _, r => by cases r; exact .nil
  | n :: ns, _, r => by
    cases r with
    | cons r₁ r₂ =>
      obtain ⟨t, rfl⟩ := r₁
      exact .cons (.int n t) (reads_ints r₂)
theorem pairs_read {prog : Program} {w : World} {h : Heap} : ∀ {ps : List (Int × Int)} {vs : List (Key × Value)} {es : List DictEntry}, KV (dInt ps) vs → Pairs (mixKind prog w) es vs → ReadsAll h (es.map (·.key)) (ps.map fun p => .int p.1) [] ∧ ReadsAll h (es.map (·.val)) (ps.map fun p => .int p.2) []
  | [], _, _, r, p => by
    cases r
    cases p
    exact ⟨.nil, .nil⟩
  | (i, j) :: ps, _, _, r, p => by
    cases r with
    | cons r₁ r₂ =>
      cases p with
      | cons k e p' =>
        obtain ⟨e1, t, e2⟩ := r₁
        obtain ⟨a, b⟩ := pairs_read r₂ p'
        rw [← e1] at k
        rcases keyIs_shape (k := Sum.inl i) k with ⟨i', t', z, ek⟩ | ⟨x, t', z, _⟩
        · obtain rfl := Sum.inl.inj z
          exact ⟨by rw [List.map_cons, ek]; exact .cons (.int i t') a, by rw [List.map_cons, e, e2]; exact .cons (.int j t) b⟩
        · exact nomatch z
/-- objects were made, none of them tracked -/
theorem grown {X : Cx} {pins : List (Addr × Obj)} {σ : L2.St} {H : Hp} {s : Shared} {h' : Heap} {t' : Nat} (I : Inv X pins σ H s) (k : ∀ b o, s.heap.get? b = some o → h'.get? b = some o) : Inv X pins σ H { s with heap := h', toks := t' } :=
  I.un ⟨fun b o e _ _ _ => k b o e, fun b o e _ _ _ => ⟨o.slots, k b o e⟩, fun _ _ _ n _ => n, fun b o e _ => ⟨o, k b o e⟩, fun _ _ e => e, fun _ _ _ e => e, fun b ps e => ⟨#[], by rw [e]; simp⟩⟩
    fun b o e => (I.hok b o e).stay (fun c v _ q => k c v q) (fun _ q => q) fun _ _ q => q
theorem depth_ints : ∀ ns : List Int, PyData.depthAll (ns.map .int) ≤ 1
  | [] => by decide
  | n :: ns => by
    have ih := depth_ints ns
    simp only [List.map_cons, PyData.depthAll, PyData.depth]
    omega
theorem depth_pairs : ∀ ps : List (Int × Int), PyData.depthKv (ps.map fun p => (.int p.1, .int p.2)) ≤ 1
  | [] => by decide
  | p :: ps => by
    have ih := depth_pairs ps
    simp only [List.map_cons, PyData.depthKv, PyData.depth]
    omega
theorem noDict : ∀ ns : List Int, PyData.hasDictAll (ns.map .int) = false
  | [] => rfl
  | n :: ns => by
    simp only [List.map_cons, PyData.hasDictAll, PyData.hasDict]
    rw [noDict ns]
    rfl
section
variable {X : Cx} {k : Nat}
theorem call_repr (gd : X.A.guards = some []) (hr : Room k X.A) : CallR X (.builtin "repr") rRepr := by
  rintro pins s σ H xs us Q I r ⟨v, d, rfl, t, ⟨h1, h3, _⟩, q⟩
  obtain ⟨u, rfl, ru⟩ := vals1 r
  have h2 : d.shown.length ≤ sizeLine := by rw [sizeLine_eq]; omega
  have room := hr.un
  have shown : ∀ {a : Addr} {as : List Addr}, u = .ref a → Reads s.heap u d as → (d.hasDict = true → sysModules ∉ as) → d.depth ≤ 9 → wpAny (model X.prog X.w) X.A (call (.builtin "repr") [u]) (EP X pins σ Q) X.xe s := by
    rintro a as rfl rd hs hd
    exact repr_of_reads' rd h1 hs gd (by omega) (fun _ _ e => e) (fun h' u' tk keep => ⟨.str d.shown, H, grown I keep, ⟨_, rfl⟩, q⟩) h2
  cases t with
  | non => cases ru; exact P.repr_of_none ⟨.str _, H, I.tok _, ⟨_, rfl⟩, q⟩
  | bl b => cases ru; exact P.repr_of_bool ⟨.str _, H, I.tok _, ⟨_, rfl⟩, q⟩
  | int i => obtain ⟨_, rfl⟩ := ru; exact P.repr_of_int (by simpa [PyData.showable] using h1) ⟨.str _, H, I.tok _, ⟨_, rfl⟩, q⟩
  | str x => obtain ⟨_, rfl⟩ := ru; exact P.repr_of_str ⟨.str _, H, I.tok _, ⟨_, rfl⟩, q⟩ h2
  | @lst a ns e =>
    obtain rfl : u = .ref a := ru
    obtain ⟨its, rv, ⟨o, n, ho, hc, _, hd⟩, _⟩ := I.list (SqL.of e)
    have dp := depth_ints ns
    exact shown rfl (.list ho hc hd (by simpa using reads_ints rv)) (fun z => absurd z (by simp only [PyData.hasDict]; rw [noDict ns]; decide)) (by simp only [PyData.depth]; omega)
  | @tup a ns e =>
    obtain rfl : u = .ref a := ru
    obtain ⟨its, rv, ⟨o, ho, hc, n, hd⟩, _⟩ := I.tuple (SqT.of e)
    have dp := depth_ints ns
    exact shown rfl (.tuple ho hc hd (by simpa using reads_ints rv)) (fun z => absurd z (by simp only [PyData.hasDict]; rw [noDict ns]; decide)) (by simp only [PyData.depth]; omega)
  | @dct a ps e =>
    obtain rfl : u = .ref a := ru
    have z : ObjOk X.prog X.w H s.heap a (.dK (dInt ps)) := I.hok a _ e
    obtain ⟨_, ns, vs, kv, o, es, n, ho, ⟨hc, _⟩, hd, _, pr, _⟩ := z
    obtain ⟨r1, r2⟩ := pairs_read kv pr
    have rd := Reads.dict (kvs := ps.map fun p => (.int p.1, .int p.2)) ho hc hd (by rw [List.map_map]; exact r1) (by rw [List.map_map]; exact r2)
    exact shown rfl rd (fun _ m => by simp at m; rw [m] at ns; simp at ns) (by have dp := depth_pairs ps; simp only [PyData.depth]; omega)
end
/-! ### methods called by keywords -/
def tMethK (C : Addr) (m : Str) (n q : Nat) (sp : Sp) (gV : List V → List V → List V) (E : XK) (ta : TE) (t tk : TA) : TE := fun σ H Q => ta σ H fun x H₁ => ∃ (a dx : Addr) (fs : List (Str × V)), x = .ref a ∧ H₁ a = some (.ins C dx fs) ∧ fs.lookup m = none ∧
  t σ H₁ fun vs H₂ => tk σ H₂ fun zs H₃ => vs.length = n ∧ zs.length = q ∧ sp (gV (.ref a :: vs) zs) H₃ Q E
section
variable {X : Cx} {CX : CXT} {k n : Nat} {C f : Addr} {fd : FuncData} {ps ks : List Str} {sp : Sp} {E : XK} {m : Str} {apos pos : Pos} {o e : Expr} {es : List Expr} {kws : List Keyword} {ta : TE} {t tk : TA} {g : List Value → List Value → List Value} {gV : List V → List V → List V} {pl : Sem Bool}
/-- o.m(k = v, ..) -/
theorem pe_methK0 (he : PE X o ta) (c : Cls X.K C) (hm : Meth X.K C m f) (F : FnOk X.prog X.w X.K X.mg X.base CX k f fd ps sp) (hr : Room k X.A) (hb : KBn X.K fd ps 1 ks g gV) (hx : Passes CX X E) (hkw : PK X kws tk)
    (hall : (backToKw pos (keywordEach kws X.env)).all (·.1.isSome) = true := by rfl) (hks : (backToKw pos (keywordEach kws X.env)).filterMap (·.1) = ks := by rfl)
    (hpl : ((backTo pos (starEach [] X.env)).any (·.1) || (backToKw pos (keywordEach kws X.env)).any (·.1.isNone)) = false := by rfl)
    (ht : eval (.Call (.Attribute o m apos) [] kws pos) X.env = (do
      let ov ← eval o X.env
      standAt apos.atName
      let (f, first) ← holding [ov] (getMethod ov m pl)
      callWith pos f first (backTo pos (starEach [] X.env)) (backToKw pos (keywordEach kws X.env))) := by rfl) :
    PE X (.Call (.Attribute o m apos) [] kws pos) (tMethK C m 0 ks.length sp gV E ta tNil tk) where
  run pins s σ H Q I h := by
    refine PySem.W.methodCall_KW (pl := pl) (thn (he.run pins s σ H _ I h) ?_) ht
    rintro u s₁ ⟨_, H₁, I₁, rx, a, dx, fs, rfl, ea, l, q⟩
    obtain rfl : u = .ref a := rx
    apply getmeth_ok I₁ ea c hm l
    refine PySem.W.callWith_KW0 (first := [.ref a]) (h₀ := X.base) I₁.ok.mod.kin hm.kp hall (thn (hkw.run pos pins s₁ σ H₁ _ I₁ q) ?_) hpl
    rintro ws s₂ ⟨zs, H₂, I₂, rz, _, l2, q₂⟩
    rw [hks]
    exact ⟨I₂.kIn, run_fnN (vs := [.ref a]) F hr hb hx I₂ (.cons rfl .nil) rz rfl l2 q₂⟩
/-- o.m(e, .., k = v, ..) -/
theorem pe_methKN (he : PE X o ta) (c : Cls X.K C) (hm : Meth X.K C m f) (F : FnOk X.prog X.w X.K X.mg X.base CX k f fd ps sp) (hr : Room k X.A) (hb : KBn X.K fd ps (n + 1) ks g gV) (hx : Passes CX X E) (ha : PA X (e :: es) t) (hkw : PK X kws tk)
    (hall : (backToKw pos (keywordEach kws X.env)).all (·.1.isSome) = true := by rfl) (hks : (backToKw pos (keywordEach kws X.env)).filterMap (·.1) = ks := by rfl)
    (hst : starEach (e :: es) X.env = (false, eval e X.env) :: starEach es X.env := by rfl) (hpl : ((backTo pos (starEach (e :: es) X.env)).any (·.1) || (backToKw pos (keywordEach kws X.env)).any (·.1.isNone)) = false := by rfl)
    (ht : eval (.Call (.Attribute o m apos) (e :: es) kws pos) X.env = (do
      let ov ← eval o X.env
      standAt apos.atName
      let (f, first) ← holding [ov] (getMethod ov m pl)
      callWith pos f first (backTo pos (starEach (e :: es) X.env)) (backToKw pos (keywordEach kws X.env))) := by rfl) :
    PE X (.Call (.Attribute o m apos) (e :: es) kws pos) (tMethK C m n ks.length sp gV E ta t tk) where
  run pins s σ H Q I h := by
    refine PySem.W.methodCall_KW (pl := pl) (thn (he.run pins s σ H _ I h) ?_) ht
    rintro u s₁ ⟨_, H₁, I₁, rx, a, dx, fs, rfl, ea, l, q⟩
    obtain rfl : u = .ref a := rx
    apply getmeth_ok I₁ ea c hm l
    refine PySem.W.callWith_KW (first := [.ref a]) (h₀ := X.base) I₁.ok.mod.kin hm.kp hall (thn (ha.run pos pins s₁ σ H₁ _ I₁ q) ?_) hpl hst
    rintro us s₂ ⟨vs, H₂, I₂, r, q₂⟩
    refine thn (hkw.run pos pins s₂ σ H₂ _ I₂ q₂) ?_
    rintro ws s₃ ⟨zs, H₃, I₃, rz, l1, l2, q₃⟩
    rw [hks]
    exact ⟨I₃.kIn, run_fnN (us := .ref a :: us) (vs := .ref a :: vs) F hr hb hx I₃ (.cons rfl r) rz (congrArg (· + 1) l1) l2 q₃⟩
end
/-! ### list.count of bools -/
def isBv (b : Bool) : Value → Bool | .bool c => c == b | _ => false
def rCntB (K : PySem.W.Frag) : V → List V → Hp → VK → Prop := fun x xs H Q => ∃ (p : Addr) (bs : List Bool) (b : Bool), x = .ref p ∧ xs = [.bl b] ∧ SqL K H p (bs.map V.bl) ∧ Q (.int (bs.count b : Nat)) H
theorem vals_bools : ∀ {bs : List Bool} {us : List Value}, Vals (bs.map V.bl) us → us = bs.map Value.bool
  | [], _, r => by cases r; rfl
  | b :: bs, _, r => by
    cases r with
    | cons r₁ r₂ =>
      cases r₁
      rw [vals_bools r₂]
      rfl
theorem count_bools (b : Bool) : ∀ bs : List Bool, (bs.map Value.bool).countP (isBv b) = bs.count b
  | [] => rfl
  | c :: bs => by
    rw [List.map_cons, List.countP_cons, List.count_cons, count_bools b bs]
    rfl
theorem mt_countB {X : Cx} : MtR X "list.count" (rCntB X.K) := by
  rintro pins s σ H x xs v us Q I rx rxs ⟨p, bs, b, rfl, rfl, hs, q⟩
  obtain rfl : v = .ref p := rx
  obtain ⟨u, rfl, ru⟩ := rxs.one
  cases ru
  obtain ⟨its, rv, ⟨⟨cls, dd, data, sl⟩, n, ho, hc, hdn, hd⟩, _⟩ := I.list hs
  dsimp only at hc hd
  subst hc hd
  obtain rfl := vals_bools rv
  refine call_meets PySem.F.slot_list_count ⟨_, ho, rfl⟩ PySem.F.entry_list_count (PySem.F.args_list_count_2 _ _) (SeqAt.list_countAt p (bs.map Value.bool).toArray n dd sl (.bool b) (isBv b)) ⟨ho, fun y hy => ?_, ?_⟩
  · obtain ⟨c, _, rfl⟩ := List.mem_map.mp (List.mem_toArray.mp hy)
    have z := eqAt_V (A := X.A.in1) (s := s) (x := .bl b) (y := .bl c) rfl rfl rfl rfl
    exact z
  · refine ⟨.int (bs.count b : Nat), H, I.tok _, ⟨s.toks, ?_⟩, q⟩
    rw [← count_bools b bs]
end L3
set_option maxRecDepth 100000
set_option maxHeartbeats 4000000
/-! != of two lists whose items are equal by their own == -/
namespace L3
open PySem PySem.Spec PySem.SeqAt PyProof.Rows L2
open AutoSeq1 (wpAny_loadPart')
open MeetsSeq MeetsSeq2 MeetsSeq3 SeqRoads2
section
variable {prog : Program} {w : World} {A : Around} {R : Result → Shared → Prop} {l b : Addr} {N : Nat} {I : Nat → Shared → Prop}
theorem ne_turns (hl : GQ.ListI prog w A (fun e s' => R (.error e) s') l b N I) (fin : ∀ s, I N s → R (.ok (.ret (.bool false))) s) : ∀ (left i : Nat), i + left = N → ∀ s, I i s →
    wpAny (model prog w) A.in1 (Builtin.«list.__eq__.loop» ⟨[.ref l, .ref b, rawInt i, rawInt 3], []⟩) (GQ.FinOf prog w A R) (fun e s' => R (.error e) s') s
  | 0, i, e, s, h => by
    obtain rfl : i = N := e
    obtain ⟨xs, ys, _, _, ex, ey, zx, zy, _⟩ := hl _ _ h
    have done := fin s h
    obtain ⟨hp, g, d, tk, os⟩ := s
    wp_walk using wpAny_loadPart' ex, wpAny_loadPart' ey
    rw [show xs[((i : Nat) : Int).toNat]? = none from by simp [zx], show ys[((i : Nat) : Int).toNat]? = none from by simp [zy]]
    wp_walk using wpAny_loadPart' ex, wpAny_loadPart' ey
    show R (.ok (.ret (.bool (xs.size != ys.size)))) _
    simpa [zx, zy] using done
  | left + 1, i, e, s, h => by
    obtain ⟨xs, ys, _, _, ex, ey, zx, zy, turn⟩ := hl _ _ h
    have ix : i < xs.size := by omega
    have iy : i < ys.size := by omega
    have step := turn ix iy
    obtain ⟨hp, g, d, tk, os⟩ := s
    wp_walk using wpAny_loadPart' ex, wpAny_loadPart' ey
    rw [show xs[((i : Nat) : Int).toNat]? = some xs[i] from by simp [ix], show ys[((i : Nat) : Int).toNat]? = some ys[i] from by simp [iy]]
    refine wpAny_bind (wpAny_mono step ?_ fun _ _ x => x)
    rintro r s₂ ⟨rfl, h₂⟩
    have rest := ne_turns hl fin left (i + 1) (by omega) s₂ h₂
    obtain ⟨hp2, g2, d2, tk2, os2⟩ := s₂
    wp_walk
    rw [show ((i : Int) + 1) = ((i + 1 : Nat) : Int) from by omega]
    exact ⟨plainId_quiet plain_eq_loop _, codeAny_builtin entry_eq_loop (by rw [Around.under_plainId plain_eq_loop _]; exact rest)⟩
theorem ne_lists (hl : GQ.ListI prog w A (fun e s' => R (.error e) s') l b N I) (fin : ∀ s, I N s → R (.ok (.ret (.bool false))) s) {s : Shared} (h : I 0 s) :
    wpAny (model prog w) A.in1 (Builtin.«list.__ne__» ⟨[.ref l, .ref b], []⟩) (GQ.FinOf prog w A R) (fun e s' => R (.error e) s') s := by
  obtain ⟨xs, ys, _, _, ex, ey, zx, zy, _⟩ := hl _ _ h
  have all := ne_turns hl fin N 0 (Nat.zero_add N) s h
  obtain ⟨hp, g, d, tk, os⟩ := s
  have sub := AutoSeq1.sub_list_list
  have same : ¬ (xs.size != ys.size) = true := by simp [zx, zy]
  wp_walk using wpAny_loadPart' ex, wpAny_loadPart' ey
  exact ⟨plainId_quiet plain_eq_loop _, codeAny_builtin entry_eq_loop (by rw [Around.under_plainId plain_eq_loop _]; exact all)⟩
end
section
variable {X : Cx} {n : Nat} {D : Eqv}
def rNeList (D : Eqv) : R2 := fun x y H Q => DList D x y H ∧ ∀ H', Ext H H' → Q (.bl false) H'
theorem op_neList (hD : Mon D) (h : EqG X n D) (hr : Room (n + 2) X.A) : OpR X (compareOp .NotEq) (rNeList D) := by
  rintro pins s σ H x y u v Q I rx ry ⟨⟨a, b, xs, ys, rfl, rfl, ha, hb, p⟩, q⟩
  cases rx
  cases ry
  have sb : Sub X (n + 1) X.A := ⟨hr.mono (by omega), rfl⟩
  show wpAny (model X.prog X.w) X.A (richCompare .NotEq (.ref a) (.ref b)) (EP X pins σ Q) X.xe s
  obtain ⟨_, _, _, _, ea⟩ := I.hok a _ ha
  obtain ⟨_, _, _, _, eb⟩ := I.hok b _ hb
  refine wpAny_richCompare_same_room (op := .NotEq) ⟨_, ea, rfl⟩ ⟨_, eb, rfl⟩ PySem.F.slot_list_ne (GQ.call_here PySem.F.slot_list_ne ⟨_, ea, rfl⟩ PySem.F.entry_list_ne (PySem.F.args_list_ne_2 _ _) ?_) hr.units0
  refine ne_lists (N := xs.length) (I := fun _ s' => LoopI X pins σ H s') (fun i s' hI => ?_) (fun s' hI => ?_) ⟨H, I, Ext.rfl'⟩
  · obtain ⟨H₁, I₁, e₁⟩ := id hI
    obtain ⟨_, its, k, r, e⟩ := I₁.hok a _ (e₁ _ _ ha)
    obtain ⟨_, its2, k2, r2, e2⟩ := I₁.hok b _ (e₁ _ _ hb)
    exact ⟨its.toArray, its2.toArray, k, k2, e, e2, by rw [List.size_toArray, ← r.length], by rw [List.size_toArray, ← r2.length, ← p.1], fun h1 h2 => turnG hD h sb p r r2 i h1 h2 s' hI⟩
  · obtain ⟨H₁, I₁, e₁⟩ := hI
    exact ⟨(fun z => nomatch z), .bl false, H₁, I₁, rfl, q H₁ e₁⟩
end
/-- the exception as it stands behind such an __init__ -/
theorem mk_sup {C : Addr} {x : Str} {y : V} {H : Hp} {Q : XK} {E : XK} (h : ∀ d, H d = none → Q (.ref C) (some d) (upd H d (.xd [(x, y)]))) : ∀ a, H a = none → spSup C x [.ref a, y] (upd H a (exo a C none))
    (fun v H₂ => v = .non ∧ ∃ (d : Addr) (fs : List (Str × V)), H₂ a = some (exo a C (some d)) ∧ H₂ d = some (exd d fs) ∧ H d = none ∧ Q (.ref C) (some d) (upd (L2.del H₂ a) d (.xd fs))) E := fun a na => by
  refine ⟨a, y, rfl, upd_same, fun d nd da => ⟨rfl, d, [(x, y)], upd_same, by rw [upd_ne da, upd_same], ?_, ?_⟩⟩
  · rw [upd_ne da] at nd
    exact nd
  · rw [upd_ne da] at nd
    have e : upd (L2.del (upd (upd (upd H a (exo a C none)) d (exd d [(x, y)])) a (exo a C (some d))) a) d (.xd [(x, y)]) = upd H d (.xd [(x, y)]) := by
      funext b
      by_cases z : b = d
      · rw [z, upd_same, upd_same]
      · rw [upd_ne z, upd_ne z]
        by_cases z' : b = a
        · rw [z', L2.del_same, na]
        · rw [L2.del_ne z', upd_ne z', upd_ne z, upd_ne z']
    rw [e]
    exact h d nd
end L3
set_option maxRecDepth 100000
set_option maxHeartbeats 4000000
/-! dicts: update by another dict -/
namespace L3
open PySem PySem.Spec PyProof.Rows L2
theorem length_mergeK : ∀ (ms ks : List (Key × V)), (mergeK ks ms).length ≤ ks.length + ms.length
  | [], ks => Nat.le_refl _
  | m :: ms, ks => by
    have h := length_mergeK ms (putK ks m.1 m.2)
    have e := length_putK ks m.1 m.2
    show (mergeK (putK ks m.1 m.2) ms).length ≤ _
    rw [List.length_cons]
    omega
/-- a.update(b), two dicts that are not one -/
def rUpdD : V → List V → Hp → VK → Prop := fun x xs H Q => ∃ (a b : Addr) (ks ms : List (Key × V)), x = .ref a ∧ xs = [.ref b] ∧ a ≠ b ∧ H a = some (.dK ks) ∧ H b = some (.dK ms) ∧ ks.length + ms.length ≤ sizeLine ∧ Q .non (upd H a (.dK (mergeK ks ms)))
theorem mt_updD {X : Cx} : MtR X "dict.update" rUpdD := by
  rintro pins s σ H x xs v us Q I rx rxs ⟨a, b, ks, ms, rfl, rfl, nab, ha, hb, hl, q⟩
  obtain rfl : v = .ref a := rx
  obtain ⟨u, rfl, ru⟩ := rxs.one
  obtain rfl : u = .ref b := ru
  obtain ⟨z1, lo1, vs, rel1, dd1⟩ := dk_of I.hok ha
  obtain ⟨z2, lo2, ws, rel2, dd2⟩ := dk_of I.hok hb
  refine call_meetsIn PySem.F.slot_dict_update dd1.typeIs PySem.F.entry_dict_update (PySem.F.args_dict_update_2 _ _) (meets_dict_update (mixKind X.prog X.w) a b nab lo2)
    ⟨vs, ws, dd1, dd2, (by rw [← rel1.length, ← rel2.length]; exact hl), fun h' d1 d2 hs => ?_⟩
  have J := d_write (t' := s.toks) (ob := .dK (mergeK ks ms)) I (by rw [ha]; exact True.intro) hs (let ⟨q, _, _, hq, _⟩ := d1; ⟨q, hq⟩) (dk_new (Nat.le_trans (length_mergeK ms ks) hl) lo1 (rel2.merge rel1) d1)
  exact ⟨.non, _, J, rfl, q⟩
/-- a dict comprehension over a walk of N turns: St says what holds ahead of the r-th one, the new dict stands at D -/
theorem dc_it {Jt : It} {N : Nat} {Gd : Hp → Prop} {Yl : Nat → Hp → V → Hp → Prop} (wk : Walk Jt N Gd Yl) {gg : TG} {tst : TT} {key val : TE} {own : List Nat} {σ : L2.St} {Ha : Hp} {D : Addr} {Fin : Hp → Prop} (St : Nat → Hp → Prop) (start : St 0 (upd Ha D (.dK []))) (keeps : ∀ r G, r ≤ N → St r G → Gd G)
    (turn : ∀ r x G G', r < N → St r G → Yl r G x G' → gg x (wipe σ own) G' fun τ G2 => wipe τ own = wipe σ own ∧ tst τ G2 fun ok G3 =>
      if ok = true then key τ G3 fun y G4 => val τ G4 fun z G5 => ∃ kvs k, y = kV k ∧ G5 D = some (.dK kvs) ∧ kvs.length < sizeLine ∧ St (r + 1) (upd G5 D (.dK (putK kvs k z))) else St (r + 1) G3) (done : ∀ G, St N G → Fin G) :
    ∃ Inv : Nat → Nat → Hp → Prop, (∃ m, Inv 0 m (upd Ha D (.dK []))) ∧ ∀ r m G, Inv r m G →
      (Jt.stop r G ∧ Fin G) ∨ (Jt.go r G ∧ ∃ Nx : Hp → Prop, (∀ G', Nx G' → ∃ m', m' < m ∧ Inv (r + 1) m' G') ∧ ∀ x G', Jt.yld r G x G' → gg x (wipe σ own) G' fun τ G2 => wipe τ own = wipe σ own ∧ tst τ G2 fun ok G3 =>
        if ok = true then key τ G3 fun y G4 => val τ G4 fun z G5 => ∃ kvs k, y = kV k ∧ G5 D = some (.dK kvs) ∧ kvs.length < sizeLine ∧ Nx (upd G5 D (.dK (putK kvs k z))) else Nx G3) := by
  refine ⟨fun r m G => (m = N - r ∧ r ≤ N) ∧ St r G, ⟨N, ⟨rfl, Nat.zero_le N⟩, start⟩, ?_⟩
  intro r m G hI
  obtain ⟨⟨em, hr⟩, hs⟩ := hI
  have gd := keeps r G hr hs
  rcases Nat.lt_or_ge r N with lt | ge
  · refine .inr ⟨wk.goes r G lt gd, St (r + 1), ?_, fun x G' hy => turn r x G G' lt hs (wk.yields r G x G' lt gd hy)⟩
    intro G' h'
    exact ⟨N - (r + 1), by omega, ⟨rfl, lt⟩, h'⟩
  · have er : r = N := Nat.le_antisymm hr ge
    subst er
    exact .inl ⟨wk.stops G gd, done G hs⟩
end L3
set_option maxRecDepth 100000
set_option maxHeartbeats 4000000
/-! plain memories: lists of pairs as dicts, without a program -/
namespace Pm
open PySem L2
section
variable {α β γ : Type} [DecidableEq α]
def lk (l : List (α × β)) (a : α) : Option β := (l.find? fun p => decide (p.1 = a)).map (·.2)
def pt (l : List (α × β)) (a : α) (b : β) : List (α × β) := if (l.any fun p => decide (p.1 = a)) = true then l.map (fun p => if p.1 = a then (p.1, b) else p) else l ++ [(a, b)]
def dr (l : List (α × β)) (a : α) : List (α × β) := l.filter fun p => decide (p.1 ≠ a)
theorem lk_nil (a : α) : lk ([] : List (α × β)) a = none := rfl
theorem lk_cons (p : α × β) (l : List (α × β)) (a : α) : lk (p :: l) a = if p.1 = a then some p.2 else lk l a := by
  by_cases e : p.1 = a <;> simp [lk, List.find?_cons, e]
theorem any_lk (a : α) : ∀ l : List (α × β), (l.any fun p => decide (p.1 = a)) = (lk l a).isSome
  | [] => rfl
  | p :: l => by
    rw [List.any_cons, any_lk a l, lk_cons]
    by_cases e : p.1 = a <;> simp [e]
theorem lk_map_pt (a c : α) (b : β) : ∀ l : List (α × β), lk (l.map fun p => if p.1 = a then (p.1, b) else p) c = if c = a then (lk l a).map fun _ => b else lk l c
  | [] => by simp [lk]
  | p :: l => by
    rw [List.map_cons, lk_cons, lk_map_pt a c b l, lk_cons, lk_cons]
    by_cases e : p.1 = a
    · by_cases f : c = a
      · subst f; simp [e]
      · have g : ¬ p.1 = c := fun z => f (z.symm.trans e)
        have g' : ¬ a = c := fun z => f z.symm
        simp [e, f, g']
    · by_cases f : c = a
      · subst f; simp [e]
      · simp [e, f]
theorem lk_app (l : List (α × β)) (p : α × β) (c : α) : lk (l ++ [p]) c = (lk l c).or (if p.1 = c then some p.2 else none) := by
  induction l with
  | nil => rw [List.nil_append, lk_cons]; rfl
  | cons q l ih =>
    rw [List.cons_append, lk_cons, lk_cons, ih]
    by_cases e : q.1 = c <;> simp [e]
theorem lk_pt (l : List (α × β)) (a c : α) (b : β) : lk (pt l a b) c = if c = a then some b else lk l c := by
  unfold pt
  rw [any_lk]
  cases h : lk l a with
  | some x =>
    simp only [Option.isSome_some, if_true]
    rw [lk_map_pt, h]
    rfl
  | none =>
    rw [if_neg (by simp), lk_app]
    by_cases e : c = a
    · subst e; simp [h]
    · have e' : ¬ a = c := fun z => e z.symm
      simp [e, e']
theorem lk_dr (l : List (α × β)) (a c : α) : lk (dr l a) c = if c = a then none else lk l c := by
  induction l with
  | nil => simp [dr, lk]
  | cons p l ih =>
    unfold dr at ih ⊢
    rw [List.filter_cons]
    by_cases e : p.1 = a
    · rw [if_neg (by simp [e]), ih, lk_cons]
      by_cases f : c = a
      · simp [f]
      · have g : ¬ p.1 = c := fun z => f (z.symm.trans e)
        simp [f, g]
    · rw [if_pos (by simp [e]), lk_cons, ih, lk_cons]
      by_cases f : c = a
      · subst f; simp [e]
      · simp [f]
theorem lk_none (l : List (α × β)) (a : α) : lk l a = none ↔ a ∉ l.map (·.1) := by
  induction l with
  | nil => simp [lk]
  | cons p l ih =>
    rw [lk_cons, List.map_cons, List.mem_cons]
    by_cases e : p.1 = a
    · simp [e]
    · have e' : ¬ a = p.1 := fun z => e z.symm
      simp [e, e', ih]
theorem lk_mem {l : List (α × β)} {a : α} {b : β} (h : lk l a = some b) : (a, b) ∈ l := by
  induction l with
  | nil => cases h
  | cons p l ih =>
    rw [lk_cons] at h
    by_cases e : p.1 = a
    · rw [if_pos e] at h
      cases h
      exact List.mem_cons.mpr (.inl (by rw [← e]))
    · rw [if_neg e] at h
      exact List.mem_cons_of_mem _ (ih h)
theorem lk_of_mem {l : List (α × β)} {p : α × β} (n : (l.map (·.1)).Nodup) (h : p ∈ l) : lk l p.1 = some p.2 := by
  induction l with
  | nil => cases h
  | cons q l ih =>
    rw [List.map_cons, List.nodup_cons] at n
    rw [lk_cons]
    rcases List.mem_cons.mp h with e | h'
    · subst e; simp
    · have : ¬ q.1 = p.1 := fun z => n.1 (z ▸ List.mem_map.mpr ⟨p, h', rfl⟩)
      rw [if_neg this]
      exact ih n.2 h'
theorem pt_new {l : List (α × β)} {a : α} (b : β) (h : lk l a = none) : pt l a b = l ++ [(a, b)] := by
  unfold pt
  rw [any_lk, h, if_neg (by simp)]
theorem keys_pt_old {l : List (α × β)} {a : α} (b : β) (h : (lk l a).isSome = true) : (pt l a b).map (·.1) = l.map (·.1) := by
  unfold pt
  rw [any_lk, h, if_pos rfl, List.map_map]
  refine List.map_congr_left fun p _ => ?_
  by_cases e : p.1 = a <;> simp [e]
theorem mem_keys_pt (l : List (α × β)) (a c : α) (b : β) : c ∈ (pt l a b).map (·.1) ↔ c = a ∨ c ∈ l.map (·.1) := by
  have h : ∀ l : List (α × β), c ∈ l.map (·.1) ↔ ¬ lk l c = none := fun l => by rw [lk_none]; simp
  rw [h, h, lk_pt]
  by_cases e : c = a <;> simp [e]
theorem nodup_pt {l : List (α × β)} {a : α} {b : β} (n : (l.map (·.1)).Nodup) : ((pt l a b).map (·.1)).Nodup := by
  cases h : lk l a with
  | some x => rw [keys_pt_old b (by rw [h]; rfl)]; exact n
  | none =>
    rw [pt_new b h, List.map_append, List.nodup_append]
    refine ⟨n, by simp, fun x hx y hy => ?_⟩
    simp at hy
    subst hy
    intro e
    subst e
    exact (lk_none l x).mp h hx
theorem nodup_dr {l : List (α × β)} {a : α} (n : (l.map (·.1)).Nodup) : ((dr l a).map (·.1)).Nodup :=
  List.Sublist.nodup (List.Sublist.map _ List.filter_sublist) n
theorem length_pt (l : List (α × β)) (a : α) (b : β) : (pt l a b).length ≤ l.length + 1 := by
  unfold pt
  split
  · rw [List.length_map]; omega
  · rw [List.length_append]; simp
theorem length_dr (l : List (α × β)) (a : α) : (dr l a).length ≤ l.length := List.length_filter_le _ _
/-- a map of the values -/
theorem pt_vals (f : β → γ) (l : List (α × β)) (a : α) (b : β) : (pt l a b).map (fun p => (p.1, f p.2)) = pt (l.map fun p => (p.1, f p.2)) a (f b) := by
  unfold pt
  rw [List.any_map]
  show List.map _ (if (l.any fun p => decide (p.1 = a)) = true then _ else _) = if (l.any fun p => decide (p.1 = a)) = true then _ else _
  split
  · rw [List.map_map, List.map_map]
    refine List.map_congr_left fun p _ => ?_
    by_cases e : p.1 = a <;> simp [e]
  · rw [List.map_append]; rfl
theorem dr_vals (f : β → γ) (l : List (α × β)) (a : α) : (dr l a).map (fun p => (p.1, f p.2)) = dr (l.map fun p => (p.1, f p.2)) a := by
  unfold dr
  rw [List.filter_map]
  rfl
theorem lk_vals (f : β → γ) (l : List (α × β)) (a : α) : lk (l.map fun p => (p.1, f p.2)) a = (lk l a).map f := by
  induction l with
  | nil => rfl
  | cons p l ih =>
    rw [List.map_cons, lk_cons, lk_cons, ih]
    by_cases e : p.1 = a <;> simp [e]
end
/-- as the dict holds them -/
def kv {α β : Type} (kf : α → Key) (vf : β → V) (l : List (α × β)) : List (Key × V) := l.map fun p => (kf p.1, vf p.2)
section
variable {α β : Type} [DecidableEq α] {kf : α → Key} {vf : β → V}
theorem kv_val (inj : ∀ a b, kf a = kf b → a = b) (l : List (α × β)) (a : α) : valV (kv kf vf l) (kf a) = (lk l a).map vf := by
  induction l with
  | nil => rfl
  | cons p l ih =>
    rw [lk_cons]
    by_cases e : p.1 = a
    · rw [if_pos e]
      exact valV_pos (congrArg kf e)
    · rw [if_neg e, ← ih]
      exact valV_neg fun z => e (inj _ _ z)
theorem kv_put (inj : ∀ a b, kf a = kf b → a = b) (l : List (α × β)) (a : α) (b : β) : putK (kv kf vf l) (kf a) (vf b) = kv kf vf (pt l a b) := by
  unfold putK pt
  rw [show ((kv kf vf l).any fun q => decide (q.1 = kf a)) = (l.any fun p => decide (p.1 = a)) from by
    unfold kv
    rw [List.any_map]
    congr 1
    funext p
    exact decide_eq_decide.mpr ⟨inj _ _, congrArg kf⟩]
  split
  · unfold kv
    rw [List.map_map, List.map_map]
    refine List.map_congr_left fun p _ => ?_
    by_cases e : p.1 = a
    · simp [e]
    · have z : ¬ kf p.1 = kf a := fun z => e (inj _ _ z)
      simp [e, z]
  · unfold kv
    rw [List.map_append]; rfl
theorem kv_drop (inj : ∀ a b, kf a = kf b → a = b) (l : List (α × β)) (a : α) : dropK (kv kf vf l) (kf a) = kv kf vf (dr l a) := by
  unfold dropK dr kv
  rw [List.filter_map]
  congr 1
  refine List.filter_congr fun p _ => ?_
  exact decide_eq_decide.mpr ⟨fun z e => z (congrArg kf e), fun z e => z (inj _ _ e)⟩
theorem kv_length (l : List (α × β)) : (kv kf vf l).length = l.length := List.length_map _
end
/-- places with contents, in the order of the dict -/
abbrev Pl := List (Int × Int)
def dI : Pl → List (Key × V) := kv Sum.inl V.int
def injI : ∀ a b : Int, (Sum.inl a : Key) = Sum.inl b → a = b := fun _ _ e => Sum.inl.inj e
def injS : ∀ a b : Str, (Sum.inr a : Key) = Sum.inr b → a = b := fun _ _ e => Sum.inr.inj e
theorem dI_val (d : Pl) (i : Int) : valV (dI d) (Sum.inl i) = (lk d i).map V.int := kv_val injI d i
theorem dI_put (d : Pl) (i v : Int) : putK (dI d) (Sum.inl i) (.int v) = dI (pt d i v) := kv_put injI d i v
theorem dI_drop (d : Pl) (i : Int) : dropK (dI d) (Sum.inl i) = dI (dr d i) := kv_drop injI d i
theorem dI_length (d : Pl) : (dI d).length = d.length := kv_length d
/-- many are put -/
def pts (d : Pl) (l : List (Int × Int)) : Pl := l.foldl (fun acc p => pt acc p.1 p.2) d
theorem dI_merge : ∀ (l d : Pl), mergeK (dI d) (dI l) = dI (pts d l)
  | [], d => rfl
  | p :: l, d => by
    show mergeK (putK (dI d) (Sum.inl p.1) (.int p.2)) (dI l) = dI (pts (pt d p.1 p.2) l)
    rw [dI_put]
    exact dI_merge l _
def zeros (b : Int) (n : Nat) : Pl := (List.range n).map fun i : Nat => (b + (i : Int), 0)
theorem zeros_succ (b : Int) (n : Nat) : zeros b (n + 1) = zeros b n ++ [(b + (n : Int), 0)] := by
  unfold zeros
  rw [List.range_succ, List.map_append]; rfl
theorem lk_zeros (b : Int) (n : Nat) (c : Int) : lk (zeros b n) c = if b ≤ c ∧ c < b + n then some 0 else none := by
  induction n with
  | zero =>
    rw [if_neg (by omega)]
    rfl
  | succ n ih =>
    rw [zeros_succ, lk_app, ih]
    by_cases h : b ≤ c ∧ c < b + n
    · rw [if_pos h, if_pos (show b ≤ c ∧ c < b + ((n + 1 : Nat) : Int) by omega)]; rfl
    · rw [if_neg h]
      by_cases e : b + (n : Int) = c
      · rw [if_pos (show b ≤ c ∧ c < b + ((n + 1 : Nat) : Int) by omega)]; simp [e]
      · rw [if_neg (show ¬ (b ≤ c ∧ c < b + ((n + 1 : Nat) : Int)) by omega)]; simp [e]
theorem lk_pts (l d : Pl) (c : Int) (v : Int) (h : ∀ p ∈ l, p.2 = v) : lk (pts d l) c = if c ∈ l.map (·.1) then some v else lk d c := by
  induction l generalizing d with
  | nil => simp [pts]
  | cons p l ih =>
    show lk (pts (pt d p.1 p.2) l) c = _
    rw [ih _ fun q hq => h q (List.mem_cons_of_mem _ hq), lk_pt]
    simp only [List.map_cons, List.mem_cons]
    have e := h p List.mem_cons_self
    by_cases h1 : c ∈ l.map (·.1)
    · simp [h1]
    · by_cases h2 : c = p.1
      · simp [h1, h2, e]
      · simp [h1, h2]
def mapP (d : Pl) (b : Int) (n : Nat) : Pl := pts d (zeros b n)
theorem keys_zeros (b : Int) (n : Nat) (c : Int) : c ∈ (zeros b n).map (·.1) ↔ b ≤ c ∧ c < b + n := by
  have h := lk_none (zeros b n) c
  rw [lk_zeros] at h
  by_cases e : b ≤ c ∧ c < b + n
  · rw [if_pos e] at h
    simp only [e, and_self, iff_true]
    exact Decidable.byContradiction fun z => by simpa using h.mpr z
  · rw [if_neg e] at h
    simp only [e, iff_false]
    exact h.mp rfl
theorem lk_mapP (d : Pl) (b : Int) (n : Nat) (c : Int) : lk (mapP d b n) c = if b ≤ c ∧ c < b + n then some 0 else lk d c := by
  unfold mapP
  rw [lk_pts _ _ _ 0 (fun p hp => by
    unfold zeros at hp
    obtain ⟨i, _, rfl⟩ := List.mem_map.mp hp
    rfl)]
  by_cases h : b ≤ c ∧ c < b + n
  · rw [if_pos h, if_pos ((keys_zeros b n c).mpr h)]
  · rw [if_neg h, if_neg fun z => h ((keys_zeros b n c).mp z)]
def unmapP (d : Pl) (b : Int) : Nat → Pl
  | 0 => d
  | n + 1 => dr (unmapP d b n) (b + (n : Int))
theorem lk_unmapP (d : Pl) (b : Int) (n : Nat) (c : Int) : lk (unmapP d b n) c = if b ≤ c ∧ c < b + n then none else lk d c := by
  induction n with
  | zero => rw [if_neg (by omega)]; rfl
  | succ n ih =>
    show lk (dr _ _) c = _
    rw [lk_dr, ih]
    by_cases e : c = b + (n : Int)
    · rw [if_pos e, if_pos (by omega)]
    · rw [if_neg e]
      by_cases h : b ≤ c ∧ c < b + n
      · rw [if_pos h, if_pos (by omega)]
      · rw [if_neg h, if_neg (by omega)]
/-- inside[to + i] = inside.pop(b + i), i below n -/
def moveP (d : Pl) (b to : Int) : Nat → Pl
  | 0 => d
  | n + 1 => let e := moveP d b to n; pt (dr e (b + (n : Int))) (to + (n : Int)) ((lk e (b + (n : Int))).getD 0)
/-- the first place from b on, of n, that d has -/
def used (d : Pl) (b : Int) : Nat → Option Int
  | 0 => none
  | n + 1 => match used d b n with
    | some i => some i
    | none => if (lk d (b + (n : Int))).isSome = true then some (b + (n : Int)) else none
/-- the first one that it lacks -/
def lacks (d : Pl) (b : Int) : Nat → Option Int
  | 0 => none
  | n + 1 => match lacks d b n with
    | some i => some i
    | none => if (lk d (b + (n : Int))).isSome = true then none else some (b + (n : Int))
theorem used_none (d : Pl) (b : Int) (n : Nat) : used d b n = none ↔ ∀ i : Nat, i < n → lk d (b + (i : Int)) = none := by
  induction n with
  | zero => simp [used]
  | succ n ih =>
    unfold used
    cases h : used d b n with
    | some i =>
      rw [h] at ih
      simp only [reduceCtorEq, false_iff] at ih ⊢
      exact fun z => ih fun i hi => z i (by omega)
    | none =>
      rw [h] at ih
      have ih' := ih.mp rfl
      cases e : lk d (b + (n : Int)) with
      | some x =>
        simp only [Option.isSome_some, if_true, reduceCtorEq, false_iff]
        exact fun z => by rw [z n (by omega)] at e; cases e
      | none =>
        simp only [Option.isSome_none, Bool.false_eq_true, if_false, true_iff]
        intro i hi
        by_cases q : i = n
        · rw [q]; exact e
        · exact ih' i (by omega)
theorem lacks_none (d : Pl) (b : Int) (n : Nat) : lacks d b n = none ↔ ∀ i : Nat, i < n → (lk d (b + (i : Int))).isSome = true := by
  induction n with
  | zero => simp [lacks]
  | succ n ih =>
    unfold lacks
    cases h : lacks d b n with
    | some i =>
      rw [h] at ih
      simp only [reduceCtorEq, false_iff] at ih ⊢
      exact fun z => ih fun i hi => z i (by omega)
    | none =>
      rw [h] at ih
      have ih' := ih.mp rfl
      cases e : lk d (b + (n : Int)) with
      | some x =>
        simp only [Option.isSome_some, if_true, true_iff]
        intro i hi
        by_cases q : i = n
        · rw [q, e]; rfl
        · exact ih' i (by omega)
      | none =>
        simp only [Option.isSome_none, Bool.false_eq_true, if_false, reduceCtorEq, false_iff]
        exact fun z => by have := z n (by omega); rw [e] at this; cases this
/-- a move of n places that are there to places that are free -/
theorem lk_moveP (d : Pl) (b to : Int) (n : Nat) (h1 : ∀ i : Nat, i < n → (lk d (b + (i : Int))).isSome = true) (h2 : ∀ i : Nat, i < n → lk d (to + (i : Int)) = none) (c : Int) :
    lk (moveP d b to n) c = if to ≤ c ∧ c < to + n then lk d (b + (c - to)) else if b ≤ c ∧ c < b + n then none else lk d c := by
  induction n generalizing c with
  | zero => rw [if_neg (by omega), if_neg (by omega)]; rfl
  | succ n ih =>
    have ih' := ih (fun i hi => h1 i (by omega)) (fun i hi => h2 i (by omega))
    have ne : ∀ i j : Nat, i < n + 1 → j < n + 1 → b + (i : Int) ≠ to + (j : Int) := fun i j hi hj e => by
      have a := h1 i hi
      rw [e, h2 j hj] at a
      cases a
    show lk (pt (dr (moveP d b to n) _) _ _) c = _
    have eb : lk (moveP d b to n) (b + (n : Int)) = lk d (b + (n : Int)) := by
      rw [ih']
      rw [if_neg (fun z => ne n ((b + n - to).toNat) (by omega) (by omega) (by omega)), if_neg (by omega)]
    rw [lk_pt, lk_dr, eb, ih']
    obtain ⟨x, hx⟩ := Option.isSome_iff_exists.mp (h1 n (by omega))
    by_cases e1 : c = to + (n : Int)
    · subst e1
      rw [if_pos rfl, if_pos (by omega), hx, show b + (to + (n : Int) - to) = b + (n : Int) by omega, hx]
      rfl
    · rw [if_neg e1]
      by_cases e2 : c = b + (n : Int)
      · subst e2
        rw [if_pos rfl, if_neg (fun z => ne n ((b + n - to).toNat) (by omega) (by omega) (by omega)), if_pos (by omega)]
      · rw [if_neg e2]
        have A : (to ≤ c ∧ c < to + ((n + 1 : Nat) : Int)) ↔ (to ≤ c ∧ c < to + n) := by omega
        have B : (b ≤ c ∧ c < b + ((n + 1 : Nat) : Int)) ↔ (b ≤ c ∧ c < b + n) := by omega
        simp only [A, B]
end Pm
set_option maxRecDepth 100000
set_option maxHeartbeats 4000000
/-! sorted of a dict, of any length: all keys ints, or all texts -/
namespace L3
open PySem PySem.Spec PyProof.Rows L2
/-- the list's own sort of the values us leaves some ys that are Good -/
def Sorts (prog : Program) (w : World) (us : List Value) (Good : List V → Prop) : Prop := ∀ (A : Around) (t : Shared) (L n : Nat) (E : Value → Shared → Prop) (P : Fin → Shared → Prop), t.heap.get? L = some (seqObj "list" us.toArray n) →
  (∀ (out : Array Value) (ys : List V), Vals ys out.toList → Good ys → ys.length = us.length → P (.done (.ret .none)) { t with heap := sortedHeap t.heap L us out }) → wpAny (model prog w) A (Builtin.«list.sort» ⟨[.ref L], []⟩) P E t
theorem sorts_ints {prog : Program} {w : World} {us : List Value} {ns : List Int} (hI : IntsAre us ns) (hl : us.length ≤ sizeLine) : Sorts prog w us fun ys => ∃ zs : List Int, ys = zs.map V.int ∧ zs.Perm ns ∧ zs.Pairwise (· ≤ ·) := by
  intro A t L n E P at_ fin
  refine list_sort_treeAny at_ hI hl fun out zs o1 o2 o3 => fin out _ (vals_of_ints o1) ⟨zs, rfl, o2, o3⟩ ?_
  rw [List.length_map, o2.length_eq, hI.length]
theorem sorts_strs {prog : Program} {w : World} {us : List Value} {ss : List Str} (hS : StrsAre us ss) (hl : us.length ≤ sizeLine) : Sorts prog w us fun ys => ∃ zs : List Str, ys = zs.map V.str ∧ zs.Perm ss ∧ sortedS zs = true := by
  intro A t L n E P at_ fin
  refine list_sort_treeKAny strKind_oneLt at_ hS.keysOf (fun v1 v2 more e => keyKind_strs (by rw [← e]; exact hS)) hl fun st' o1 o2 => ?_
  obtain ⟨zs, z1, z2, z3⟩ := sorted_out_str hS o1 o2
  refine fin _ _ (vals_of_strs z1) ⟨zs, rfl, z2, z3⟩ ?_
  have e1 := (vals_of_strs z1).length
  have e2 := (vals_of_strs hS).length
  rw [List.length_map] at e1 e2 ⊢
  rw [z2.length_eq, e2]
/-- sorted(d) -/
def rSrtD (prog : Program) (w : World) : List V → Hp → VK → Prop := fun xs H Q => ∃ (a : Addr) (kvs : List (Key × V)) (Good : List V → Prop), xs = [.ref a] ∧ Rd H a (.dK kvs) ∧ (∀ us, Vals (kvs.map fun p => kV p.1) us → us.length ≤ sizeLine → Sorts prog w us Good) ∧
  ∀ ys p, Good ys → H p = none → Q (.ref p) (upd H p (.lst ys))
theorem call_srtD {X : Cx} (hcalm : X.calm = true) : CallR X (.builtin "sorted") (rSrtD X.prog X.w) := by
  rintro pins s σ H xs vals Q I rel ⟨a, kvs, Good, rfl, hd, sorts, q⟩
  obtain ⟨u, rfl, ru⟩ := vals1 rel
  obtain rfl : u = Value.ref a := ru
  obtain ⟨small, low, vs, rkv, dof⟩ := dk_rd I.hok hd
  obtain ⟨ep, standing⟩ := dof.dictAt
  have many : vs.length ≤ sizeLine := rkv.length ▸ small
  refine Calls.call_function_entry kind_sorted plain_sorted entry_sorted (args_sorted1 _) ?_
  unfold Builtin.«sorted»
  apply wpAny_bind (m := checkCount "sorted" 1 1 _)
  apply wpAny_pure
  apply wpAny_bind
  refine PySem.W.kdu_collect (A := X.A.in1) (PySem.W.kdl_dict (knd := mixKind X.prog X.w) (kvs := vs) (ep := ep) low) (I.ok.hd hcalm) standing many ?_
  intro h' tk acc old items
  have size : acc.toList.length = vs.length := by rw [Array.length_toList]; exact items.1
  have got : Vals (vs.map fun p => kV p.1) acc.toList := keys_at size fun j v e => items.2 j v (by rwa [Array.getElem?_toList] at e)
  have same : (kvs.map fun p => kV p.1) = vs.map fun p => kV p.1 := by
    have := congrArg (List.map kV) rkv.keys
    rw [List.map_map, List.map_map] at this
    exact this
  rw [← same] at got
  have short : acc.toList.length ≤ sizeLine := size ▸ many
  have J : Inv X pins σ H { s with heap := h', toks := tk } := I.kept old
  apply wpAny_bind
  refine wpAny_newList ?_ short
  have placed : (h'.push (seqObj "list" acc.toList.toArray 0)).get? h'.objs.size = some (seqObj "list" acc.toList.toArray 0) := Heap.get?_push_size _ rfl
  show wpAny _ _ _ _ _ { s with heap := h'.push (seqObj "list" acc.toList.toArray 0), toks := tk }
  apply wpAny_bind
  apply wpAny_holding
  refine wpAny_call_entry slot_list_sort ⟨_, placed, rfl⟩ entry_list_sort (sorts _ got short _ { s with heap := h'.push (seqObj "list" acc.toList.toArray 0), toks := tk } _ _ _ _ placed ?_) (args_list_sort _)
  intro out ys vys good len
  refine ⟨_, rfl, ?_⟩
  obtain ⟨n', at'⟩ := sortedHeap_at (vs := acc.toList) (out := out) placed
  have ok : ObjOk X.prog X.w (upd H h'.objs.size (.lst ys)) (sortedHeap (h'.push (seqObj "list" acc.toList.toArray 0)) h'.objs.size acc.toList out) h'.objs.size (.lst ys) :=
    ⟨len ▸ short, out.toList, n', vys, by rw [Array.toArray_toList]; exact at'⟩
  refine wpAny_pure ⟨_, rfl, .ref h'.objs.size, upd H h'.objs.size (.lst ys), J.laid (t' := tk) (fun b o e => ?_) (Nat.le_refl _) ok, rfl, q ys _ good (J.hok.fresh (Nat.le_refl _))⟩
  have below := Heap.lt_size e
  rw [sortedHeap_old (Nat.ne_of_lt below) (by rw [size_push']; exact Nat.lt_succ_of_lt below)]
  exact Heap.get?_push_of_some _ e
section
variable {prog : Program} {w : World} {a : Addr} {H : Hp} {Q : VK} {kvs : List (Key × V)}
theorem srt_ints {ks : List Int} (hd : Rd H a (.dK kvs)) (hk : kvs.map (·.1) = ks.map Sum.inl) (q : ∀ (zs : List Int) p, zs.Perm ks → zs.Pairwise (· ≤ ·) → H p = none → Q (.ref p) (upd H p (.lst (zs.map V.int)))) : rSrtD prog w [.ref a] H Q :=
  ⟨a, kvs, _, rfl, hd, fun us r hl => sorts_ints (ns := ks) (ints_of_vals (by
      have e := congrArg (List.map kV) hk
      rw [List.map_map, List.map_map] at e
      have e' : (kvs.map fun p => kV p.1) = ks.map V.int := e
      rwa [e'] at r)) hl, fun ys p ⟨zs, e, h1, h2⟩ n => e ▸ q zs p h1 h2 n⟩
theorem srt_strs {ks : List Str} (hd : Rd H a (.dK kvs)) (hk : kvs.map (·.1) = ks.map Sum.inr) (q : ∀ (zs : List Str) p, zs.Perm ks → sortedS zs = true → H p = none → Q (.ref p) (upd H p (.lst (zs.map V.str)))) : rSrtD prog w [.ref a] H Q :=
  ⟨a, kvs, _, rfl, hd, fun us r hl => sorts_strs (ss := ks) (strs_of_vals (by
      have e := congrArg (List.map kV) hk
      rw [List.map_map, List.map_map] at e
      have e' : (kvs.map fun p => kV p.1) = ks.map V.str := e
      rwa [e'] at r)) hl, fun ys p ⟨zs, e, h1, h2⟩ n => e ▸ q zs p h1 h2 n⟩
end
/-- sorted texts are one list -/
theorem lt_asym {xs ys : List Nat} (h : ltCps xs ys = false) (h' : ltCps ys xs = false) : xs = ys := by
  induction xs generalizing ys with
  | nil =>
    cases ys with
    | nil => rfl
    | cons y ys => simp [ltCps] at h
  | cons x xs ih =>
    cases ys with
    | nil => simp [ltCps] at h'
    | cons y ys =>
      simp only [ltCps] at h h'
      by_cases e : x = y
      · subst e
        simp at h h'
        rw [ih h h']
      · exfalso
        rcases Nat.lt_or_gt_of_ne e with l | l
        · simp [l] at h
        · simp [l] at h'
theorem lt_trans' : ∀ {xs ys zs : List Nat}, ltCps ys xs = false → ltCps zs ys = false → ltCps zs xs = false
  | [], [], zs, _, h => h
  | [], y :: ys, zs, _, h => by cases zs <;> simp [ltCps] at h ⊢
  | x :: xs, [], zs, h, _ => by simp [ltCps] at h
  | x :: xs, y :: ys, [], _, h => by simp [ltCps] at h
  | x :: xs, y :: ys, z :: zs, h, h' => by
    simp only [ltCps, Bool.or_eq_false_iff, decide_eq_false_iff_not, Bool.and_eq_false_iff, beq_eq_false_iff_ne] at h h' ⊢
    refine ⟨by omega, ?_⟩
    by_cases e : z = x
    · right
      have e1 : y = x := by omega
      have a : ltCps ys xs = false := by rcases h.2 with q | q <;> first | exact absurd e1 q | exact q
      have b : ltCps zs ys = false := by rcases h'.2 with q | q <;> first | (exact absurd (by omega) q) | exact q
      exact lt_trans' a b
    · exact .inl e
theorem rising_pair : ∀ (l : List Str) (p : Str), risingS p l = true → (p :: l).Pairwise fun x y => ltCps y.cps.toList x.cps.toList = false
  | [], p, _ => List.pairwise_singleton _ _
  | x :: l, p, h => by
    have h' : ltCps x.cps.toList p.cps.toList = false ∧ risingS x l = true := by simpa [risingS] using h
    have ih := rising_pair l x h'.2
    refine List.pairwise_cons.mpr ⟨fun y hy => ?_, ih⟩
    rcases List.mem_cons.mp hy with e | e
    · exact e ▸ h'.1
    · exact lt_trans' h'.1 ((List.pairwise_cons.mp ih).1 y e)
theorem sortedS_one {xs ys : List Str} (p : xs.Perm ys) (h1 : sortedS xs = true) (h2 : sortedS ys = true) : xs = ys := by
  have pw : ∀ l : List Str, sortedS l = true → l.Pairwise fun x y => ltCps y.cps.toList x.cps.toList = false := fun l h => by
    cases l with
    | nil => exact .nil
    | cons x l => exact rising_pair l x h
  refine p.eq_of_pairwise (fun x y _ _ a b => ?_) (pw _ h1) (pw _ h2)
  have := lt_asym b a
  cases x with
  | mk cx => cases y with
    | mk cy => 
      have : cx.toList = cy.toList := this
      rw [Array.toList_inj.mp this]
end L3
set_option maxRecDepth 100000
set_option maxHeartbeats 4000000
/-! nested data: lists and tuples of what ThV tells; its repr -/
namespace L3
open PySem PySem.Spec PyProof.Rows L2
mutual
/-- no lists within -/
def noLists : PyData → Bool
  | .list _ => false
  | .tuple xs => noListsAll xs
  | _ => true
def noListsAll : List PyData → Bool
  | [] => true
  | x :: xs => noLists x && noListsAll xs
end
mutual
inductive DaV (H : Hp) : V → PyData → Prop where
  | th {v : V} {p : PyData} (h : ThV H v p) : DaV H v p
  | lst {a : Addr} {xs : List V} {ds : List PyData} (e : H a = some (.lst xs)) (h : DaVs H xs ds) (n : PyData.hasDictAll ds = false) : DaV H (.ref a) (.list ds)
  | tup {a : Addr} {xs : List V} {ds : List PyData} (e : H a = some (.tup xs)) (h : DaVs H xs ds) (n : PyData.hasDictAll ds = false ∨ noListsAll ds = true) : DaV H (.ref a) (.tuple ds)
inductive DaVs (H : Hp) : List V → List PyData → Prop where
  | nil : DaVs H [] []
  | cons {v : V} {vs : List V} {d : PyData} {ds : List PyData} (h : DaV H v d) (t : DaVs H vs ds) : DaVs H (v :: vs) (d :: ds)
end
mutual
theorem DaV.same {H H' : Hp} (s : ∀ b o, H b = some o → H' b = some o) : ∀ {v : V} {d : PyData}, DaV H v d → DaV H' v d
  | _, _, .th h => .th (h.mono fun a o _ e _ => s a o e)
  | _, _, .lst e h n => .lst (s _ _ e) (DaVs.same s h) n
  | _, _, .tup e h n => .tup (s _ _ e) (DaVs.same s h) n
theorem DaVs.same {H H' : Hp} (s : ∀ b o, H b = some o → H' b = some o) : ∀ {vs : List V} {ds : List PyData}, DaVs H vs ds → DaVs H' vs ds
  | _, _, .nil => .nil
  | _, _, .cons h t => .cons (DaV.same s h) (DaVs.same s t)
end
section
variable {X : Cx} {pins : List (Addr × Obj)} {σ : L2.St} {H : Hp} {s : Shared}
def Off (as : List Addr) (d l : Bool) : Prop := (d = true → sysModules ∉ as) ∧ (l = true → sysModules ∉ as)
theorem Off.none {d l : Bool} : Off [] d l := ⟨fun _ => by simp, fun _ => by simp⟩
theorem th_reads (I : Inv X pins σ H s) {v : V} {d : PyData} {u : Value} (h : ThV H v d) (r : RelV v u) : ∃ as, Reads s.heap u d as ∧ Off as d.hasDict (noLists d) := by
  cases h with
  | non => cases r; exact ⟨_, .none, .none⟩
  | bl b => cases r; exact ⟨_, .bool b, .none⟩
  | int i => obtain ⟨t, rfl⟩ := r; exact ⟨_, .int i t, .none⟩
  | str x => obtain ⟨t, rfl⟩ := r; exact ⟨_, .str x t, .none⟩
  | @lst a ns e =>
    obtain rfl : u = .ref a := r
    obtain ⟨its, rv, ⟨o, n, ho, hc, _, hd⟩, _⟩ := I.list (SqL.of e)
    exact ⟨_, .list ho hc hd (by simpa using reads_ints rv), fun z => absurd z (by simp only [PyData.hasDict]; rw [noDict ns]; decide), fun z => nomatch z⟩
  | @tup a ns e =>
    obtain rfl : u = .ref a := r
    obtain ⟨its, rv, ⟨o, ho, hc, n, hd⟩, _⟩ := I.tuple (SqT.of e)
    exact ⟨_, .tuple ho hc hd (by simpa using reads_ints rv), .none⟩
  | @dct a ps e =>
    obtain rfl : u = .ref a := r
    have z : ObjOk X.prog X.w H s.heap a (.dK (dInt ps)) := I.hok a _ e
    obtain ⟨_, ns, vs, kv, o, es, n, ho, ⟨hc, _⟩, hd, _, pr, _⟩ := z
    obtain ⟨r1, r2⟩ := pairs_read kv pr
    have rd := Reads.dict (kvs := ps.map fun p => (.int p.1, .int p.2)) ho hc hd (by rw [List.map_map]; exact r1) (by rw [List.map_map]; exact r2)
    have off : sysModules ∉ a :: ([] : List Addr) ++ [] := fun m => by simp at m; rw [m] at ns; simp at ns
    exact ⟨_, rd, fun _ => off, fun _ => off⟩
mutual
theorem DaV.reads (I : Inv X pins σ H s) : ∀ {v : V} {d : PyData} {u : Value}, DaV H v d → RelV v u → ∃ as, Reads s.heap u d as ∧ Off as d.hasDict (noLists d)
  | _, _, _, .th h, r => th_reads I h r
  | _, _, u, @DaV.lst _ a xs ds e h n, r => by
    obtain rfl : u = .ref a := r
    obtain ⟨its, rv, ⟨o, k, ho, hc, _, hd⟩, _⟩ := I.list (SqL.of e)
    obtain ⟨as, q, _⟩ := DaVs.reads I h rv
    have none_ : (PyData.list ds).hasDict = true → sysModules ∉ a :: as := fun z => by
      have z' : PyData.hasDictAll ds = true := z
      rw [n] at z'
      cases z'
    have off : Off (a :: as) (PyData.list ds).hasDict (noLists (.list ds)) := ⟨none_, fun z => nomatch z⟩
    exact ⟨_, .list ho hc hd (by simpa using q), off⟩
  | _, _, u, @DaV.tup _ a xs ds e h n, r => by
    obtain rfl : u = .ref a := r
    obtain ⟨its, rv, ⟨o, ho, hc, k, hd⟩, _⟩ := I.tuple (SqT.of e)
    obtain ⟨as, q, nd⟩ := DaVs.reads I h rv
    refine ⟨_, .tuple ho hc hd (by simpa using q), ⟨fun z => ?_, fun z => nd z⟩⟩
    have z' : PyData.hasDictAll ds = true := z
    rcases n with n | n
    · rw [n] at z'; cases z'
    · exact nd n
theorem DaVs.reads (I : Inv X pins σ H s) : ∀ {vs : List V} {ds : List PyData} {us : List Value}, DaVs H vs ds → Vals vs us → ∃ as, ReadsAll s.heap us ds as ∧ (noListsAll ds = true → sysModules ∉ as)
  | _, _, us, .nil, r => by
    cases r
    exact ⟨_, .nil, fun _ => by simp⟩
  | _, _, us, @DaVs.cons _ v vs d ds h t, r => by
    cases r with
    | cons r1 r2 =>
      obtain ⟨as, q1, n1⟩ := DaV.reads I h r1
      obtain ⟨bs, q2, n2⟩ := DaVs.reads I t r2
      refine ⟨_, .cons q1 q2, fun z m => ?_⟩
      have z' : noLists d = true ∧ noListsAll ds = true := by simpa [noListsAll] using z
      rcases List.mem_append.mp m with m | m
      · exact n1.2 z'.1 m
      · exact n2 z'.2 m
end
end
/-- repr of such data -/
def rReprD : List V → Hp → VK → Prop := fun xs H Q => ∃ v d, xs = [v] ∧ DaV H v d ∧ d.showable = true ∧ d.depth ≤ 9 ∧ d.shown.length ≤ sizeLine ∧ Q (.str d.shown) H
theorem call_reprD {X : Cx} {k : Nat} (gd : X.A.guards = some []) (hr : Room k X.A) : CallR X (.builtin "repr") rReprD := by
  rintro pins s σ H xs us Q I r ⟨v, d, rfl, t, h1, h3, h2, q⟩
  obtain ⟨u, rfl, ru⟩ := vals1 r
  have room := hr.un
  obtain ⟨as, rd, nd⟩ := t.reads I ru
  have deep : ∀ {a : Addr}, u = .ref a → wpAny (model X.prog X.w) X.A (call (.builtin "repr") [u]) (EP X pins σ Q) X.xe s := by
    rintro a rfl
    exact repr_of_reads' rd h1 nd.1 gd (by omega) (fun _ _ e => e) (fun h' u' tk keep => ⟨.str d.shown, H, grown I keep, ⟨_, rfl⟩, q⟩) h2
  cases rd with
  | none => exact P.repr_of_none ⟨.str _, H, I.tok _, ⟨_, rfl⟩, q⟩
  | bool b => exact P.repr_of_bool ⟨.str _, H, I.tok _, ⟨_, rfl⟩, q⟩
  | int i => exact P.repr_of_int (by simpa [PyData.showable] using h1) ⟨.str _, H, I.tok _, ⟨_, rfl⟩, q⟩
  | str x => exact P.repr_of_str ⟨.str _, H, I.tok _, ⟨_, rfl⟩, q⟩ h2
  | list => exact deep rfl
  | tuple => exact deep rfl
  | dict => exact deep rfl
end L3
set_option maxRecDepth 100000
set_option maxHeartbeats 4000000
/-! a dict against an empty one -/
namespace L3
open PySem PySem.Spec PyProof.Rows L2
def rDE (neg : Bool) : R2 := fun x y H Q => ∃ (a b : Addr) (ks : List (Key × V)), x = .ref a ∧ y = .ref b ∧ Rd H a (.dK ks) ∧ Rd H b (.dK []) ∧ Q (.bl (if neg then !ks.isEmpty else ks.isEmpty)) H
theorem emp {α β : Type} {F : α → β → Prop} {ks : List α} {vs : List β} (r : Paired F ks vs) : (vs.length == 0 && true) = ks.isEmpty := by
  cases r <;> rfl
theorem op_neE {X : Cx} (hu : X.A.units < cLine) : OpR X (compareOp .NotEq) (rDE true) := by
  rintro pins s σ H x y v u Q I rx ry ⟨a, b, ks, rfl, rfl, ha, hb, q⟩
  obtain rfl : v = .ref a := rx
  obtain rfl : u = .ref b := ry
  obtain ⟨_, la, vs, ra, da⟩ := dk_rd I.hok ha
  obtain ⟨_, lb, ws, rb, db⟩ := dk_rd I.hok hb
  cases rb
  refine PySem.W.keq_ne (r := true) la lb da db hu (fun e => ?_) ⟨.bl (!ks.isEmpty), H, I, ?_, q⟩
  · have : vs = [] := List.length_eq_zero_iff.mp e
    subst this
    exact .nil
  · show Value.bool (!(vs.length == ([] : List (Key × Value)).length && true)) = Value.bool (!ks.isEmpty)
    rw [List.length_nil, emp ra]
theorem op_eqE {X : Cx} (hu : X.A.units < cLine) : OpR X (compareOp .Eq) (rDE false) := by
  rintro pins s σ H x y v u Q I rx ry ⟨a, b, ks, rfl, rfl, ha, hb, q⟩
  obtain rfl : v = .ref a := rx
  obtain rfl : u = .ref b := ry
  obtain ⟨_, la, vs, ra, da⟩ := dk_rd I.hok ha
  obtain ⟨_, lb, ws, rb, db⟩ := dk_rd I.hok hb
  cases rb
  refine PySem.W.keq_eq (r := true) la lb da db hu (fun e => ?_) ⟨.bl ks.isEmpty, H, I, ?_, q⟩
  · have : vs = [] := List.length_eq_zero_iff.mp e
    subst this
    exact .nil
  · show Value.bool (vs.length == ([] : List (Key × Value)).length && true) = Value.bool ks.isEmpty
    rw [List.length_nil, emp ra]
end L3
set_option maxRecDepth 100000
set_option maxHeartbeats 4000000
/-! the draws -/
namespace Bm
open PySem L2
def top (i : Nat) : Stmt := PySem.Challenge.pw_backmaps_k05_plain_copies_are_equal_and.main.body.getD i (.Pass ⟨0, 0, 0, 0⟩)
abbrev sState : Stmt := top 25
abbrev sDraw : Stmt := top 26
abbrev sPick : Stmt := top 27

/-- the state of the draws stands at d, its stock at st -/
def Dr (d st : Addr) (H : Hp) : Prop := ∃ (ms : List Int) (sp mx : Int), H d = some (.lst [.ref st, .int sp, .int mx]) ∧ H st = some (.lst (ms.map V.int)) ∧ 0 < ms.length ∧ ms.length ≤ 63 ∧ 0 ≤ mx ∧ mx < 2147483647
/-- all but the state of the draws is kept -/
def Kp (d st : Addr) (H H' : Hp) : Prop := ∀ b o, H b = some o → b ≠ d → b ≠ st → H' b = some o
theorem Kp.refl {d st : Addr} {H : Hp} : Kp d st H H := fun _ _ h _ _ => h
theorem Kp.trans {d st : Addr} {H H1 H2 : Hp} (a : Kp d st H H1) (b : Kp d st H1 H2) : Kp d st H H2 := fun c o h n1 n2 => b c o (a c o h n1 n2) n1 n2

def spState (K : PySem.W.Frag) : Sp := fun vs H Q _ => ∃ (a : Addr) (ns : List Int), vs = [.ref a] ∧ SqL K H a (ns.map V.int) ∧ ns.length ≤ 63 ∧
  ∀ (d st : Addr) (H' : Hp), Same H H' → H d = none → H st = none → Dr d st H' → Q (.ref d) H'
def spDraw : Sp := fun vs H Q _ => ∃ (d st : Addr) (b : Int), vs = [.ref d, .int b] ∧ Dr d st H ∧ 0 < b ∧ b < 1073741824 ∧
  ∀ (r : Int) (H' : Hp), 0 ≤ r → r < b → Dr d st H' → Kp d st H H' → Q (.int r) H'
structure TB (mg : Str → Option Value) : Prop where
  int_ : mg "int" = none
  len_ : mg "len" = none
  abs_ : mg "abs" = none
section
variable {P : Program} {w : World} {K : PySem.W.Frag} {mg : Str → Option Value} {base : Heap}
theorem scDraw : FnScope ["_law_draw_here", "_law_below", "_law_stock", "_law_spot", "_law_lump"] ["_law_draw_here", "_law_below"] (defScope sDraw) := ⟨rfl, rfl, rfl, by decide +kernel, rfl, by decide +kernel, by decide +kernel⟩
theorem ok_draw {f : Addr} {fd : FuncData} (F : Fun K "_law_draw" "_law_draw" sDraw f fd) (T : TB mg) : FnOk P w K mg base CX0 1 f fd ["_law_draw_here", "_law_below"] spDraw := by
  refine F.ok scDraw (fun vs H Q E h => ?_) (fun cdv A outer s H vs Q E hr h => ?_)
  · obtain ⟨d, st, b, rfl, _⟩ := h
    rfl
  · obtain ⟨d, st, b, rfl, ⟨ms, sp, mx, hd, hs, hp, hl, hm0, hm1⟩, hb0, hb1, k⟩ := h
    have nds : d ≠ st := ne_of hd hs (by
      intro z
      have z1 := HO.lst.inj z
      cases ms with
      | nil => simp at z1
      | cons m r => simp at z1)
    refine ⟨_, pss_cons (ps_set (i := 2) scDraw.nd rfl (Or.inl rfl) (pe_ix ix_list (pv 0) pe_int (fun _ _ => rfl)))
      (pss_cons (ps_set (i := 3) scDraw.nd rfl (Or.inl rfl) (pe_op op_modN (pe_callTy call_int1 (by rfl) T.int_ (by decide +kernel) (pa_cons (pe_ix ix_list (pv 0) pe_int (fun _ _ => rfl)) pa_nil)) (pe_callB call_len_seq (by rfl) T.len_ PySem.boot_len (pa_cons (pv 2) pa_nil))))
      (pss_cons (ps_set (i := 4) scDraw.nd rfl (Or.inl rfl) (pe_ix ix_list (pv 2) (pv 3) (fun _ _ => rfl)))
      (pss_cons (ps_if (pt_cmpR op_ge (pv 4) (pe_op op_pow pe_int pe_int) (nomark _))
        (pss_cons (ps_asg (pe_op op_fdivN (pv 4) (pv 1)) (pg_sub (pv 2) (pv 3) set_list))
          (pss_one (ps_ret (pe_op op_modN (pe_callTy call_int1 (by rfl) T.int_ (by decide +kernel) (pa_cons (pv 4) pa_nil)) (pv 1))))) pss_nil)
      (pss_cons (ps_asg (pe_op op_add (pe_ix ix_list (pv 0) pe_int (fun _ _ => rfl)) pe_int) (pg_sub (pv 0) pe_int set_list))
      (pss_cons (ps_asg (pe_op op_modN (pe_callTy call_int1 (by rfl) T.int_ (by decide +kernel) (pa_cons (pe_op op_add (pe_op op_add (pe_op op_add (pe_op op_mul (pe_ix ix_list (pv 0) pe_int (fun _ _ => rfl)) pe_int) (pv 4)) (pe_op op_mul pe_int (pe_ix ix_list (pv 0) pe_int (fun _ _ => rfl)))) pe_int) pa_nil)) pe_int) (pg_sub (pv 0) pe_int set_list))
      (pss_one (ps_ret (pe_op op_modN (pe_callTy call_int1 (by rfl) T.int_ (by decide +kernel) (pa_cons (pe_op op_fdivN (pe_op op_modN (pe_callTy call_int1 (by rfl) T.int_ (by decide +kernel) (pa_cons (pe_op op_mul (pe_ix ix_list (pv 0) pe_int (fun _ _ => rfl)) (pe_ix ix_list (pv 0) pe_int (fun _ _ => rfl))) pa_nil)) pe_int) pe_int) pa_nil)) (pv 1))))))))), ?_⟩
    have hpz : ((ms.map V.int).length : Int) ≠ 0 := by rw [List.length_map]; omega
    -- stock = d[0]; spot = int(d[1]) % len(stock)
    refine ⟨_, rfl, _, _, _, _, rfl, rfl, SqL.of hd, rfl, ?_⟩
    refine ⟨_, rfl, _, _, _, _, rfl, rfl, SqL.of hd, rfl, Or.inl ⟨_, rfl, _, rfl, _, _, rfl, .inl (SqL.of hs), _, _, rfl, rfl, hpz, ?_⟩⟩
    -- lump = stock[spot]
    obtain ⟨j, hj, ej⟩ : ∃ j : Nat, j < ms.length ∧ sp.fmod ((ms.map V.int).length : Int) = (j : Int) := by
      rw [List.length_map]
      rw [Int.fmod_eq_emod_of_nonneg _ (by omega)]
      have h1 := Int.emod_nonneg sp (show ((ms.length : Int)) ≠ 0 by omega)
      have h2 := Int.emod_lt_of_pos sp (show (0 : Int) < (ms.length : Int) by omega)
      exact ⟨(sp % (ms.length : Int)).toNat, by omega, by omega⟩
    have hat : atI (ms.map V.int) (sp.fmod ((ms.map V.int).length : Int)) = some (V.int ms[j]) := by
      rw [ej]
      exact atI_nat (by rw [List.getElem?_map, List.getElem?_eq_getElem hj] <;> rfl)
    have hix : ixN (ms.map V.int).length (sp.fmod ((ms.map V.int).length : Int)) = some j := by
      rw [ej]
      unfold ixN
      rw [List.length_map, if_pos (by omega), if_pos (by omega)]
      simp
    refine ⟨_, rfl, _, rfl, _, _, _, _, rfl, rfl, SqL.of hs, hat, ?_⟩
    have hb2 : b.natAbs < 1073741824 := by omega
    -- if lump >= 10 ** 18
    refine ⟨_, rfl, _, _, rfl, rfl, ⟨by decide, by decide, by decide⟩, _, _, rfl, rfl, _, rfl, ?_⟩
    refine ite2 (fun _ => ?_) (fun _ => ?_)
    · refine ⟨_, rfl, _, rfl, _, _, rfl, rfl, ⟨by omega, hb2⟩, _, rfl, _, rfl, _, _, _, j, rfl, rfl, hs, hix, ?_⟩
      refine ⟨_, rfl, Or.inl ⟨_, rfl, _, rfl, _, _, rfl, rfl, by omega, ?_⟩⟩
      refine k _ _ ?_ ?_ ⟨ms.set j (ms[j].fdiv b), sp, mx, by rw [upd_ne nds]; exact hd, ?_, by rw [List.length_set]; exact hp, by rw [List.length_set]; exact hl, hm0, hm1⟩ fun c o e n1 n2 => ?_
      · rw [Int.fmod_eq_emod_of_nonneg _ (by omega)]
        exact Int.emod_nonneg _ (by omega)
      · rw [Int.fmod_eq_emod_of_nonneg _ (by omega)]
        exact Int.emod_lt_of_pos _ hb0
      · rw [upd_same, List.map_set]
      · rw [upd_ne n2]
        exact e
    · -- d[1] = d[1] + 1
      refine ⟨_, rfl, _, _, _, _, rfl, rfl, SqL.of hd, rfl, _, _, rfl, rfl, _, rfl, _, _, _, 1, rfl, rfl, hd, rfl, ?_⟩
      -- d[2] = int(d[2] * 48271 + lump + 7919 * d[1] + 12345) % 2147483647
      refine ⟨_, rfl, _, _, _, _, rfl, rfl, SqL.of upd_same, rfl, _, _, rfl, rfl, .inl ⟨by omega, by omega⟩, _, rfl, _, _, rfl, rfl, ?_⟩
      refine ⟨_, rfl, _, _, _, _, rfl, rfl, SqL.of upd_same, rfl, _, _, rfl, rfl, .inl ⟨by decide, by decide⟩, _, _, rfl, rfl, _, _, rfl, rfl, .inl ⟨_, rfl, _, _, rfl, rfl, (by show (2147483647 : Int) ≠ 0; decide), _, rfl, _, _, _, 2, rfl, rfl, upd_same, rfl, ?_⟩⟩
      -- int(int(d[2] * d[2]) % 2147483629 // 16) % below
      have hz0 := Int.emod_nonneg (mx * 48271 + ms[j] + 7919 * (sp + 1) + 12345) (show (2147483647 : Int) ≠ 0 by decide)
      have hz1 := Int.emod_lt_of_pos (mx * 48271 + ms[j] + 7919 * (sp + 1) + 12345) (show (0 : Int) < 2147483647 by decide)
      rw [← Int.fmod_eq_emod_of_nonneg _ (by decide)] at hz0 hz1
      refine ⟨_, rfl, _, _, _, _, rfl, rfl, SqL.of upd_same, rfl, _, rfl, _, _, _, _, rfl, rfl, SqL.of upd_same, rfl, _, _, rfl, rfl, .inl ⟨by show _ < _; omega, by show _ < _; omega⟩, .inl ⟨_, rfl, _, _, rfl, rfl, (by show (2147483629 : Int) ≠ 0; decide), _, _, rfl, rfl, ⟨by decide, by decide⟩, .inl ⟨_, rfl, _, rfl, _, _, rfl, rfl, by omega, ?_⟩⟩⟩
      refine k _ _ ?_ ?_ ⟨ms, sp + 1, _, upd_same, by rw [upd_ne nds.symm, upd_ne nds.symm]; exact hs, hp, hl, hz0, hz1⟩ fun c o e n1 n2 => ?_
      · rw [Int.fmod_eq_emod_of_nonneg _ (by omega)]
        exact Int.emod_nonneg _ (by omega)
      · rw [Int.fmod_eq_emod_of_nonneg _ (by omega)]
        exact Int.emod_lt_of_pos _ hb0
      · rw [upd_ne n1, upd_ne n1]
        exact e
end
end Bm
set_option maxRecDepth 100000
set_option maxHeartbeats 4000000
namespace Bm
open PySem L2
section
variable {P : Program} {w : World} {K : PySem.W.Frag} {mg : Str → Option Value} {base : Heap}
theorem scState : FnScope ["_law_script", "_law_lump"] ["_law_script"] (defScope sState) := ⟨rfl, rfl, rfl, by decide +kernel, rfl, by decide +kernel, by decide +kernel⟩
theorem ok_state {f : Addr} {fd : FuncData} (F : Fun K "_law_state" "_law_state" sState f fd) (T : TB mg) : FnOk P w K mg base CX0 1 f fd ["_law_script"] (spState K) := by
  refine F.ok scState (fun vs H Q E h => ?_) (fun cdv A outer s H vs Q E hr h => ?_)
  · obtain ⟨a, ns, rfl, _⟩ := h
    rfl
  · obtain ⟨a, ns, rfl, hS, hl, k⟩ := h
    refine ⟨_, pss_one (ps_ret (pe_lst (pa_cons (pe_orT
        (pe_lc (own := [("_law_lump", 1)]) (g := gName 1) (tt := tYes) rfl scState.nd (pi_list (pe_slice sl_list (pv 0) po_none (po_some pe_int))) (blkOk_by (own := [("_law_lump", 1)]) (N := ["_law_script", "_law_lump"]) (sc := defScope sState) (by decide +kernel))
          (fun _ _ _ _ _ => pg_name (i := 1) scState.nd rfl (Or.inl rfl)) (fun _ _ _ _ _ => pts_nil) (fun _ _ _ _ _ => pe_callB call_abs (by rfl) T.abs_ (by decide +kernel) (pa_cons (pv 1) pa_nil)))
        (pe_one (pe_lst (pa_cons pe_int pa_nil)))) (pa_cons pe_int (pa_cons pe_int pa_nil))))), ?_⟩
    have dr : ∀ (H1 : Hp) (D : Addr) (acc : List Int), Same H H1 → H D = none → H1 D = some (.lst (acc.map V.int)) → 0 < acc.length → acc.length ≤ 63 → ∀ l, H1 l = none → Q (.ref l) (upd H1 l (.lst [.ref D, .int 0, .int 1])) := fun H1 D acc s1 nD hD h0 h63 l nl => by
      refine k l D _ (fun b o e => ?_) (s1.free nl) nD ⟨acc, 0, 1, upd_same, ?_, h0, h63, by decide, by decide⟩
      · rw [upd_ne (ne_of_none (s1 b o e) nl)]
        exact s1 b o e
      · rw [upd_ne (ne_of_none hD nl)]
        exact hD
    refine ⟨_, rfl, _, rfl, _, _, rfl, hS, fun p np => ?_⟩
    have hcut : (cutV (ns.map V.int) none (some 63)).length ≤ 63 := Nat.le_trans (cutV_length _ _ _) (by rw [List.length_map]; exact hl)
    have hint : ∀ y ∈ cutV (ns.map V.int) none (some 63), ∃ n, y = V.int n := fun y hy => by
      unfold cutV at hy
      have h1 := List.mem_of_mem_drop (List.mem_of_mem_take hy)
      obtain ⟨n, _, e⟩ := List.mem_map.mp h1
      exact ⟨n, e.symm⟩
    generalize cutV (ns.map V.int) none (some 63) = xs at hcut hint ⊢
    have s0 : Same H (upd H p (.lst xs)) := fun b o e => by rw [upd_ne (ne_of_none e np)]; exact e
    refine ⟨p, rfl, ⟨_, SqL.of upd_same⟩, fun D nD => ?_⟩
    have nD0 : H D = none := s0.free nD
    have npD : p ≠ D := fun e => by rw [← e, upd_same] at nD; cases nD
    refine lc_list (K := K) (a := p) (xs := xs) (fun i H1 => Same H H1 ∧ H1 p = some (.lst xs) ∧ ∃ acc : List Int, acc.length = i ∧ H1 D = some (.lst (acc.map V.int))) ⟨fun b o e => ?_, ?_, [], rfl, upd_same⟩ (fun i H1 _ h => SqL.of h.2.1) ?_ ?_
    · rw [upd_ne (ne_of_none (s0 b o e) nD)]
      exact s0 b o e
    · rw [upd_ne npD, upd_same]
    · rintro i y H1 hi ⟨s1, h1, acc, ha, hD⟩
      obtain ⟨n, rfl⟩ := hint y (List.mem_of_getElem? hi)
      have hil : i < xs.length := (List.getElem?_eq_some_iff.mp hi).1
      refine ⟨rfl, ?_⟩
      refine ⟨_, rfl, n, rfl, _, hD, ?_, fun b o e => ?_, ?_, acc ++ [if n < 0 then -n else n], ?_, ?_⟩
      · rw [List.length_map]
        exact small1000 (by omega)
      · rw [upd_ne (ne_of_none e nD0)]
        exact s1 b o e
      · rw [upd_ne npD]
        exact h1
      · rw [List.length_append, ha]
        rfl
      · rw [upd_same, List.map_append]
        rfl
    · rintro H1 ⟨s1, h1, acc, ha, hD⟩
      refine ⟨_, .inl ⟨_, SqL.of hD, rfl⟩, ?_⟩
      cases acc with
      | nil =>
        refine iteF ?_
        refine ⟨by show 1 ≤ sizeLine; decide, fun q hq => ?_⟩
        have s2 : Same H (upd H1 q (.lst [V.int 7])) := fun b o e => by
          rw [upd_ne (ne_of_none (s1 b o e) hq)]
          exact s1 b o e
        exact ⟨by show 3 ≤ sizeLine; decide, dr _ q [7] s2 (s1.free hq) upd_same (by decide) (by decide)⟩
      | cons m r =>
        refine iteT ?_
        exact ⟨by show 3 ≤ sizeLine; decide, dr _ D (m :: r) s1 nD0 hD (by simp) (by rw [ha]; exact hcut)⟩
end
end Bm
set_option maxRecDepth 100000
set_option maxHeartbeats 4000000
namespace Bm
open PySem L2
abbrev sIsInt : Stmt := top 11
abbrev sIsPlace : Stmt := top 12
abbrev sIsStretch : Stmt := top 13
abbrev sNeed : Stmt := top 14
/-- a value of the kinds that the laws hand over -/
inductive AnyV (H : Hp) : V → Prop where
  | non : AnyV H .non
  | bl (b : Bool) : AnyV H (.bl b)
  | int (i : Int) : AnyV H (.int i)
  | str (x : Str) : AnyV H (.str x)
  | lst {a : Addr} {xs : List V} (e : H a = some (.lst xs)) : AnyV H (.ref a)
  | tup {a : Addr} {xs : List V} (e : H a = some (.tup xs)) : AnyV H (.ref a)
  | dK {a : Addr} {kvs : List (Key × V)} (e : H a = some (.dK kvs)) : AnyV H (.ref a)
def isI : V → Bool | .int _ => true | _ => false
def isB : V → Bool | .bl _ => true | _ => false
theorem AnyV.mono {H H' : Hp} {v : V} (h : AnyV H v) (k : ∀ a o, v = .ref a → H a = some o → (∀ ps, o ≠ .tbl ps) → H' a = some o) : AnyV H' v := by
  cases h with
  | non => exact .non
  | bl b => exact .bl b
  | int i => exact .int i
  | str x => exact .str x
  | lst e => exact .lst (k _ _ rfl e fun ps z => by cases z)
  | tup e => exact .tup (k _ _ rfl e fun ps z => by cases z)
  | dK e => exact .dK (k _ _ rfl e fun ps z => by cases z)
theorem AnyV.ty {K : PySem.W.Frag} {H : Hp} {v : V} (h : AnyV H v) : ∃ t : String, TyX K H v (.type t) ∧ PySem.W.kitOne K (.type t) (.type "int") = some (isI v || isB v) ∧ PySem.W.kitOne K (.type t) (.type "bool") = some (isB v) := by
  cases h with
  | non => exact ⟨_, .base .non, kit_ty (by decide +kernel), kit_ty (by decide +kernel)⟩
  | bl b => exact ⟨_, .base (.bl b), kit_ty (by show kitB "bool" "int" = some true; decide +kernel), kit_ty (by show kitB "bool" "bool" = some true; decide +kernel)⟩
  | int i => exact ⟨_, .base (.int i), kit_ty (by show kitB "int" "int" = some true; decide +kernel), kit_ty (by show kitB "int" "bool" = some false; decide +kernel)⟩
  | str x => exact ⟨_, .base (.str x), kit_ty (by show kitB "str" "int" = some false; decide +kernel), kit_ty (by show kitB "str" "bool" = some false; decide +kernel)⟩
  | lst e => exact ⟨_, .base (.lst e), kit_ty (by show kitB "list" "int" = some false; decide +kernel), kit_ty (by show kitB "list" "bool" = some false; decide +kernel)⟩
  | tup e => exact ⟨_, .base (.tup e), kit_ty (by show kitB "tuple" "int" = some false; decide +kernel), kit_ty (by show kitB "tuple" "bool" = some false; decide +kernel)⟩
  | dK e => exact ⟨_, .base (.dK e), kit_ty (by show kitB "dict" "int" = some false; decide +kernel), kit_ty (by show kitB "dict" "bool" = some false; decide +kernel)⟩
/-- isinstance(value, int) and not isinstance(value, bool) -/
def spIsInt : Sp := fun vs H Q _ => ∃ v, vs = [v] ∧ AnyV H v ∧ Q (.bl (isI v)) H
def isP : V → Bool | .int i => decide (0 ≤ i) && decide (i < 10000) | _ => false
def spIsPlace : Sp := fun vs H Q _ => ∃ v, vs = [v] ∧ AnyV H v ∧ Q (.bl (isP v)) H
def isS : V → V → Bool | .int b, .int m => decide (0 ≤ b) && decide (b < 10000) && decide (1 ≤ m) && decide (b + m ≤ 10000) | _, _ => false
def spIsStretch : Sp := fun vs H Q _ => ∃ b m, vs = [b, m] ∧ AnyV H b ∧ AnyV H m ∧ Q (.bl (isS b m)) H
def spNeed (CB : Addr) : Sp := fun vs H Q E => ∃ b m, vs = [b, m] ∧ AnyV H b ∧ AnyV H m ∧ (isS b m = true → Q .non H) ∧ (isS b m = false → E (.ref CB) none H)
structure TC (K : PySem.W.Frag) (mg : Str → Option Value) : Prop extends TB mg where
  isinstance_ : mg "isinstance" = none
  bool_ : mg "bool" = none
  PLACES : ∃ t, mg "PLACES" = some (.int 10000 t)
section
variable {P : Program} {w : World} {K : PySem.W.Frag} {mg : Str → Option Value} {base : Heap}
theorem scIsInt : FnScope ["value"] ["value"] (defScope sIsInt) := ⟨rfl, rfl, rfl, by decide +kernel, rfl, by decide +kernel, by decide +kernel⟩
theorem ok_is_integer {f : Addr} {fd : FuncData} (F : Fun K "is_integer" "is_integer" sIsInt f fd) (T : TC K mg) : FnOk P w K mg base CX0 1 f fd ["value"] spIsInt := by
  refine F.ok scIsInt (fun vs H Q E h => ?_) (fun cdv A outer s H vs Q E hr h => ?_)
  · obtain ⟨v, rfl, _⟩ := h
    rfl
  · obtain ⟨v, rfl, hv, k⟩ := h
    obtain ⟨t, ty, h1, h2⟩ := hv.ty (K := K)
    refine ⟨_, pss_one (ps_ret (pe_and (pe_callB call_isi (by rfl) T.isinstance_ PyProof.Rows.boot_isinstance (pa_cons (pv 0) (pa_cons (pe_bltn (v := .ty "int") rfl T.int_ (by decide +kernel) rfl) pa_nil)))
      (pe_one (pe_not (pe_callB call_isi (by rfl) T.isinstance_ PyProof.Rows.boot_isinstance (pa_cons (pv 0) (pa_cons (pe_bltn (v := .ty "bool") rfl T.bool_ (by decide +kernel) rfl) pa_nil))))))), ?_⟩
    refine ⟨_, rfl, _, _, _, _, _, rfl, .ty _, ty, h1, _, rfl, ?_⟩
    refine ite2 (fun c => ?_) (fun c => ?_)
    · refine ⟨_, rfl, _, _, _, _, _, rfl, .ty _, ty, h2, _, rfl, ?_⟩
      have e : (!isB v) = isI v := by cases v <;> simp_all [isI, isB]
      rw [e]
      exact k
    · have e : isI v = false := by
        cases q : isI v with
        | false => rfl
        | true => rw [q] at c; simp at c
      rw [e] at k
      exact k
theorem scIsPlace : FnScope ["value"] ["value"] (defScope sIsPlace) := ⟨rfl, rfl, rfl, by decide +kernel, rfl, by decide +kernel, by decide +kernel⟩
theorem ok_is_place {f fI : Addr} {fd fdI : FuncData} (F : Fun K "is_place" "is_place" sIsPlace f fd) (T : TC K mg) (GI : FnOk P w K mg base CX0 1 fI fdI ["value"] spIsInt) (mI : mg "is_integer" = some (.ref fI)) (kI : PySem.W.keepIn K (.ref fI) = true) (bI : Binds K fdI ["value"] []) : FnOk P w K mg base CX0 2 f fd ["value"] spIsPlace := by
  refine F.ok scIsPlace (fun vs H Q E h => ?_) (fun cdv A outer s H vs Q E hr h => ?_)
  · obtain ⟨v, rfl, _⟩ := h
    rfl
  · obtain ⟨v, rfl, hv, k⟩ := h
    obtain ⟨tp, hP⟩ := T.PLACES
    refine ⟨_, pss_one (ps_ret (pe_and (pe_call GI hr rfl mI kI bI .nil pass0 (pa_cons (pv 0) pa_nil)) (pe_one (pe_chain op_le op_lt pe_int (pv 0) (pe_glob (v := .int 10000) rfl hP ⟨_, rfl⟩))))), ?_⟩
    refine ⟨_, rfl, v, rfl, hv, _, rfl, ?_⟩
    cases hv with
    | int i =>
      refine iteT ?_
      refine ⟨_, rfl, _, _, rfl, rfl, _, rfl, ?_⟩
      refine ite2 (fun c => ?_) (fun c => ?_)
      · refine ⟨_, _, rfl, rfl, ?_⟩
        have c' : 0 ≤ i := of_decide_eq_true c
        simp only [isP, c', decide_true, Bool.true_and] at k
        exact k
      · have c' : ¬ 0 ≤ i := fun z => c (decide_eq_true z)
        simp only [isP, c', decide_false, Bool.false_and] at k
        exact k
    | _ => exact iteF k
theorem scIsStretch : FnScope ["begin", "many"] ["begin", "many"] (defScope sIsStretch) := ⟨rfl, rfl, rfl, by decide +kernel, rfl, by decide +kernel, by decide +kernel⟩
theorem ok_is_stretch {f fI fP : Addr} {fd fdI fdP : FuncData} (F : Fun K "is_stretch" "is_stretch" sIsStretch f fd) (T : TC K mg) (GI : FnOk P w K mg base CX0 1 fI fdI ["value"] spIsInt) (mI : mg "is_integer" = some (.ref fI)) (kI : PySem.W.keepIn K (.ref fI) = true) (bI : Binds K fdI ["value"] [])
    (GP : FnOk P w K mg base CX0 2 fP fdP ["value"] spIsPlace) (mP : mg "is_place" = some (.ref fP)) (kP : PySem.W.keepIn K (.ref fP) = true) (bP : Binds K fdP ["value"] []) : FnOk P w K mg base CX0 3 f fd ["begin", "many"] spIsStretch := by
  refine F.ok scIsStretch (fun vs H Q E h => ?_) (fun cdv A outer s H vs Q E hr h => ?_)
  · obtain ⟨b, m, rfl, _⟩ := h
    rfl
  · obtain ⟨b, m, rfl, hb, hm, k⟩ := h
    obtain ⟨tp, hP⟩ := T.PLACES
    refine ⟨_, pss_one (ps_ret (pe_and (pe_call GP hr rfl mP kP bP .nil pass0 (pa_cons (pv 0) pa_nil)) (pe_and (pe_call GI (hr.mono (by decide)) rfl mI kI bI .nil pass0 (pa_cons (pv 1) pa_nil))
      (pe_and (pe_cmpR op_ge (pv 1) pe_int (nomark _)) (pe_one (pe_cmpR op_le (pe_op op_add (pv 0) (pv 1)) (pe_glob (v := .int 10000) rfl hP ⟨_, rfl⟩) (nomark _))))))), ?_⟩
    refine ⟨_, rfl, b, rfl, hb, _, rfl, ?_⟩
    refine ite2 (fun c1 => ?_) (fun c1 => ?_)
    · refine ⟨_, rfl, m, rfl, hm, _, rfl, ?_⟩
      refine ite2 (fun c2 => ?_) (fun c2 => ?_)
      · obtain ⟨i, rfl⟩ : ∃ i, b = .int i := by cases b <;> simp [isP] at c1 <;> exact ⟨_, rfl⟩
        obtain ⟨j, rfl⟩ : ∃ j, m = .int j := by cases m <;> simp [isI] at c2 <;> exact ⟨_, rfl⟩
        refine ⟨_, rfl, _, _, rfl, rfl, _, rfl, ?_⟩
        have c1' : 0 ≤ i ∧ i < 10000 := by simpa [isP] using c1
        refine ite2 (fun c3 => ?_) (fun c3 => ?_)
        · have c3' : 1 ≤ j := of_decide_eq_true c3
          refine ⟨_, rfl, _, rfl, _, _, rfl, rfl, _, _, rfl, rfl, ?_⟩
          simp only [isS, c1'.1, c1'.2, c3', decide_true, Bool.true_and] at k
          exact k
        · have c3' : ¬ 1 ≤ j := fun z => c3 (decide_eq_true z)
          simp only [isS, c1'.1, c1'.2, c3', decide_true, decide_false, Bool.true_and, Bool.and_false, Bool.false_and] at k
          exact k
      · have e : isS b m = false := by cases b <;> cases m <;> simp_all [isS, isI]
        rw [e] at k
        exact k
    · have e : isS b m = false := by
        cases b <;> cases m <;> first | rfl | skip
        simp only [isS, isP] at c1 ⊢
        simp only [Bool.and_eq_false_iff, decide_eq_false_iff_not]
        simp only [Bool.and_eq_true, decide_eq_true_eq] at c1
        omega
      rw [e] at k
      exact k
end
end Bm
set_option maxRecDepth 100000
set_option maxHeartbeats 4000000
namespace Bm
open PySem L2 L3 Pm
abbrev sName : Stmt := top 19
abbrev sNew : Stmt := top 20
abbrev sCont : Stmt := top 21
abbrev sNCont : Stmt := top 22
abbrev LET : Str := "abcdefghijklmnopqrstuvwxyz"
def isT : V → Bool | .str _ => true | _ => false
theorem AnyV.tyT {K : PySem.W.Frag} {H : Hp} {v : V} (h : AnyV H v) : ∃ t : String, TyX K H v (.type t) ∧ PySem.W.kitOne K (.type t) (.type "str") = some (isT v) := by
  cases h with
  | non => exact ⟨_, .base .non, kit_ty (by decide +kernel)⟩
  | bl b => exact ⟨_, .base (.bl b), kit_ty (by show kitB "bool" "str" = some false; decide +kernel)⟩
  | int i => exact ⟨_, .base (.int i), kit_ty (by show kitB "int" "str" = some false; decide +kernel)⟩
  | str x => exact ⟨_, .base (.str x), kit_ty (by show kitB "str" "str" = some true; decide +kernel)⟩
  | lst e => exact ⟨_, .base (.lst e), kit_ty (by show kitB "list" "str" = some false; decide +kernel)⟩
  | tup e => exact ⟨_, .base (.tup e), kit_ty (by show kitB "tuple" "str" = some false; decide +kernel)⟩
  | dK e => exact ⟨_, .base (.dK e), kit_ty (by show kitB "dict" "str" = some false; decide +kernel)⟩
def low (c : Nat) : Bool := decide (c ∈ LET.cps.toList)
def nameS (x : Str) : Bool := decide (1 ≤ x.length) && (decide (x.length ≤ 8) && x.cps.toList.all low)
def nameB : V → Bool | .str x => nameS x | _ => false
/-- texts are short -/
def Short (v : V) : Prop := ∀ x, v = .str x → x.length ≤ 10000 ∧ x.cps.all (· < 0x110000) = true
def spName : Sp := fun vs H Q _ => ∃ v, vs = [v] ∧ AnyV H v ∧ Short v ∧ ∀ H', Same H H' → Q (.bl (nameB v)) H'
/-- an error with one attribute -/
def attrE (CN : Addr) (x : Str) (y : V) (H : Hp) (E : XK) : Prop := ∀ H0 d, Same H H0 → H0 d = none → E (.ref CN) (some d) (upd H0 d (.xd [(x, y)]))
def spNew (CBN CT : Addr) : Sp := fun vs H Q E => ∃ (a : Addr) (kvs : List (Key × V)) (v : V), vs = [.ref a, v] ∧ H a = some (.dK kvs) ∧ AnyV H v ∧ Short v ∧
  (nameB v = false → ∀ H', Same H H' → E (.ref CBN) none H') ∧ (∀ x, v = .str x → nameS x = true → (valV kvs (Sum.inr x)).isSome = true → attrE CT "name" v H E) ∧
  (∀ x, v = .str x → nameS x = true → valV kvs (Sum.inr x) = none → ∀ H', Same H H' → Q .non H')
def isC : V → Bool | .int i => decide (0 ≤ i) && decide (i ≤ 1000000) | _ => false
def spCont : Sp := fun vs H Q _ => ∃ v, vs = [v] ∧ AnyV H v ∧ Q (.bl (isC v)) H
def spNCont (CV : Addr) : Sp := fun vs H Q E => ∃ v, vs = [v] ∧ AnyV H v ∧ (isC v = true → Q .non H) ∧ (isC v = false → E (.ref CV) none H)
/-- an error without attributes -/
structure PlainE (K : PySem.W.Frag) (mg : Str → Option Value) (n : Str) (CB : Addr) : Prop where
  g : mg n = some (.ref CB)
  x : PySem.W.excIn K CB [.type "ValueError", .type "Exception", .type "BaseException", .type "object"] "ValueError.__new__" = true
  k : PySem.W.keepIn K (.ref CB) = true
  b : PySem.W.subIn K (.ref CB) (.type "BaseException") = some true
  t : PySem.W.typeIn K (.ref CB) = some (.type "type")
/-- an error with an attribute, as it is made -/
def SupE (P : Program) (w : World) (K : PySem.W.Frag) (mg : Str → Option Value) (base : Heap) (n x : Str) (CN : Addr) : Prop :=
  mg n = some (.ref CN) ∧ OexC K CN ∧ ∃ fI fd, PySem.W.findIn K (.ref CN) "__init__" = some (some (.ref fI)) ∧ PySem.W.typeIn K (.ref fI) = some (.type "function") ∧ FnOk P w K mg base CX0 1 fI fd ["self", x] (spSup CN x) ∧ Binds K fd ["self", x] []
/-- a def of the module, with its promise -/
def Has (P : Program) (w : World) (K : PySem.W.Frag) (mg : Str → Option Value) (base : Heap) (CX : CXT) (k : Nat) (x : Str) (ps : List Str) (sp : Sp) : Prop :=
  ∃ f fd, FnOk P w K mg base CX k f fd ps sp ∧ mg x = some (.ref f) ∧ PySem.W.keepIn K (.ref f) = true ∧ Binds K fd ps []
structure TD (K : PySem.W.Frag) (mg : Str → Option Value) : Prop extends TC K mg where
  str_ : mg "str" = none
  all_ : mg "all" = none
  LETTERS : ∃ t, mg "LETTERS" = some (.str LET t)
  ML : ∃ t, mg "MOST_LETTERS" = some (.int 8 t)
  MC : ∃ t, mg "MOST_CONTENTS" = some (.int 1000000 t)
theorem sameNew {H : Hp} {p : Addr} {o : HO} (n : H p = none) : Same H (upd H p o) := fun b u e => by
  rw [upd_ne (ne_of_none e n)]
  exact e
theorem AnyV.same {H H' : Hp} {v : V} (h : AnyV H v) (e : Same H H') : AnyV H' v := h.mono fun a o _ ha _ => e a o ha
section
variable {P : Program} {w : World} {K : PySem.W.Frag} {mg : Str → Option Value} {base : Heap}
theorem scName : FnScope ["value", "sign"] ["value"] (defScope sName) := ⟨rfl, rfl, rfl, by decide +kernel, rfl, by decide +kernel, by decide +kernel⟩
theorem ok_name {f : Addr} {fd : FuncData} (F : Fun K "is_name" "is_name" sName f fd) (T : TD K mg) : FnOk P w K mg base CX0 1 f fd ["value"] spName := by
  refine F.ok scName (fun vs H Q E h => ?_) (fun cdv A outer s H vs Q E hr h => ?_)
  · obtain ⟨v, rfl, _⟩ := h
    rfl
  · obtain ⟨v, rfl, hv, sh, k⟩ := h
    obtain ⟨t, ty, h1⟩ := hv.tyT (K := K)
    obtain ⟨_, hLET⟩ := T.LETTERS
    obtain ⟨_, hML⟩ := T.ML
    refine ⟨_, (pss_one (ps_ret (pe_and (pe_callB call_isV (by rfl) T.isinstance_ PyProof.Rows.boot_isinstance (pa_cons (pv 0) (pa_cons (pe_bltn (v := .ty "str") rfl T.str_ (by decide +kernel) rfl) pa_nil))) (pe_and (pe_chain op_le op_le pe_int (pe_callB call_len_str (by rfl) T.len_ PySem.boot_len (pa_cons (pv 0) pa_nil)) (pe_glob (v := .int 8) rfl hML ⟨_, rfl⟩)) (pe_one (pe_callB (cr_all rfl) (by rfl) T.all_ (by decide +kernel) (pa_cons (pe_lc (own := [("sign", 1)]) (g := gName 1) (tt := tYes) rfl scName.nd (pi_str (pv 0)) (blkOk_by (own := [("sign", 1)]) (N := ["value", "sign"]) (sc := defScope sName) (by decide +kernel)) (fun _ _ _ _ _ => (pg_name (i := 1) scName.nd rfl (Or.inl rfl))) (fun _ _ _ _ _ => pts_nil) (fun _ _ _ _ _ => (pe_cmpR op_in_sign (pv 1) (pe_glob (v := .str LET) rfl hLET ⟨_, rfl⟩) (by rfl)))) pa_nil))))))), ?_⟩
    refine ⟨_, rfl, _, _, _, _, _, rfl, .ty _, .base ty, h1, _, rfl, ?_⟩
    cases hv with
    | str x =>
      have hx := (sh x rfl).1
      refine iteT ?_
      refine ⟨_, rfl, x, rfl, by rw [sizeLine_eq]; omega, _, _, rfl, rfl, _, rfl, ?_⟩
      refine ite2 (fun c1 => ?_) (fun c1 => ?_)
      · have c1' : 1 ≤ x.length := by have := of_decide_eq_true c1; omega
        refine ⟨_, _, rfl, rfl, ?_⟩
        refine ⟨_, rfl, ?_⟩
        refine ite2 (fun c2 => ?_) (fun c2 => ?_)
        · have c2' : x.length ≤ 8 := by have := of_decide_eq_true c2; omega
          refine ⟨_, rfl, x, rfl, fun D nD => ?_⟩
          have sD := sameNew (o := HO.lst []) nD
          refine lc_it walk_str (fun i H1 => Same H H1 ∧ H1 D = some (.lst ((x.cps.toList.take i).map fun c => V.bl (low c)))) ⟨sD, upd_same⟩ (fun _ _ _ _ => True.intro) ?_ ?_
          · rintro i y H1 H2 hi ⟨s1, h1⟩ ⟨rfl, c, hc, rfl⟩
            refine ⟨rfl, _, rfl, c, LET, rfl, rfl, _, h1, ?_, fun b o e => ?_, ?_⟩
            · have := List.length_take_le i x.cps.toList
              have hi' : i < x.length := hi
              rw [List.length_map, sizeLine_eq]
              omega
            · rw [upd_ne (ne_of_none e nD)]
              exact s1 b o e
            · rw [upd_same]
              have : (x.cps.toList.take (i + 1)) = x.cps.toList.take i ++ [c] := by
                rw [List.take_succ, Array.getElem?_toList, hc]
                rfl
              rw [this, List.map_append]
              rfl
          · rintro H1 ⟨s1, h1⟩
            rw [← Array.length_toList, List.take_length] at h1
            refine ⟨D, x.cps.toList.map low, rfl, SqL.of (by rw [List.map_map]; exact h1), ?_⟩
            have := k H1 s1
            simp only [nameB, nameS, c1', c2', decide_true, Bool.true_and] at this
            rw [show ((x.cps.toList.map low).all id) = x.cps.toList.all low from by rw [List.all_map]; rfl]
            exact this
        · have c2' : ¬ x.length ≤ 8 := fun z => c2 (decide_eq_true (by show (x.length : Int) ≤ 8; omega))
          have := k H (Same.refl _)
          simp only [nameB, nameS, c2', decide_false, Bool.false_and, Bool.and_false] at this
          exact this
      · have c1' : ¬ 1 ≤ x.length := fun z => c1 (decide_eq_true (by show (1 : Int) ≤ x.length; omega))
        have := k H (Same.refl _)
        simp only [nameB, nameS, c1', decide_false, Bool.false_and] at this
        exact ⟨_, rfl, iteF this⟩
    | _ => exact iteF (k H (Same.refl _))
theorem scNew : FnScope ["spaces", "name"] ["spaces", "name"] (defScope sNew) := ⟨rfl, rfl, rfl, by decide +kernel, rfl, by decide +kernel, by decide +kernel⟩
theorem ok_new {f CBN CT : Addr} {fd : FuncData} (F : Fun K "need_new" "need_new" sNew f fd) (TB : PlainE K mg "BadName" CBN) (ST : SupE P w K mg base "Taken" "name" CT) (HN : Has P w K mg base CX0 1 "is_name" ["value"] spName) : FnOk P w K mg base (L2.CX P w) 3 f fd ["spaces", "name"] (spNew CBN CT) := by
  obtain ⟨gT, TT, fT, fdT, iT, tT, GT, bT⟩ := ST
  obtain ⟨fN, fdN, GN, mN, kN, bN⟩ := HN
  refine F.okX scNew (fun vs H Q E h => ?_) (fun cdv A outer s H vs Q E hr h => ?_)
  · obtain ⟨a, kvs, v, rfl, _⟩ := h
    rfl
  · obtain ⟨a, kvs, v, rfl, ha, hv, sh, k1, k2, k3⟩ := h
    have hu := hu_of hr
    refine ⟨_, (pss_cons (ps_if (pt_not (pt_val (pe_call GN (hr.mono (by decide)) rfl mN kN bN .nil pass0 (pa_cons (pv 1) pa_nil))))
        (pss_one (ps_raise rfl (takes_of rfl rfl rfl rfl) (pmk_own PySem.F.excBase_ValueError TB.x TB.g TB.k (raises_own TB.b TB.t) (by exact rfl))))
        pss_nil)
      (pss_one (ps_if (pt_cmp (pc_din hu (pv 1) (pv 0)))
        (pss_one (ps_raise rfl (takes_of rfl rfl rfl rfl) (pmk_oex TT iT tT GT hr bT .nil pass0 rfl gT (pa_cons (pv 1) pa_nil))))
        pss_nil))), ?_⟩

    refine ⟨_, rfl, v, rfl, hv, sh, fun H1 s1 => ⟨_, rfl, ?_⟩⟩
    cases e : nameB v with
    | false => exact iteT (k1 e H1 s1)
    | true =>
      obtain ⟨x, rfl⟩ : ∃ x, v = .str x := by cases v <;> simp [nameB] at e <;> exact ⟨_, rfl⟩
      refine iteF ?_
      refine ⟨_, rfl, _, rfl, a, _, rfl, DGet.k (k := Sum.inr x) (s1 _ _ ha), _, rfl, ?_⟩
      cases e2 : valV kvs (Sum.inr x) with
      | some y => exact iteT ⟨_, rfl, by show 1 ≤ 1000; decide, mk_sup fun d nd => k2 x rfl e (by rw [e2]; rfl) _ d s1 nd⟩
      | none => exact iteF (k3 x rfl e e2 _ s1)
theorem scCont : FnScope ["value"] ["value"] (defScope sCont) := ⟨rfl, rfl, rfl, by decide +kernel, rfl, by decide +kernel, by decide +kernel⟩
theorem ok_cont {f : Addr} {fd : FuncData} (F : Fun K "is_contents" "is_contents" sCont f fd) (T : TD K mg) (HI : Has P w K mg base CX0 1 "is_integer" ["value"] spIsInt) : FnOk P w K mg base CX0 2 f fd ["value"] spCont := by
  obtain ⟨fI, fdI, GI, mI, kI, bI⟩ := HI
  obtain ⟨_, hMC⟩ := T.MC
  refine F.ok scCont (fun vs H Q E h => ?_) (fun cdv A outer s H vs Q E hr h => ?_)
  · obtain ⟨v, rfl, _⟩ := h
    rfl
  · obtain ⟨v, rfl, hv, k⟩ := h
    refine ⟨_, (pss_one (ps_ret (pe_and (pe_call GI hr rfl mI kI bI .nil pass0 (pa_cons (pv 0) pa_nil)) (pe_one (pe_chain op_le op_le pe_int (pv 0) (pe_glob (v := .int 1000000) rfl hMC ⟨_, rfl⟩)))))), ?_⟩
    refine ⟨_, rfl, v, rfl, hv, _, rfl, ?_⟩
    cases hv with
    | int i =>
      refine iteT ⟨_, rfl, _, _, rfl, rfl, _, rfl, ite2 (fun c => ?_) (fun c => ?_)⟩
      · have c' : 0 ≤ i := of_decide_eq_true c
        refine ⟨_, _, rfl, rfl, ?_⟩
        simp only [isC, c', decide_true, Bool.true_and] at k
        exact k
      · have c' : ¬ 0 ≤ i := fun z => c (decide_eq_true z)
        simp only [isC, c', decide_false, Bool.false_and] at k
        exact k
    | _ => exact iteF k
theorem scNeed : FnScope ["begin", "many"] ["begin", "many"] (defScope sNeed) := ⟨rfl, rfl, rfl, by decide +kernel, rfl, by decide +kernel, by decide +kernel⟩
theorem ok_need {f CB : Addr} {fd : FuncData} (F : Fun K "need_stretch" "need_stretch" sNeed f fd) (TB : PlainE K mg "BadArea" CB) (HS : Has P w K mg base CX0 3 "is_stretch" ["begin", "many"] spIsStretch) :
    FnOk P w K mg base (L2.CX P w) 4 f fd ["begin", "many"] (spNeed CB) := by
  obtain ⟨fS, fdS, GS, mS, kS, bS⟩ := HS
  refine F.okX scNeed (fun vs H Q E h => ?_) (fun cdv A outer s H vs Q E hr h => ?_)
  · obtain ⟨b, m, rfl, _⟩ := h
    rfl
  · obtain ⟨b, m, rfl, hb, hm, k1, k2⟩ := h
    refine ⟨_, pss_one (ps_if (pt_not (pt_val (pe_call GS hr rfl mS kS bS .nil pass0 (pa_cons (pv 0) (pa_cons (pv 1) pa_nil)))))
      (pss_one (ps_raise rfl (takes_of rfl rfl rfl rfl) (pmk_own PySem.F.excBase_ValueError TB.x TB.g TB.k (raises_own TB.b TB.t) (by exact rfl)))) pss_nil), ?_⟩
    refine ⟨_, rfl, _, rfl, b, m, rfl, hb, hm, _, rfl, ?_⟩
    cases e : isS b m with
    | true => exact iteF (k1 e)
    | false => exact iteT (k2 e)
theorem scNCont : FnScope ["value"] ["value"] (defScope sNCont) := ⟨rfl, rfl, rfl, by decide +kernel, rfl, by decide +kernel, by decide +kernel⟩
theorem ok_ncont {f CV : Addr} {fd : FuncData} (F : Fun K "need_contents" "need_contents" sNCont f fd) (TV : PlainE K mg "BadValue" CV) (HC : Has P w K mg base CX0 2 "is_contents" ["value"] spCont) : FnOk P w K mg base (L2.CX P w) 3 f fd ["value"] (spNCont CV) := by
  obtain ⟨fC, fdC, GC, mC, kC, bC⟩ := HC
  refine F.okX scNCont (fun vs H Q E h => ?_) (fun cdv A outer s H vs Q E hr h => ?_)
  · obtain ⟨v, rfl, _⟩ := h
    rfl
  · obtain ⟨v, rfl, hv, k1, k2⟩ := h
    refine ⟨_, (pss_one (ps_if (pt_not (pt_val (pe_call GC hr rfl mC kC bC .nil pass0 (pa_cons (pv 0) pa_nil))))
        (pss_one (ps_raise rfl (takes_of rfl rfl rfl rfl) (pmk_own PySem.F.excBase_ValueError TV.x TV.g TV.k (raises_own TV.b TV.t) (by exact rfl))))
        pss_nil)), ?_⟩

    refine ⟨_, rfl, v, rfl, hv, _, rfl, ?_⟩
    cases e : isC v with
    | false => exact iteT (k2 e)
    | true => exact iteF (k1 e)
end
end Bm
set_option maxRecDepth 100000
set_option maxHeartbeats 4000000
/-! a plain memory in the heap -/
namespace Pm
open PySem L2
section
variable {α β : Type} [DecidableEq α]
theorem dr_none {l : List (α × β)} {a : α} (h : lk l a = none) : dr l a = l := by
  unfold dr
  rw [List.filter_eq_self]
  intro p hp
  have := (lk_none l a).mp h
  simp only [ne_eq, decide_eq_true_eq]
  exact fun e => this (e ▸ List.mem_map.mpr ⟨p, hp, rfl⟩)
theorem pt_same {l : List (α × β)} {a : α} {b : β} (n : (l.map (·.1)).Nodup) (h : lk l a = some b) : pt l a b = l := by
  unfold pt
  rw [any_lk, h, if_pos (show (some b).isSome = true from rfl)]
  conv => rhs; rw [← List.map_id l]
  refine List.map_congr_left fun p hp => ?_
  by_cases e : p.1 = a
  · have := lk_of_mem n hp
    rw [e, h] at this
    cases this
    simp [← e]
  · simp [e]
end
theorem used_mono (d : Pl) (b : Int) {x : Int} {n : Nat} : ∀ k, used d b n = some x → used d b (n + k) = some x
  | 0, h => h
  | k + 1, h => by
    show (match used d b (n + k) with | some i => some i | none => _) = _
    rw [used_mono d b k h]
theorem lacks_mono (d : Pl) (b : Int) {x : Int} {n : Nat} : ∀ k, lacks d b n = some x → lacks d b (n + k) = some x
  | 0, h => h
  | k + 1, h => by
    show (match lacks d b (n + k) with | some i => some i | none => _) = _
    rw [lacks_mono d b k h]
/-- places are places, each once -/
def OkP (d : Pl) : Prop := (d.map (·.1)).Nodup ∧ ∀ i ∈ d.map (·.1), 0 ≤ i ∧ i < 10000
theorem OkP.nil : OkP [] := ⟨by simp, fun _ h => by cases h⟩
theorem OkP.pt {d : Pl} {i : Int} {v : Int} (h : OkP d) (h0 : 0 ≤ i) (h1 : i < 10000) : OkP (pt d i v) := ⟨nodup_pt h.1, fun c hc => by
  rcases (mem_keys_pt d i c v).mp hc with e | e
  · exact e ▸ ⟨h0, h1⟩
  · exact h.2 c e⟩
theorem OkP.dr {d : Pl} {i : Int} (h : OkP d) : OkP (dr d i) := ⟨nodup_dr h.1, fun c hc => h.2 c (by
  obtain ⟨p, hp, e⟩ := List.mem_map.mp hc
  exact List.mem_map.mpr ⟨p, (List.mem_filter.mp hp).1, e⟩)⟩
theorem few_nats : ∀ (n : Nat) (l : List Int), l.Nodup → (∀ i ∈ l, 0 ≤ i ∧ i < (n : Int)) → l.length ≤ n
  | 0, l, _, h => by
    cases l with
    | nil => exact Nat.le_refl _
    | cons a l => have := h a List.mem_cons_self; omega
  | n + 1, l, nd, h => by
    by_cases m : ((n : Nat) : Int) ∈ l
    · have ih := few_nats n (l.erase (n : Int)) (nd.erase _) fun i hi => by
        have h1 := (nd.mem_erase_iff).mp hi
        have := h i h1.2
        have : i ≠ (n : Int) := h1.1
        omega
      have := List.length_erase_of_mem m
      omega
    · have ih := few_nats n l nd fun i hi => by
        have := h i hi
        have : i ≠ (n : Int) := fun e => m (e ▸ hi)
        omega
      omega
theorem OkP.few {d : Pl} (h : OkP d) : d.length ≤ 10000 := by
  have := few_nats 10000 _ h.1 (fun i hi => h.2 i hi)
  rwa [List.length_map] at this
theorem OkP.pts {l : List (Int × Int)} (hl : ∀ p ∈ l, 0 ≤ p.1 ∧ p.1 < 10000) : ∀ {d : Pl}, OkP d → OkP (pts d l) := by
  induction l with
  | nil => exact fun h => h
  | cons p l ih => exact fun h => ih (fun q hq => hl q (List.mem_cons_of_mem _ hq)) (h.pt (hl p List.mem_cons_self).1 (hl p List.mem_cons_self).2)
theorem OkP.mapP {d : Pl} {b : Int} {n : Nat} (h : OkP d) (h0 : 0 ≤ b) (h1 : b + n ≤ 10000) : OkP (mapP d b n) := h.pts fun p hp => by
  obtain ⟨i, hi, rfl⟩ := List.mem_map.mp hp
  have := List.mem_range.mp hi
  exact ⟨by show 0 ≤ b + (i : Int); omega, by show b + (i : Int) < 10000; omega⟩
theorem OkP.unmapP {d : Pl} {b : Int} : ∀ {n : Nat}, OkP d → OkP (unmapP d b n)
  | 0, h => h
  | n + 1, h => (OkP.unmapP (n := n) h).dr
theorem OkP.moveP {d : Pl} {b to : Int} : ∀ {n : Nat}, OkP d → 0 ≤ to → to + n ≤ 10000 → OkP (moveP d b to n)
  | 0, h, _, _ => h
  | n + 1, h, h0, h1 => ((OkP.moveP (n := n) h h0 (by omega)).dr).pt (by omega) (by omega)
/-- spaces: name, the dict's address, the places -/
abbrev Sp3 := List (Str × Addr × Pl)
def hK (m : Sp3) : List (Key × V) := kv Sum.inr (fun e : Addr × Pl => V.ref e.1) m
theorem hK_val (m : Sp3) (s : Str) : valV (hK m) (Sum.inr s) = (lk m s).map fun e => V.ref e.1 := kv_val injS m s
/-- but for the addresses -/
def pur (m : Sp3) : List (Str × Pl) := m.map fun e => (e.1, e.2.2)
theorem pur_pt (m : Sp3) (s : Str) (a : Addr) (d : Pl) : pur (pt m s (a, d)) = pt (pur m) s d := pt_vals (fun e : Addr × Pl => e.2) m s (a, d)
theorem pur_dr (m : Sp3) (s : Str) : pur (dr m s) = dr (pur m) s := dr_vals (fun e : Addr × Pl => e.2) m s
theorem pur_lk (m : Sp3) (s : Str) : lk (pur m) s = (lk m s).map fun e => e.2 := lk_vals (fun e : Addr × Pl => e.2) m s
/-- the memory at p -/
structure PlA (C : Addr) (H : Hp) (p dx hd : Addr) (m : Sp3) : Prop where
  ins : H p = some (.ins C dx [("held", .ref hd)])
  held : H hd = some (.dK (hK m))
  inner : ∀ e ∈ m, H e.2.1 = some (.dK (dI e.2.2))
  nodN : (m.map (·.1)).Nodup
  nodA : (hd :: m.map (·.2.1)).Nodup
  ok : ∀ e ∈ m, OkP e.2.2
/-- the objects that change with it -/
def fpt (hd : Addr) (m : Sp3) : List Addr := hd :: m.map (·.2.1)
/-- all but some objects stay -/
def Keeps (S : List Addr) (H H' : Hp) : Prop := ∀ b o, H b = some o → b ∉ S → H' b = some o
theorem Keeps.refl {S : List Addr} {H : Hp} : Keeps S H H := fun _ _ h _ => h
theorem Keeps.same {S : List Addr} {H H' : Hp} (h : Same H H') : Keeps S H H' := fun b o e _ => h b o e
theorem Keeps.trans {S : List Addr} {H H1 H2 : Hp} (a : Keeps S H H1) (b : Keeps S H1 H2) : Keeps S H H2 := fun c o h n => b c o (a c o h n) n
theorem Keeps.mono {S S' : List Addr} {H H1 : Hp} (a : Keeps S H H1) (h : ∀ b ∈ S, b ∈ S') : Keeps S' H H1 := fun c o e n => a c o e fun z => n (h c z)
section
variable {C : Addr} {H H' : Hp} {p dx hd : Addr} {m : Sp3}
theorem PlA.at (P : PlA C H p dx hd m) {s : Str} {a : Addr} {d : Pl} (h : lk m s = some (a, d)) : H a = some (.dK (dI d)) ∧ OkP d := ⟨P.inner _ (lk_mem h), P.ok _ (lk_mem h)⟩
theorem PlA.ne_hd (P : PlA C H p dx hd m) {s : Str} {a : Addr} {d : Pl} (h : lk m s = some (a, d)) : a ≠ hd := fun e => (List.nodup_cons.mp P.nodA).1 (e ▸ List.mem_map.mpr ⟨_, lk_mem h, rfl⟩)
theorem PlA.p_off (P : PlA C H p dx hd m) : p ∉ fpt hd m := fun h => by
  rcases List.mem_cons.mp h with e | e
  · have := P.held; rw [← e, P.ins] at this; cases this
  · obtain ⟨x, hx, e⟩ := List.mem_map.mp e
    have := P.inner x hx; rw [e, P.ins] at this; cases this
theorem PlA.keep (P : PlA C H p dx hd m) {S : List Addr} (k : Keeps S H H') (hp : p ∉ S) (hm : ∀ a ∈ fpt hd m, a ∉ S) : PlA C H' p dx hd m where
  ins := k _ _ P.ins hp
  held := k _ _ P.held (hm _ List.mem_cons_self)
  inner := fun e he => k _ _ (P.inner e he) (hm _ (List.mem_cons_of_mem _ (List.mem_map.mpr ⟨e, he, rfl⟩)))
  nodN := P.nodN
  nodA := P.nodA
  ok := P.ok
theorem PlA.same (P : PlA C H p dx hd m) (k : Same H H') : PlA C H' p dx hd m := P.keep (S := []) (fun b o e _ => k b o e) (by simp) (fun _ _ => by simp)
theorem addrs_pt (P : PlA C H p dx hd m) {s : Str} {a : Addr} {d d' : Pl} (h : lk m s = some (a, d)) : (pt m s (a, d')).map (fun e => (e.1, e.2.1)) = m.map fun e => (e.1, e.2.1) := by
  rw [pt_vals (fun e : Addr × Pl => e.1) m s (a, d')]
  refine pt_same ?_ ?_
  · rw [List.map_map]; exact P.nodN
  · rw [lk_vals, h]; rfl
theorem addrs_pt' (P : PlA C H p dx hd m) {s : Str} {a : Addr} {d d' : Pl} (h : lk m s = some (a, d)) : (pt m s (a, d')).map (·.2.1) = m.map (·.2.1) := by
  have := congrArg (List.map (·.2)) (addrs_pt P (d' := d') h)
  rwa [List.map_map, List.map_map] at this
theorem fpt_pt (P : PlA C H p dx hd m) {s : Str} {a : Addr} {d d' : Pl} (h : lk m s = some (a, d)) : fpt hd (pt m s (a, d')) = fpt hd m := by
  unfold fpt
  rw [addrs_pt' P h]
theorem PlA.put (P : PlA C H p dx hd m) {s : Str} {a : Addr} {d d' : Pl} (h : lk m s = some (a, d)) (k : Keeps [a] H H') (e : H' a = some (.dK (dI d'))) (o : OkP d') : PlA C H' p dx hd (pt m s (a, d')) where
  ins := k _ _ P.ins fun z => by
    rw [List.mem_singleton] at z
    have := (P.at h).1
    rw [← z, P.ins] at this
    cases this
  held := by
    have z : hK (pt m s (a, d')) = hK m := by
      unfold hK kv
      have := congrArg (List.map fun e : Str × Addr => ((Sum.inr e.1 : Key), V.ref e.2)) (addrs_pt P (d' := d') h)
      rwa [List.map_map, List.map_map] at this
    rw [z]
    exact k _ _ P.held fun z => P.ne_hd h (List.mem_singleton.mp z).symm
  inner := fun x hx => by
    unfold pt at hx
    rw [any_lk, h, if_pos (show (some (a, d)).isSome = true from rfl)] at hx
    obtain ⟨y, hy, rfl⟩ := List.mem_map.mp hx
    by_cases q : y.1 = s
    · rw [if_pos q]
      exact e
    · rw [if_neg q]
      refine k _ _ (P.inner y hy) fun z => ?_
      rw [List.mem_singleton] at z
      -- one address, two names
      have n2 := (List.nodup_cons.mp P.nodA).2
      have hy2 := lk_mem h
      have : ∀ (l : Sp3), (l.map (·.2.1)).Nodup → y ∈ l → (s, a, d) ∈ l → y.2.1 = a → y = (s, a, d) := by
        intro l
        induction l with
        | nil => intro _ h1; cases h1
        | cons x l ih =>
          intro n h1 h2 h3
          rw [List.map_cons, List.nodup_cons] at n
          rcases List.mem_cons.mp h1 with e1 | e1
          · rcases List.mem_cons.mp h2 with e2 | e2
            · exact e1.trans e2.symm
            · exact absurd (show x.2.1 ∈ l.map (·.2.1) from List.mem_map.mpr ⟨(s, a, d), e2, by rw [← e1, h3]⟩) n.1
          · rcases List.mem_cons.mp h2 with e2 | e2
            · exact absurd (show x.2.1 ∈ l.map (·.2.1) from List.mem_map.mpr ⟨y, e1, by rw [← e2, h3]⟩) n.1
            · exact ih n.2 e1 e2 h3
      exact q (by rw [this m n2 hy hy2 z])
  nodN := nodup_pt P.nodN
  nodA := by rw [addrs_pt' P h]; exact P.nodA
  ok := fun x hx => by
    unfold pt at hx
    rw [any_lk, h, if_pos (show (some (a, d)).isSome = true from rfl)] at hx
    obtain ⟨y, hy, rfl⟩ := List.mem_map.mp hx
    by_cases q : y.1 = s
    · rw [if_pos q]; exact o
    · rw [if_neg q]; exact P.ok y hy
theorem PlA.add (P : PlA C H p dx hd m) {s : Str} {a : Addr} {d : Pl} (h : lk m s = none) (na : H a = none) (k : Keeps [hd] H H') (e : H' a = some (.dK (dI d))) (eh : H' hd = some (.dK (putK (hK m) (Sum.inr s) (.ref a)))) (o : OkP d) : PlA C H' p dx hd (m ++ [(s, a, d)]) where
  ins := k _ _ P.ins fun z => by
    rw [List.mem_singleton] at z
    have := P.held
    rw [← z, P.ins] at this
    cases this
  held := by
    rw [eh]
    show some (HO.dK (putK (kv Sum.inr (fun e : Addr × Pl => V.ref e.1) m) (Sum.inr s) ((fun e : Addr × Pl => V.ref e.1) (a, d)))) = _
    rw [kv_put injS, pt_new _ h]
    rfl
  inner := fun x hx => by
    rcases List.mem_append.mp hx with hx | hx
    · refine k _ _ (P.inner x hx) fun z => ?_
      rw [List.mem_singleton] at z
      exact (List.nodup_cons.mp P.nodA).1 (z ▸ List.mem_map.mpr ⟨_, hx, rfl⟩)
    · rw [List.mem_singleton] at hx
      subst hx
      exact e
  nodN := by
    have := nodup_pt (b := (a, d)) P.nodN (a := s)
    rwa [pt_new _ h] at this
  nodA := by
    rw [List.map_append, ← List.cons_append, List.nodup_append]
    refine ⟨P.nodA, by simp, fun x hx y hy z => ?_⟩
    have hy' : y = a := by simpa using hy
    subst hy' z
    rcases List.mem_cons.mp hx with q | q
    · rw [q, P.held] at na; cases na
    · obtain ⟨f, hf, q⟩ := List.mem_map.mp q
      have := P.inner f hf
      rw [q, na] at this
      cases this
  ok := fun x hx => by
    rcases List.mem_append.mp hx with hx | hx
    · exact P.ok x hx
    · rw [List.mem_singleton] at hx
      subst hx
      exact o
theorem PlA.drop (P : PlA C H p dx hd m) {s : Str} (k : Keeps [hd] H H') (eh : H' hd = some (.dK (dropK (hK m) (Sum.inr s)))) : PlA C H' p dx hd (dr m s) where
  ins := k _ _ P.ins fun z => by
    rw [List.mem_singleton] at z
    have := P.held
    rw [← z, P.ins] at this
    cases this
  held := by rw [eh]; unfold hK; rw [kv_drop injS]
  inner := fun x hx => by
    have hx := (List.mem_filter.mp hx).1
    refine k _ _ (P.inner x hx) fun z => ?_
    rw [List.mem_singleton] at z
    exact (List.nodup_cons.mp P.nodA).1 (z ▸ List.mem_map.mpr ⟨_, hx, rfl⟩)
  nodN := nodup_dr P.nodN
  nodA := by
    have sub : (dr m s).Sublist m := List.filter_sublist
    exact List.Sublist.nodup (List.Sublist.cons_cons _ (List.Sublist.map _ sub)) P.nodA
  ok := fun x hx => P.ok x (List.mem_filter.mp hx).1
theorem fpt_add {s : Str} {a : Addr} {d : Pl} : ∀ x ∈ fpt hd (m ++ [(s, a, d)]), x ∈ fpt hd m ∨ x = a := fun x hx => by
  unfold fpt at hx ⊢
  rw [List.map_append, ← List.cons_append] at hx
  rcases List.mem_append.mp hx with h | h
  · exact .inl h
  · exact .inr (by simpa using h)
theorem fpt_drop {s : Str} : ∀ x ∈ fpt hd (dr m s), x ∈ fpt hd m := fun x hx => by
  unfold fpt at hx ⊢
  rcases List.mem_cons.mp hx with h | h
  · exact List.mem_cons.mpr (.inl h)
  · obtain ⟨y, hy, e⟩ := List.mem_map.mp h
    exact List.mem_cons_of_mem _ (List.mem_map.mpr ⟨y, (List.mem_filter.mp hy).1, e⟩)
theorem fpt_mem {s : Str} {a : Addr} {d : Pl} (h : lk m s = some (a, d)) : a ∈ fpt hd m := List.mem_cons_of_mem _ (List.mem_map.mpr ⟨_, lk_mem h, rfl⟩)
end
end Pm
set_option maxRecDepth 100000
set_option maxHeartbeats 4000000
/-! Plain: the first methods -/
namespace Bm
open PySem L2 L3 Pm
abbrev sPI : Stmt := inClass (top 23) 0
abbrev sPEq : Stmt := inClass (top 23) 1
abbrev sIn : Stmt := inClass (top 23) 2
abbrev sAdd : Stmt := inClass (top 23) 3
abbrev sDrop : Stmt := inClass (top 23) 4
abbrev sMap : Stmt := inClass (top 23) 5
abbrev sNF : Stmt := inClass (top 23) 6
abbrev sUnmap : Stmt := inClass (top 23) 7
abbrev sFork : Stmt := inClass (top 23) 8
abbrev sMove : Stmt := inClass (top 23) 9
abbrev sNP : Stmt := inClass (top 23) 10
abbrev sWrite : Stmt := inClass (top 23) 11
abbrev sRead : Stmt := inClass (top 23) 12
abbrev sSpaces : Stmt := inClass (top 23) 13
abbrev sPlaces : Stmt := inClass (top 23) 14
structure PlT (K : PySem.W.Frag) (C : Addr) : Prop where
  cl : Cls K C
  nH : NoAttr K C "held"
/-- a method of the class -/
def HasM (P : Program) (w : World) (K : PySem.W.Frag) (mg : Str → Option Value) (base : Heap) (CX : CXT) (k : Nat) (C : Addr) (x : Str) (ps : List Str) (sp : Sp) : Prop :=
  ∃ f fd, Meth K C x f ∧ FnOk P w K mg base CX k f fd ps sp ∧ Binds K fd ps []
def spPI (C : Addr) : Sp := fun vs H Q _ => ∃ (p dx : Addr), vs = [.ref p] ∧ H p = some (.ins C dx []) ∧ ∀ hd H', H hd = none → Keeps [p] H H' → PlA C H' p dx hd [] → Q .non H'
def spIn (C CS : Addr) : Sp := fun vs H Q E => ∃ (p dx hd : Addr) (m : Sp3) (y : V), vs = [.ref p, y] ∧ PlA C H p dx hd m ∧ AnyV H y ∧
  (∀ s a d, y = .str s → lk m s = some (a, d) → Q (.ref a) H) ∧ ((∀ s, y = .str s → lk m s = none) → attrE CS "name" y H E)
def spAdd (C CBN CT : Addr) : Sp := fun vs H Q E => ∃ (p dx hd : Addr) (m : Sp3) (y : V), vs = [.ref p, y] ∧ PlA C H p dx hd m ∧ AnyV H y ∧ Short y ∧ m.length < 100000 ∧
  (nameB y = false → ∀ H', Same H H' → E (.ref CBN) none H') ∧ (∀ s, y = .str s → nameS s = true → (lk m s).isSome = true → attrE CT "name" y H E) ∧
  (∀ s, y = .str s → nameS s = true → lk m s = none → ∀ a H', H a = none → Keeps [hd] H H' → PlA C H' p dx hd (m ++ [(s, a, [])]) → Q .non H')
def spDrop (C CS : Addr) : Sp := fun vs H Q E => ∃ (p dx hd : Addr) (m : Sp3) (y : V), vs = [.ref p, y] ∧ PlA C H p dx hd m ∧ AnyV H y ∧
  ((∀ s, y = .str s → lk m s = none) → attrE CS "name" y H E) ∧ (∀ s, y = .str s → (lk m s).isSome = true → ∀ H', Keeps [hd] H H' → PlA C H' p dx hd (dr m s) → Q .non H')
def spFork (C CS CBN CT : Addr) : Sp := fun vs H Q E => ∃ (p dx hd : Addr) (m : Sp3) (y z : V), vs = [.ref p, y, z] ∧ PlA C H p dx hd m ∧ AnyV H y ∧ AnyV H z ∧ Short z ∧ m.length < 100000 ∧
  ((∀ s, y = .str s → lk m s = none) → attrE CS "name" y H E) ∧
  (∀ s, y = .str s → (lk m s).isSome = true → nameB z = false → ∀ H', Same H H' → E (.ref CBN) none H') ∧
  (∀ s c, y = .str s → (lk m s).isSome = true → z = .str c → nameS c = true → (lk m c).isSome = true → attrE CT "name" z H E) ∧
  (∀ s c b d, y = .str s → lk m s = some (b, d) → z = .str c → nameS c = true → lk m c = none → ∀ a H', H a = none → Keeps [hd] H H' → PlA C H' p dx hd (m ++ [(c, a, d)]) → Q .non H')
section
variable {P : Program} {w : World} {K : PySem.W.Frag} {mg : Str → Option Value} {base : Heap}
theorem scPI : FnScope ["self"] ["self"] (defScope sPI) := ⟨rfl, rfl, rfl, by decide +kernel, rfl, by decide +kernel, by decide +kernel⟩
theorem ok_pinit {f C : Addr} {fd : FuncData} (F : Fun K "__init__" "Plain.__init__" sPI f fd) (TP : PlT K C) : FnOk P w K mg base CX0 1 f fd ["self"] (spPI C) := by
  refine F.ok scPI (fun vs H Q E h => ?_) (fun cdv A outer s H vs Q E hr h => ?_)
  · obtain ⟨p, dx, rfl, _⟩ := h
    rfl
  · obtain ⟨p, dx, rfl, hp, k⟩ := h
    refine ⟨_, (pss_one (ps_fld (pv 0) pe_dnewK rfl)), ?_⟩
    refine fun d hd => ⟨_, rfl, p, C, dx, _, rfl, by rw [upd_ne (ne_of_none hp hd)]; exact hp, TP.cl, TP.nH, by decide, ?_⟩
    have ne : d ≠ p := (ne_of_none hp hd).symm
    refine k d _ hd (fun b o e n => ?_) ⟨upd_same, by rw [upd_ne ne, upd_same]; rfl, fun e he => (by cases he), by simp, by simp, fun e he => (by cases he)⟩
    rw [upd_ne (fun z => n (by rw [z]; exact List.mem_singleton.mpr rfl)), upd_ne (ne_of_none e hd)]
    exact e
theorem scIn : FnScope ["self", "space"] ["self", "space"] (defScope sIn) := ⟨rfl, rfl, rfl, by decide +kernel, rfl, by decide +kernel, by decide +kernel⟩
theorem ok_inside {f C CS : Addr} {fd : FuncData} (F : Fun K "inside" "Plain.inside" sIn f fd) (TP : PlT K C) (T : TD K mg) (SS : SupE P w K mg base "NoSpace" "name" CS) : FnOk P w K mg base (L2.CX P w) 3 f fd ["self", "space"] (spIn C CS) := by
  obtain ⟨gS, TS, fS, fdS, iS, tS, GS, bS⟩ := SS
  refine F.okX scIn (fun vs H Q E h => ?_) (fun cdv A outer s H vs Q E hr h => ?_)
  · obtain ⟨p, dx, hd, m, y, rfl, _⟩ := h
    rfl
  · obtain ⟨p, dx, hd, m, y, rfl, hP, hy, k1, k2⟩ := h
    have hu := hu_of hr
    obtain ⟨t, ty, h1⟩ := hy.tyT (K := K)
    refine ⟨_, (pss_cons (ps_if (PW.pt (pw_or (pt_not (pt_val (pe_callB call_isV (by rfl) T.isinstance_ PyProof.Rows.boot_isinstance (pa_cons (pv 1) (pa_cons (pe_bltn (v := .ty "str") rfl T.str_ (by decide +kernel) rfl) pa_nil))))) (pw_or1 (pt_cmp (pc_dnotin hu (pv 1) (pe_fld (pv 0) rfl))))))
        (pss_one (ps_raise rfl (takes_of rfl rfl rfl rfl) (pmk_oex TS iS tS GS hr bS .nil pass0 rfl gS (pa_cons (pv 1) pa_nil))))
        pss_nil)
      (pss_one (ps_ret (pe_dget hu (pe_fld (pv 0) rfl) (pv 1) (fun _ _ => rfl))))), ?_⟩

    refine ⟨_, rfl, _, _, _, _, _, rfl, .ty _, .base ty, h1, _, rfl, ?_⟩
    cases hy with
    | str s =>
      refine iteF ?_
      refine ⟨_, rfl, _, rfl, p, C, dx, _, _, rfl, hP.ins, TP.cl, TP.nH, rfl, hd, _, rfl, DGet.k (k := Sum.inr s) hP.held, _, rfl, ?_⟩
      rw [hK_val]
      cases e : lk m s with
      | none => exact iteT ⟨_, rfl, by show 1 ≤ 1000; decide, mk_sup fun d nd => k2 (fun s' e' => by cases e'; exact e) H d (Same.refl _) nd⟩
      | some x =>
        refine iteF ?_
        refine ⟨_, rfl, p, C, dx, _, _, rfl, hP.ins, TP.cl, TP.nH, rfl, _, rfl, hd, .ref x.1, rfl, ?_, k1 s x.1 x.2 rfl e⟩
        have := DGet.k (k := Sum.inr s) hP.held
        rwa [hK_val, e] at this
    | _ => exact iteT (iteT ⟨_, rfl, by show 1 ≤ 1000; decide, mk_sup fun d nd => k2 (fun s' e' => by cases e') H d (Same.refl _) nd⟩)
theorem scAdd : FnScope ["self", "space"] ["self", "space"] (defScope sAdd) := ⟨rfl, rfl, rfl, by decide +kernel, rfl, by decide +kernel, by decide +kernel⟩
theorem ok_add {f C CBN CT : Addr} {fd : FuncData} (F : Fun K "add" "Plain.add" sAdd f fd) (TP : PlT K C) (HN : Has P w K mg base (L2.CX P w) 3 "need_new" ["spaces", "name"] (spNew CBN CT)) : FnOk P w K mg base (L2.CX P w) 4 f fd ["self", "space"] (spAdd C CBN CT) := by
  obtain ⟨fN, fdN, GN, mN, kN, bN⟩ := HN
  refine F.okX scAdd (fun vs H Q E h => ?_) (fun cdv A outer s H vs Q E hr h => ?_)
  · obtain ⟨p, dx, hd, m, y, rfl, _⟩ := h
    rfl
  · obtain ⟨p, dx, hd, m, y, rfl, hP, hy, sh, hl, k1, k2, k3⟩ := h
    have hu := hu_of hr
    refine ⟨_, (pss_cons (ps_expr (pe_call GN hr rfl mN kN bN .nil (passes_call (takes_of rfl rfl rfl rfl) (fun _ _ _ _ h => h)) (pa_cons (pe_fld (pv 0) rfl) (pa_cons (pv 1) pa_nil))))
      (pss_one (ps_dput hu (pe_fld (pv 0) rfl) (pv 1) pe_dnewK rfl))), ?_⟩

    refine ⟨_, rfl, p, C, dx, _, _, rfl, hP.ins, TP.cl, TP.nH, rfl, _, rfl, hd, _, y, rfl, hP.held, hy, sh, k1, fun s e1 e2 e3 => k2 s e1 e2 (by rw [hK_val] at e3; simpa using e3), fun s e1 e2 e3 H1 s1 => ?_⟩
    subst e1
    have e3' : lk m s = none := by rw [hK_val] at e3; simpa using e3
    have P1 := hP.same s1
    refine fun a na => ⟨_, rfl, p, C, dx, _, _, rfl, by rw [upd_ne (ne_of_none P1.ins na)]; exact P1.ins, TP.cl, TP.nH, rfl, _, rfl, ?_⟩
    have nah : hd ≠ a := ne_of_none P1.held na
    have eh : (upd H1 a (.dK [])) hd = some (.dK (hK m)) := by rw [upd_ne nah]; exact P1.held
    refine ⟨hd, _, rfl, DPut.k (k := Sum.inr s) eh (by rw [show (hK m).length = m.length from kv_length m, sizeLine_eq]; omega), ?_⟩
    have kp : Keeps [hd] H (upd (upd H1 a (.dK [])) hd (.dK (putK (hK m) (Sum.inr s) (.ref a)))) := fun b o e n => by
      have e1 := s1 b o e
      rw [upd_ne (fun z => n (by rw [z]; exact List.mem_singleton.mpr rfl)), upd_ne (ne_of_none e1 na)]
      exact e1
    have na0 : H a = none := s1.free na
    exact k3 s rfl e2 e3' a _ na0 kp (hP.add e3' na0 kp (by rw [upd_ne nah.symm, upd_same]; rfl) upd_same .nil)
theorem scDrop : FnScope ["self", "space"] ["self", "space"] (defScope sDrop) := ⟨rfl, rfl, rfl, by decide +kernel, rfl, by decide +kernel, by decide +kernel⟩
theorem ok_drop {f C CS : Addr} {fd : FuncData} (F : Fun K "drop" "Plain.drop" sDrop f fd) (TP : PlT K C) (HI : HasM P w K mg base (L2.CX P w) 3 C "inside" ["self", "space"] (spIn C CS)) : FnOk P w K mg base (L2.CX P w) 4 f fd ["self", "space"] (spDrop C CS) := by
  obtain ⟨fI, fdI, mmI, GI, bI⟩ := HI
  refine F.okX scDrop (fun vs H Q E h => ?_) (fun cdv A outer s H vs Q E hr h => ?_)
  · obtain ⟨p, dx, hd, m, y, rfl, _⟩ := h
    rfl
  · obtain ⟨p, dx, hd, m, y, rfl, hP, hy, k1, k2⟩ := h
    refine ⟨_, (pss_cons (ps_expr (pe_meth (pv 0) TP.cl mmI GI hr bI .nil (passes_call (takes_of rfl rfl rfl rfl) (fun _ _ _ _ h => h)) (pa_cons (pv 1) pa_nil)))
      (pss_one (ps_expr (pe_dpop1 (pe_fld (pv 0) rfl) (pv 1) ⟨by rfl, by rfl, by rfl, by rfl⟩)))), ?_⟩

    refine ⟨_, rfl, p, dx, _, rfl, hP.ins, rfl, _, rfl, p, dx, hd, m, y, rfl, hP, hy, fun s a d e1 e2 => ?_, k1⟩
    subst e1
    refine ⟨_, rfl, p, C, dx, _, _, rfl, hP.ins, TP.cl, TP.nH, rfl, hd, rfl, .inl ⟨_, .inl hP.held⟩, _, rfl, _, Sum.inr s, .ref a, hP.held, rfl, by rw [hK_val, e2]; rfl, ?_⟩
    have kp : Keeps [hd] H (upd H hd (.dK (dropK (hK m) (Sum.inr s)))) := fun b o e n => by
      rw [upd_ne (fun z => n (by rw [z]; exact List.mem_singleton.mpr rfl))]
      exact e
    exact k2 s rfl (by rw [e2]; rfl) _ kp (hP.drop kp upd_same)
theorem scFork : FnScope ["self", "space", "child", "inside"] ["self", "space", "child"] (defScope sFork) := ⟨rfl, rfl, rfl, by decide +kernel, rfl, by decide +kernel, by decide +kernel⟩
theorem ok_fork {f C CS CBN CT : Addr} {fd : FuncData} (F : Fun K "fork" "Plain.fork" sFork f fd) (TP : PlT K C) (dict_ : mg "dict" = none) (HI : HasM P w K mg base (L2.CX P w) 3 C "inside" ["self", "space"] (spIn C CS)) (HN : Has P w K mg base (L2.CX P w) 3 "need_new" ["spaces", "name"] (spNew CBN CT)) :
    FnOk P w K mg base (L2.CX P w) 4 f fd ["self", "space", "child"] (spFork C CS CBN CT) := by
  obtain ⟨fI, fdI, mmI, GI, bI⟩ := HI
  obtain ⟨fN, fdN, GN, mN, kN, bN⟩ := HN
  refine F.okX scFork (fun vs H Q E h => ?_) (fun cdv A outer s H vs Q E hr h => ?_)
  · obtain ⟨p, dx, hd, m, y, z, rfl, _⟩ := h
    rfl
  · obtain ⟨p, dx, hd, m, y, z, rfl, hP, hy, hz, sh, hl, k1, k2, k3, k4⟩ := h
    have hu := hu_of hr
    refine ⟨_, (pss_cons (ps_set (i := 3) scFork.nd rfl (Or.inl rfl) (pe_meth (pv 0) TP.cl mmI GI hr bI .nil (passes_call (takes_of rfl rfl rfl rfl) (fun _ _ _ _ h => h)) (pa_cons (pv 1) pa_nil)))
      (pss_cons (ps_expr (pe_call GN hr rfl mN kN bN .nil (passes_call (takes_of rfl rfl rfl rfl) (fun _ _ _ _ h => h)) (pa_cons (pe_fld (pv 0) rfl) (pa_cons (pv 2) pa_nil))))
      (pss_one (ps_dput hu (pe_fld (pv 0) rfl) (pv 2) (pe_callTy call_dictD (by rfl) dict_ (by decide +kernel) (pa_cons (pv 3) pa_nil)) rfl)))), ?_⟩

    refine ⟨_, rfl, p, dx, _, rfl, hP.ins, rfl, _, rfl, p, dx, hd, m, y, rfl, hP, hy, fun s b d e1 e2 => ?_, k1⟩
    subst e1
    have is2 : (lk m s).isSome = true := by rw [e2]; rfl
    refine ⟨_, rfl, p, C, dx, _, _, rfl, hP.ins, TP.cl, TP.nH, rfl, _, rfl, hd, _, z, rfl, hP.held, hz, sh, k2 s rfl is2, fun c e3 e4 e5 => k3 s c rfl is2 e3 e4 (by rw [hK_val] at e5; simpa using e5), fun c e3 e4 e5 H1 s1 => ?_⟩
    subst e3
    have e5' : lk m c = none := by rw [hK_val] at e5; simpa using e5
    have P1 := hP.same s1
    refine ⟨_, rfl, b, _, rfl, .inl (P1.at e2).1, fun a na => ?_⟩
    have nah : hd ≠ a := ne_of_none P1.held na
    have eh : (upd H1 a (.dK (dI d))) hd = some (.dK (hK m)) := by rw [upd_ne nah]; exact P1.held
    refine ⟨_, rfl, p, C, dx, _, _, rfl, by rw [upd_ne (ne_of_none P1.ins na)]; exact P1.ins, TP.cl, TP.nH, rfl, _, rfl, hd, _, rfl, DPut.k (k := Sum.inr c) eh (by rw [show (hK m).length = m.length from kv_length m, sizeLine_eq]; omega), ?_⟩
    have kp : Keeps [hd] H (upd (upd H1 a (.dK (dI d))) hd (.dK (putK (hK m) (Sum.inr c) (.ref a)))) := fun b o e n => by
      have e1 := s1 b o e
      rw [upd_ne (fun z => n (by rw [z]; exact List.mem_singleton.mpr rfl)), upd_ne (ne_of_none e1 na)]
      exact e1
    have na0 : H a = none := s1.free na
    exact k4 s c b d rfl e2 rfl e4 e5' a _ na0 kp (hP.add e5' na0 kp (by rw [upd_ne nah.symm, upd_same]) upd_same (hP.at e2).2)
end
end Bm
set_option maxRecDepth 100000
set_option maxHeartbeats 4000000
/-! Plain: stretches -/
namespace Bm
open PySem L2 L3 Pm
def spNF (C CU : Addr) : Sp := fun vs H Q E => ∃ (p dx a : Addr) (fs : List (Str × V)) (b n : Int) (d : Pl), vs = [.ref p, .ref a, .int b, .int n] ∧ H a = some (.dK (dI d)) ∧ isS (.int b) (.int n) = true ∧
  (used d b n.toNat = none → Q .non H) ∧ (∀ i, used d b n.toNat = some i → attrE CU "place" (.int i) H E)
def spMap (C CS CB CU : Addr) : Sp := fun vs H Q E => ∃ (p dx hd : Addr) (m : Sp3) (y b n : V), vs = [.ref p, y, b, n] ∧ PlA C H p dx hd m ∧ AnyV H y ∧ AnyV H b ∧ AnyV H n ∧
  ((∀ s, y = .str s → lk m s = none) → attrE CS "name" y H E) ∧ (∀ s, y = .str s → (lk m s).isSome = true → isS b n = false → E (.ref CB) none H) ∧
  (∀ s a d i j x, y = .str s → lk m s = some (a, d) → b = .int i → n = .int j → isS b n = true → used d i j.toNat = some x → attrE CU "place" (.int x) H E) ∧
  (∀ s a d i j, y = .str s → lk m s = some (a, d) → b = .int i → n = .int j → isS b n = true → used d i j.toNat = none → ∀ H', Keeps [a] H H' → PlA C H' p dx hd (pt m s (a, mapP d i j.toNat)) → Q .non H')
def spUnmap (C CS CB : Addr) : Sp := fun vs H Q E => ∃ (p dx hd : Addr) (m : Sp3) (y b n : V), vs = [.ref p, y, b, n] ∧ PlA C H p dx hd m ∧ AnyV H y ∧ AnyV H b ∧ AnyV H n ∧
  ((∀ s, y = .str s → lk m s = none) → attrE CS "name" y H E) ∧ (∀ s, y = .str s → (lk m s).isSome = true → isS b n = false → E (.ref CB) none H) ∧
  (∀ s a d i j, y = .str s → lk m s = some (a, d) → b = .int i → n = .int j → isS b n = true → ∀ H', Keeps [a] H H' → PlA C H' p dx hd (pt m s (a, unmapP d i j.toNat)) → Q .non H')
def spMove (C CS CB CL CU : Addr) : Sp := fun vs H Q E => ∃ (p dx hd : Addr) (m : Sp3) (y b n t : V), vs = [.ref p, y, b, n, t] ∧ PlA C H p dx hd m ∧ AnyV H y ∧ AnyV H b ∧ AnyV H n ∧ AnyV H t ∧
  ((∀ s, y = .str s → lk m s = none) → attrE CS "name" y H E) ∧ (∀ s, y = .str s → (lk m s).isSome = true → (isS b n = false ∨ isS t n = false) → E (.ref CB) none H) ∧
  (∀ s a d i j x, y = .str s → lk m s = some (a, d) → b = .int i → n = .int j → isS b n = true → isS t n = true → lacks d i j.toNat = some x → attrE CL "place" (.int x) H E) ∧
  (∀ s a d i j k x, y = .str s → lk m s = some (a, d) → b = .int i → n = .int j → t = .int k → isS b n = true → isS t n = true → lacks d i j.toNat = none → used d k j.toNat = some x → attrE CU "place" (.int x) H E) ∧
  (∀ s a d i j k, y = .str s → lk m s = some (a, d) → b = .int i → n = .int j → t = .int k → isS b n = true → isS t n = true → lacks d i j.toNat = none → used d k j.toNat = none → ∀ H', Keeps [a] H H' → PlA C H' p dx hd (pt m s (a, moveP d i k j.toNat)) → Q .non H')
theorem isS_iff {b m : Int} : isS (.int b) (.int m) = true ↔ 0 ≤ b ∧ 1 ≤ m ∧ b + m ≤ 10000 := by
  simp only [isS, Bool.and_eq_true, decide_eq_true_eq]
  omega
theorem isS_ints {b n : V} (h : isS b n = true) : ∃ i j, b = .int i ∧ n = .int j := by
  cases b <;> cases n <;> first | (cases h; done) | exact ⟨_, _, rfl, rfl⟩ | (simp [isS] at h)
theorem isS_begins {b n : V} (h : isS b n = true) : ∃ i j, b = .int i ∧ n = .int j ∧ 0 ≤ i ∧ 1 ≤ j ∧ i + j ≤ 10000 := by
  obtain ⟨i, j, rfl, rfl⟩ := isS_ints h
  exact ⟨i, j, rfl, rfl, isS_iff.mp h⟩
theorem _root_.Pm.Keeps.one {a : Addr} {H : Hp} {o : HO} : Keeps [a] H (upd H a o) := fun b u e n => by
  rw [upd_ne (fun z => n (by rw [z]; exact List.mem_singleton.mpr rfl))]
  exact e
section
variable {P : Program} {w : World} {K : PySem.W.Frag} {mg : Str → Option Value} {base : Heap}
theorem scNF : FnScope ["self", "inside", "begin", "many", "place"] ["self", "inside", "begin", "many"] (defScope sNF) := ⟨rfl, rfl, rfl, by decide +kernel, rfl, by decide +kernel, by decide +kernel⟩
theorem ok_nfree {f C CU : Addr} {fd : FuncData} (F : Fun K "need_free" "Plain.need_free" sNF f fd) (range_ : mg "range" = none) (SU : SupE P w K mg base "Used" "place" CU) : FnOk P w K mg base (L2.CX P w) 3 f fd ["self", "inside", "begin", "many"] (spNF C CU) := by
  obtain ⟨gU, TU, fU, fdU, iU, tU, GU, bU⟩ := SU
  refine F.okX scNF (fun vs H Q E h => ?_) (fun cdv A outer s H vs Q E hr h => ?_)
  · obtain ⟨p, dx, a, fs, b, n, d, rfl, _⟩ := h
    rfl
  · obtain ⟨p, dx, a, fs, b, n, d, rfl, ha, hS, k1, k2⟩ := h
    obtain ⟨b0, n1, b1⟩ := isS_iff.mp hS
    have hu := hu_of hr
    refine ⟨_, (pss_one (ps_for PassesOwn.leaving rfl (pi_range2 rfl range_ (pa_cons (pv 2) (pa_cons (pe_op op_add (pv 2) (pv 3)) pa_nil))) (pg_name (i := 4) scNF.nd rfl (Or.inl rfl))
        (pss_one (ps_if (pt_cmp (pc_din hu (pv 4) (pv 1)))
            (pss_one (ps_raise rfl (takes_of rfl rfl rfl rfl) (pmk_oex TU iU tU GU hr bU .nil pass0 rfl gU (pa_cons (pv 4) pa_nil))))
            pss_nil)))), ?_⟩

    refine ⟨_, rfl, _, rfl, _, rfl, _, _, rfl, rfl, b, b + n, rfl, ⟨by omega, by omega, by omega, by omega⟩, for_range (lo := b) (n := (b + n - b).toNat) (fun i σ H' => H' = H ∧ (∃ v4, σ = [some (.ref p), some (.ref a), some (.int b), some (.int n), v4]) ∧ used d b i = none) ⟨rfl, ⟨_, rfl⟩, rfl⟩ ?_ ?_⟩
    · rintro i σ H' hi ⟨rfl, ⟨v4, rfl⟩, hn⟩
      have e : used d b (i + 1) = if (lk d (b + (i : Int))).isSome = true then some (b + (i : Int)) else none := by
        show (match used d b i with | some i => some i | none => _) = _
        rw [hn]
      refine ⟨_, rfl, _, rfl, a, _, rfl, DGet.k (k := Sum.inl (b + (i : Int))) ha, _, rfl, ?_⟩
      rw [dI_val]
      cases q : lk d (b + (i : Int)) with
      | some x =>
        rw [q, if_pos (show (some x).isSome = true from rfl)] at e
        have := used_mono d b (n.toNat - (i + 1)) e
        rw [show i + 1 + (n.toNat - (i + 1)) = n.toNat by omega] at this
        exact iteT ⟨_, rfl, by show 1 ≤ 1000; decide, mk_sup fun d' nd => k2 _ this _ d' (Same.refl _) nd⟩
      | none =>
        rw [q, if_neg (by simp)] at e
        exact iteF ⟨rfl, ⟨_, rfl⟩, e⟩
    · rintro σ H' ⟨rfl, _, hn⟩
      exact k1 (by rw [← hn]; congr 1; omega)
theorem scMap : FnScope ["self", "space", "begin", "many", "inside", "place"] ["self", "space", "begin", "many"] (defScope sMap) := ⟨rfl, rfl, rfl, by decide +kernel, rfl, by decide +kernel, by decide +kernel⟩
theorem ok_map {f C CS CB CU : Addr} {fd : FuncData} (F : Fun K "map" "Plain.map" sMap f fd) (TP : PlT K C) (range_ : mg "range" = none) (HI : HasM P w K mg base (L2.CX P w) 3 C "inside" ["self", "space"] (spIn C CS)) (HF : HasM P w K mg base (L2.CX P w) 3 C "need_free" ["self", "inside", "begin", "many"] (spNF C CU)) (HS : Has P w K mg base (L2.CX P w) 4 "need_stretch" ["begin", "many"] (spNeed CB)) :
    FnOk P w K mg base (L2.CX P w) 5 f fd ["self", "space", "begin", "many"] (spMap C CS CB CU) := by
  obtain ⟨fI, fdI, mmI, GI, bI⟩ := HI
  obtain ⟨fF, fdF, mmF, GF, bF⟩ := HF
  obtain ⟨fS, fdS, GS, mS, kS, bS⟩ := HS
  refine F.okX scMap (fun vs H Q E h => ?_) (fun cdv A outer s H vs Q E hr h => ?_)
  · obtain ⟨p, dx, hd, m, y, b, n, rfl, _⟩ := h
    rfl
  · obtain ⟨p, dx, hd, m, y, b, n, rfl, hP, hy, hb, hn, k1, k2, k3, k4⟩ := h
    have hu := hu_of hr
    have hr3 := hr.mono (show 3 ≤ 4 by decide)
    refine ⟨_, (pss_cons (ps_set (i := 4) scMap.nd rfl (Or.inl rfl) (pe_meth (pv 0) TP.cl mmI GI hr3 bI .nil (passes_call (takes_of rfl rfl rfl rfl) (fun _ _ _ _ h => h)) (pa_cons (pv 1) pa_nil)))
      (pss_cons (ps_expr (pe_call GS hr rfl mS kS bS .nil (passes_call (takes_of rfl rfl rfl rfl) (fun _ _ _ _ h => h)) (pa_cons (pv 2) (pa_cons (pv 3) pa_nil))))
      (pss_cons (ps_expr (pe_meth (pv 0) TP.cl mmF GF hr3 bF .nil (passes_call (takes_of rfl rfl rfl rfl) (fun _ _ _ _ h => h)) (pa_cons (pv 4) (pa_cons (pv 2) (pa_cons (pv 3) pa_nil)))))
      (pss_one (ps_expr (pe_bm PySem.F.plainAttrs_dict PySem.F.slot_dict_update PySem.F.type_dict_update mt_updD (pv 4) (pa_cons (pe_dc (own := [("place", 5)]) (g := gName 5) (tt := tYes) rfl scMap.nd (pi_range2 rfl range_ (pa_cons (pv 2) (pa_cons (pe_op op_add (pv 2) (pv 3)) pa_nil))) (blkOk_by (own := [("place", 5)]) (N := ["self", "space", "begin", "many", "inside", "place"]) (sc := defScope sMap) (by decide +kernel)) (fun _ _ _ _ _ => (pg_name (i := 5) scMap.nd rfl (Or.inl rfl))) (fun _ _ _ _ _ => pts_nil) (fun _ _ _ _ _ => (pv 5)) (fun _ _ _ _ _ => pe_int)) pa_nil))))))), ?_⟩

    refine ⟨_, rfl, p, dx, _, rfl, hP.ins, rfl, _, rfl, p, dx, hd, m, y, rfl, hP, hy, fun s a d e1 e2 => ?_, k1⟩
    have is2 : (lk m s).isSome = true := by rw [e2]; rfl
    refine ⟨_, rfl, _, rfl, b, n, rfl, hb, hn, fun hS => ?_, fun hS => k2 s e1 is2 hS⟩
    obtain ⟨i, j, rfl, rfl, i0, j1, ij⟩ := isS_begins hS
    have ha := (hP.at e2).1
    refine ⟨_, rfl, p, dx, _, rfl, hP.ins, rfl, _, rfl, _, rfl, _, rfl, p, dx, a, [], i, j, d, rfl, ha, hS, fun hu0 => ?_, fun x hx => k3 s a d i j x e1 e2 rfl rfl hS hx⟩
    refine ⟨_, rfl, .inr (.inr (.inl ⟨rfl, .inl ⟨_, ha⟩⟩)), _, rfl, _, rfl, _, rfl, _, _, rfl, rfl, i, i + j, rfl, ⟨by omega, by omega, by omega, by omega⟩, fun D nD => ?_⟩
    have naD : a ≠ D := ne_of_none ha nD
    refine dc_it walk_range (fun q H1 => Same H H1 ∧ H1 D = some (.dK (dI (zeros i q)))) ⟨sameNew nD, upd_same⟩ (fun _ _ _ _ => True.intro) ?_ ?_
    · rintro q x H1 H2 hq ⟨s1, h1⟩ ⟨rfl, rfl⟩
      refine ⟨rfl, _, rfl, dI (zeros i q), Sum.inl (i + (q : Int)), rfl, h1, ?_, fun b o e => ?_, ?_⟩
      · rw [dI_length, sizeLine_eq]
        unfold zeros
        rw [List.length_map, List.length_range]
        omega
      · rw [upd_ne (ne_of_none e nD)]
        exact s1 b o e
      · rw [upd_same, dI_put, zeros_succ, pt_new]
        rw [lk_zeros, if_neg (by omega)]
    · rintro H1 ⟨s1, h1⟩
      rw [show (i + j - i).toNat = j.toNat by omega] at h1
      have kp : Keeps [a] H (upd H1 a (.dK (mergeK (dI d) (dI (zeros i j.toNat))))) := (Keeps.same s1).trans .one
      refine ⟨a, D, _, _, rfl, rfl, naD, s1 _ _ ha, h1, ?_, ?_⟩
      · have := (hP.at e2).2.few
        rw [dI_length, dI_length, sizeLine_eq]
        unfold zeros
        rw [List.length_map, List.length_range]
        omega
      · exact k4 s a d i j e1 e2 rfl rfl hS hu0 _ kp (hP.put e2 kp (by rw [upd_same, dI_merge]; rfl) ((hP.at e2).2.mapP i0 (by omega)))
theorem scUnmap : FnScope ["self", "space", "begin", "many", "inside", "place"] ["self", "space", "begin", "many"] (defScope sUnmap) := ⟨rfl, rfl, rfl, by decide +kernel, rfl, by decide +kernel, by decide +kernel⟩
theorem ok_unmap {f C CS CB : Addr} {fd : FuncData} (F : Fun K "unmap" "Plain.unmap" sUnmap f fd) (TP : PlT K C) (range_ : mg "range" = none) (HI : HasM P w K mg base (L2.CX P w) 3 C "inside" ["self", "space"] (spIn C CS)) (HS : Has P w K mg base (L2.CX P w) 4 "need_stretch" ["begin", "many"] (spNeed CB)) :
    FnOk P w K mg base (L2.CX P w) 5 f fd ["self", "space", "begin", "many"] (spUnmap C CS CB) := by
  obtain ⟨fI, fdI, mmI, GI, bI⟩ := HI
  obtain ⟨fS, fdS, GS, mS, kS, bS⟩ := HS
  refine F.okX scUnmap (fun vs H Q E h => ?_) (fun cdv A outer s H vs Q E hr h => ?_)
  · obtain ⟨p, dx, hd, m, y, b, n, rfl, _⟩ := h
    rfl
  · obtain ⟨p, dx, hd, m, y, b, n, rfl, hP, hy, hb, hn, k1, k2, k4⟩ := h
    have hr3 := hr.mono (show 3 ≤ 4 by decide)
    refine ⟨_, (pss_cons (ps_set (i := 4) scUnmap.nd rfl (Or.inl rfl) (pe_meth (pv 0) TP.cl mmI GI hr3 bI .nil (passes_call (takes_of rfl rfl rfl rfl) (fun _ _ _ _ h => h)) (pa_cons (pv 1) pa_nil)))
      (pss_cons (ps_expr (pe_call GS hr rfl mS kS bS .nil (passes_call (takes_of rfl rfl rfl rfl) (fun _ _ _ _ h => h)) (pa_cons (pv 2) (pa_cons (pv 3) pa_nil))))
      (pss_one (ps_for PassesOwn.leaving rfl (pi_range2 rfl range_ (pa_cons (pv 2) (pa_cons (pe_op op_add (pv 2) (pv 3)) pa_nil))) (pg_name (i := 5) scUnmap.nd rfl (Or.inl rfl))
        (pss_one (ps_expr (pe_dpop2 (pv 4) (pv 5) pe_non ⟨by rfl, by rfl, by rfl, by rfl⟩))))))), ?_⟩

    refine ⟨_, rfl, p, dx, _, rfl, hP.ins, rfl, _, rfl, p, dx, hd, m, y, rfl, hP, hy, fun s a d e1 e2 => ?_, k1⟩
    have is2 : (lk m s).isSome = true := by rw [e2]; rfl
    refine ⟨_, rfl, _, rfl, b, n, rfl, hb, hn, fun hS => ?_, fun hS => k2 s e1 is2 hS⟩
    obtain ⟨i, j, rfl, rfl, i0, j1, ij⟩ := isS_begins hS
    have ha := (hP.at e2).1
    refine ⟨_, rfl, _, rfl, _, rfl, _, _, rfl, rfl, i, i + j, rfl, ⟨by omega, by omega, by omega, by omega⟩, for_range (lo := i) (n := (i + j - i).toNat) (fun q σ H' => (∃ v5, σ = [some (.ref p), some y, some (.int i), some (.int j), some (.ref a), v5]) ∧ Keeps [a] H H' ∧ H' a = some (.dK (dI (unmapP d i q)))) ⟨⟨_, rfl⟩, .refl, ha⟩ ?_ ?_⟩
    · rintro q σ H' hq ⟨⟨v5, rfl⟩, kp, h1⟩
      refine ⟨_, rfl, a, rfl, .inl ⟨_, .inl h1⟩, _, rfl, _, Sum.inl (i + (q : Int)), h1, rfl, fun v hv => ⟨⟨_, rfl⟩, kp.trans .one, by rw [upd_same, dI_drop]; rfl⟩, fun hv => ⟨⟨_, rfl⟩, kp, ?_⟩⟩
      rw [h1]
      show _ = some (HO.dK (dI (dr (unmapP d i q) (i + (q : Int)))))
      rw [dr_none (by rw [dI_val] at hv; simpa using hv)]
    · rintro σ H' ⟨_, kp, h1⟩
      rw [show (i + j - i).toNat = j.toNat by omega] at h1
      exact k4 s a d i j e1 e2 rfl rfl hS _ kp (hP.put e2 kp h1 (hP.at e2).2.unmapP)
theorem scMove : FnScope ["self", "space", "begin", "many", "to", "inside", "place", "step"] ["self", "space", "begin", "many", "to"] (defScope sMove) := ⟨rfl, rfl, rfl, by decide +kernel, rfl, by decide +kernel, by decide +kernel⟩
theorem ok_move {f C CS CB CL CU : Addr} {fd : FuncData} (F : Fun K "move" "Plain.move" sMove f fd) (TP : PlT K C) (range_ : mg "range" = none) (HI : HasM P w K mg base (L2.CX P w) 3 C "inside" ["self", "space"] (spIn C CS)) (HF : HasM P w K mg base (L2.CX P w) 3 C "need_free" ["self", "inside", "begin", "many"] (spNF C CU))
    (HS : Has P w K mg base (L2.CX P w) 4 "need_stretch" ["begin", "many"] (spNeed CB)) (SL : SupE P w K mg base "NoPlace" "place" CL) : FnOk P w K mg base (L2.CX P w) 5 f fd ["self", "space", "begin", "many", "to"] (spMove C CS CB CL CU) := by
  obtain ⟨fI, fdI, mmI, GI, bI⟩ := HI
  obtain ⟨fF, fdF, mmF, GF, bF⟩ := HF
  obtain ⟨fS, fdS, GS, mS, kS, bS⟩ := HS
  obtain ⟨gL, TL, fL, fdL, iL, tL, GL, bL⟩ := SL
  refine F.okX scMove (fun vs H Q E h => ?_) (fun cdv A outer s H vs Q E hr h => ?_)
  · obtain ⟨p, dx, hd, m, y, b, n, t, rfl, _⟩ := h
    rfl
  · obtain ⟨p, dx, hd, m, y, b, n, t, rfl, hP, hy, hb, hn, ht, k1, k2, k3, k4, k5⟩ := h
    have hu := hu_of hr
    have hr3 := hr.mono (show 3 ≤ 4 by decide)
    refine ⟨_, (pss_cons (ps_set (i := 5) scMove.nd rfl (Or.inl rfl) (pe_meth (pv 0) TP.cl mmI GI hr3 bI .nil (passes_call (takes_of rfl rfl rfl rfl) (fun _ _ _ _ h => h)) (pa_cons (pv 1) pa_nil)))
      (pss_cons (ps_expr (pe_call GS hr rfl mS kS bS .nil (passes_call (takes_of rfl rfl rfl rfl) (fun _ _ _ _ h => h)) (pa_cons (pv 2) (pa_cons (pv 3) pa_nil))))
      (pss_cons (ps_expr (pe_call GS hr rfl mS kS bS .nil (passes_call (takes_of rfl rfl rfl rfl) (fun _ _ _ _ h => h)) (pa_cons (pv 4) (pa_cons (pv 3) pa_nil))))
      (pss_cons (ps_for PassesOwn.leaving rfl (pi_range2 rfl range_ (pa_cons (pv 2) (pa_cons (pe_op op_add (pv 2) (pv 3)) pa_nil))) (pg_name (i := 6) scMove.nd rfl (Or.inl rfl))
        (pss_one (ps_if (pt_cmp (pc_dnotin hu (pv 6) (pv 5)))
            (pss_one (ps_raise rfl (takes_of rfl rfl rfl rfl) (pmk_oex TL iL tL GL (hr.mono (by decide)) bL .nil pass0 rfl gL (pa_cons (pv 6) pa_nil))))
            pss_nil)))
      (pss_cons (ps_expr (pe_meth (pv 0) TP.cl mmF GF hr3 bF .nil (passes_call (takes_of rfl rfl rfl rfl) (fun _ _ _ _ h => h)) (pa_cons (pv 5) (pa_cons (pv 4) (pa_cons (pv 3) pa_nil)))))
      (pss_one (ps_for PassesOwn.leaving rfl (pi_range1 rfl range_ (pa_cons (pv 3) pa_nil)) (pg_name (i := 7) scMove.nd rfl (Or.inl rfl))
        (pss_one (ps_dput hu (pv 5) (pe_op op_add (pv 4) (pv 7)) (pe_dpop1 (pv 5) (pe_op op_add (pv 2) (pv 7)) ⟨by rfl, by rfl, by rfl, by rfl⟩) rfl))))))))), ?_⟩

    refine ⟨_, rfl, p, dx, _, rfl, hP.ins, rfl, _, rfl, p, dx, hd, m, y, rfl, hP, hy, fun s a d e1 e2 => ?_, k1⟩
    have is2 : (lk m s).isSome = true := by rw [e2]; rfl
    refine ⟨_, rfl, _, rfl, b, n, rfl, hb, hn, fun hS => ?_, fun hS => k2 s e1 is2 (.inl hS)⟩
    refine ⟨_, rfl, _, rfl, t, n, rfl, ht, hn, fun hS2 => ?_, fun hS => k2 s e1 is2 (.inr hS)⟩
    obtain ⟨i, j, rfl, rfl, i0, j1, ij⟩ := isS_begins hS
    obtain ⟨k, j', rfl, ej, i0', j1', ij'⟩ := isS_begins hS2
    cases ej
    have ha := (hP.at e2).1
    refine ⟨_, rfl, _, rfl, _, rfl, _, _, rfl, rfl, i, i + j, rfl, ⟨by omega, by omega, by omega, by omega⟩, for_range (lo := i) (n := (i + j - i).toNat) (fun q σ H' => H' = H ∧ (∃ v6, σ = [some (.ref p), some y, some (.int i), some (.int j), some (.int k), some (.ref a), v6, none]) ∧ lacks d i q = none) ⟨rfl, ⟨_, rfl⟩, rfl⟩ ?_ ?_⟩
    · rintro q σ H' hq ⟨rfl, ⟨v6, rfl⟩, hn⟩
      have e : lacks d i (q + 1) = if (lk d (i + (q : Int))).isSome = true then none else some (i + (q : Int)) := by
        show (match lacks d i q with | some i => some i | none => _) = _
        rw [hn]
      refine ⟨_, rfl, _, rfl, a, _, rfl, DGet.k (k := Sum.inl (i + (q : Int))) ha, _, rfl, ?_⟩
      rw [dI_val]
      cases z : lk d (i + (q : Int)) with
      | some x =>
        rw [z, if_pos (show (some x).isSome = true from rfl)] at e
        exact iteF ⟨rfl, ⟨_, rfl⟩, e⟩
      | none =>
        rw [z, if_neg (by simp)] at e
        have := lacks_mono d i (j.toNat - (q + 1)) e
        rw [show q + 1 + (j.toNat - (q + 1)) = j.toNat by omega] at this
        exact iteT ⟨_, rfl, by show 1 ≤ 1000; decide, mk_sup fun d' nd => k3 s a d i j _ e1 e2 rfl rfl hS hS2 this _ d' (Same.refl _) nd⟩
    rintro σ H' ⟨rfl, ⟨v6, rfl⟩, hl⟩
    rw [show (i + j - i).toNat = j.toNat by omega] at hl
    refine ⟨_, rfl, p, dx, _, rfl, hP.ins, rfl, _, rfl, _, rfl, _, rfl, p, dx, a, [], k, j, d, rfl, ha, hS2, fun hu0 => ?_, fun x hx => k4 s a d i j k x e1 e2 rfl rfl rfl hS hS2 hl hx⟩
    have L1 := (lacks_none d i j.toNat).mp hl
    have L2 := (used_none d k j.toNat).mp hu0
    refine ⟨_, rfl, j, rfl, by omega, by omega, for_range (lo := 0) (n := j.toNat) (fun q σ H1 => (∃ v6 v7, σ = [some (.ref p), some y, some (.int i), some (.int j), some (.int k), some (.ref a), v6, v7]) ∧ Keeps [a] H' H1 ∧ H1 a = some (.dK (dI (moveP d i k q)))) ⟨⟨_, _, rfl⟩, .refl, ha⟩ ?_ ?_⟩
    · rintro q σ H1 hq ⟨⟨v6, v7, rfl⟩, kp, h1⟩
      have there := lk_moveP d i k q (fun x hx => L1 x (by omega)) (fun x hx => L2 x (by omega)) (i + (q : Int))
      have e3 : lk (moveP d i k q) (i + (q : Int)) = lk d (i + (q : Int)) := by
        rw [there]
        rw [if_neg (fun z => by
          have a1 := L1 q (by omega)
          have a2 := L2 ((i + q - k).toNat) (by omega)
          rw [show k + (((i + q - k).toNat : Nat) : Int) = i + (q : Int) by omega] at a2
          rw [a2] at a1
          cases a1), if_neg (by omega)]
      obtain ⟨x, hx⟩ := Option.isSome_iff_exists.mp (L1 q (by omega))
      rw [hx] at e3
      have o1 := (OkP.moveP (n := q) (b := i) (hP.at e2).2 i0' (by omega))
      refine ⟨_, rfl, a, rfl, .inl ⟨_, .inl h1⟩, _, rfl, _, rfl, _, _, rfl, rfl, _, Sum.inl (i + (0 + (q : Int))), .int x, h1, rfl, ?_, ?_⟩
      · rw [dI_val, show i + (0 + (q : Int)) = i + (q : Int) by omega, e3]
        rfl
      refine ⟨_, rfl, _, rfl, _, rfl, _, _, rfl, rfl, a, _, rfl, DPut.k (k := Sum.inl (k + (0 + (q : Int)))) upd_same ?_, ⟨_, _, rfl⟩, (kp.trans .one).trans .one, ?_⟩
      · rw [dI_drop, dI_length, sizeLine_eq]
        have := o1.dr (i := i + (0 + (q : Int)))
        have := this.few
        omega
      · rw [upd_same, dI_drop, dI_put, show i + (0 + (q : Int)) = i + (q : Int) by omega, show k + (0 + (q : Int)) = k + (q : Int) by omega]
        show _ = some (HO.dK (dI (pt (dr (moveP d i k q) (i + (q : Int))) (k + (q : Int)) ((lk (moveP d i k q) (i + (q : Int))).getD 0))))
        rw [e3]
        rfl
    · rintro σ H1 ⟨_, kp, h1⟩
      exact k5 s a d i j k e1 e2 rfl rfl rfl hS hS2 hl hu0 _ kp (hP.put e2 kp h1 (OkP.moveP (hP.at e2).2 i0' (by omega)))
end
end Bm
set_option maxRecDepth 100000
set_option maxHeartbeats 4000000
/-! Plain: places, reads, equality -/
namespace Bm
open PySem L2 L3 Pm
def spNP (C CS CL : Addr) : Sp := fun vs H Q E => ∃ (p dx hd : Addr) (m : Sp3) (y z : V), vs = [.ref p, y, z] ∧ PlA C H p dx hd m ∧ AnyV H y ∧ AnyV H z ∧
  ((∀ s, y = .str s → lk m s = none) → attrE CS "name" y H E) ∧ (∀ s a d, y = .str s → lk m s = some (a, d) → (∀ i, z = .int i → lk d i = none) → attrE CL "place" z H E) ∧
  (∀ s a d i x, y = .str s → lk m s = some (a, d) → z = .int i → lk d i = some x → Q (.ref a) H)
def spWrite (C CS CL CV : Addr) : Sp := fun vs H Q E => ∃ (p dx hd : Addr) (m : Sp3) (y z v : V), vs = [.ref p, y, z, v] ∧ PlA C H p dx hd m ∧ AnyV H y ∧ AnyV H z ∧ AnyV H v ∧
  ((∀ s, y = .str s → lk m s = none) → attrE CS "name" y H E) ∧ (∀ s a d, y = .str s → lk m s = some (a, d) → (∀ i, z = .int i → lk d i = none) → attrE CL "place" z H E) ∧
  (∀ s a d i x, y = .str s → lk m s = some (a, d) → z = .int i → lk d i = some x → isC v = false → E (.ref CV) none H) ∧
  (∀ s a d i x j, y = .str s → lk m s = some (a, d) → z = .int i → lk d i = some x → v = .int j → isC v = true → ∀ H', Keeps [a] H H' → PlA C H' p dx hd (pt m s (a, pt d i j)) → Q .non H')
def spRead (C CS CL : Addr) : Sp := fun vs H Q E => ∃ (p dx hd : Addr) (m : Sp3) (y z : V), vs = [.ref p, y, z] ∧ PlA C H p dx hd m ∧ AnyV H y ∧ AnyV H z ∧
  ((∀ s, y = .str s → lk m s = none) → attrE CS "name" y H E) ∧ (∀ s a d, y = .str s → lk m s = some (a, d) → (∀ i, z = .int i → lk d i = none) → attrE CL "place" z H E) ∧
  (∀ s a d i x, y = .str s → lk m s = some (a, d) → z = .int i → lk d i = some x → Q (.int x) H)
def spSpaces (C : Addr) : Sp := fun vs H Q _ => ∃ (p dx hd : Addr) (m : Sp3), vs = [.ref p] ∧ PlA C H p dx hd m ∧ ∀ ys q, ys.Perm (m.map (·.1)) → PyProof.Rows.sortedS ys = true → H q = none → Q (.ref q) (upd H q (.lst (ys.map V.str)))
def spPlaces (C CS : Addr) : Sp := fun vs H Q E => ∃ (p dx hd : Addr) (m : Sp3) (y : V), vs = [.ref p, y] ∧ PlA C H p dx hd m ∧ AnyV H y ∧
  ((∀ s, y = .str s → lk m s = none) → attrE CS "name" y H E) ∧ (∀ s a d, y = .str s → lk m s = some (a, d) → ∀ (ys : List Int) q, ys.Perm (d.map (·.1)) → ys.Pairwise (· ≤ ·) → H q = none → Q (.ref q) (upd H q (.lst (ys.map V.int))))
def spPEq (C : Addr) : Sp := fun vs H Q _ => ∃ (p dx hd q dy hd' : Addr) (m m' : Sp3), vs = [.ref p, .ref q] ∧ PlA C H p dx hd m ∧ PlA C H q dy hd' m' ∧ pur m = pur m' ∧ Q (.bl true) H
/-- what isinstance asks of the class of an instance -/
structure InT (K : PySem.W.Frag) (C : Addr) : Prop where
  cl : Cls K C
  ha : PySem.W.findIn K (.ref C) "__class__" = some (some (.builtin "object.__class__"))
  hn : PySem.W.specialIn K (.builtin "object.__class__") "__get__" = some (some (.builtin "getset_descriptor.__get__"))
  ht : PySem.W.takesIn K (.builtin "object.__class__") = some true
  hm : PySem.W.mroIn K C (.type "object") = some true
theorem InT.ty {K : PySem.W.Frag} {C : Addr} (T : InT K C) {H : Hp} {a dx : Addr} {fs : List (Str × V)} (e : H a = some (.ins C dx fs)) : TyV K H (.ref a) (.ref C) := .base (.base (.ins e T.cl T.ha T.hn T.ht T.hm))
theorem kit_self {K : PySem.W.Frag} {t : Value} : PySem.W.kitOne K t t = some true := by
  unfold PySem.W.kitOne
  rw [if_pos (by simp)]
theorem eq_held {K : PySem.W.Frag} {C : Addr} {H : Hp} {p dx hd q dy hd' : Addr} {m m' : Sp3} (A : PlA C H p dx hd m) (B : PlA C H q dy hd' m') (e : pur m = pur m') : EqR K H (EqV K H 2) (.ref hd) (.ref hd') := by
  refine .inr ⟨hd, hd', _, _, rfl, rfl, A.held, B.held, ?_, ?_⟩
  · have := congrArg List.length e
    unfold pur at this
    rw [List.length_map, List.length_map] at this
    show (kv _ _ m).length = (kv _ _ m').length
    rw [kv_length, kv_length, this]
  · intro x hx
    obtain ⟨y, hy, rfl⟩ := List.mem_map.mp hx
    have h1 := lk_of_mem A.nodN hy
    have h2 : lk (pur m') y.1 = some y.2.2 := by rw [← e, pur_lk, h1]; rfl
    rw [pur_lk] at h2
    obtain ⟨z, hz, ez⟩ := Option.map_eq_some_iff.mp h2
    have B2 := B.at (show lk m' y.1 = some (z.1, z.2) from hz)
    refine ⟨.ref z.1, by rw [show ((Sum.inr y.1 : Key), V.ref y.2.1).1 = Sum.inr y.1 from rfl, hK_val, hz]; rfl, .inr (.inr (.inr ⟨y.2.1, z.1, _, _, rfl, rfl, A.inner y hy, B2.1, by rw [ez], ?_⟩))⟩
    intro u hu
    obtain ⟨v, hv, rfl⟩ := List.mem_map.mp hu
    rw [ez]
    have := lk_of_mem (A.ok y hy).1 hv
    exact ⟨_, by rw [show ((Sum.inl v.1 : Key), V.int v.2).1 = Sum.inl v.1 from rfl, dI_val, this]; rfl, .inl ⟨rfl, rfl⟩⟩
section
variable {P : Program} {w : World} {K : PySem.W.Frag} {mg : Str → Option Value} {base : Heap}
theorem scNP : FnScope ["self", "space", "place", "inside"] ["self", "space", "place"] (defScope sNP) := ⟨rfl, rfl, rfl, by decide +kernel, rfl, by decide +kernel, by decide +kernel⟩
theorem ok_nplace {f C CS CL : Addr} {fd : FuncData} (F : Fun K "need_place" "Plain.need_place" sNP f fd) (TP : PlT K C) (HI : HasM P w K mg base (L2.CX P w) 3 C "inside" ["self", "space"] (spIn C CS)) (HG : Has P w K mg base CX0 1 "is_integer" ["value"] spIsInt) (SL : SupE P w K mg base "NoPlace" "place" CL) :
    FnOk P w K mg base (L2.CX P w) 4 f fd ["self", "space", "place"] (spNP C CS CL) := by
  obtain ⟨fI, fdI, mmI, GI, bI⟩ := HI
  obtain ⟨fG, fdG, GG, mG, kG, bG⟩ := HG
  obtain ⟨gL, TL, fL, fdL, iL, tL, GL, bL⟩ := SL
  refine F.okX scNP (fun vs H Q E h => ?_) (fun cdv A outer s H vs Q E hr h => ?_)
  · obtain ⟨p, dx, hd, m, y, z, rfl, _⟩ := h
    rfl
  · obtain ⟨p, dx, hd, m, y, z, rfl, hP, hy, hz, k1, k2, k3⟩ := h
    have hu := hu_of hr
    refine ⟨_, (pss_cons (ps_set (i := 3) scNP.nd rfl (Or.inl rfl) (pe_meth (pv 0) TP.cl mmI GI hr bI .nil (passes_call (takes_of rfl rfl rfl rfl) (fun _ _ _ _ h => h)) (pa_cons (pv 1) pa_nil)))
      (pss_cons (ps_if (PW.pt (pw_or (pt_not (pt_val (pe_call GG (hr.mono (by decide)) rfl mG kG bG .nil pass0 (pa_cons (pv 2) pa_nil)))) (pw_or1 (pt_cmp (pc_dnotin hu (pv 2) (pv 3))))))
        (pss_one (ps_raise rfl (takes_of rfl rfl rfl rfl) (pmk_oex TL iL tL GL (hr.mono (by decide)) bL .nil pass0 rfl gL (pa_cons (pv 2) pa_nil))))
        pss_nil)
      (pss_one (ps_ret (pv 3))))), ?_⟩

    refine ⟨_, rfl, p, dx, _, rfl, hP.ins, rfl, _, rfl, p, dx, hd, m, y, rfl, hP, hy, fun s a d e1 e2 => ?_, k1⟩
    have ha := (hP.at e2).1
    refine ⟨_, rfl, z, rfl, hz, _, rfl, ?_⟩
    cases hz with
    | int i =>
      refine iteF ?_
      refine ⟨_, rfl, _, rfl, a, _, rfl, DGet.k (k := Sum.inl i) ha, _, rfl, ?_⟩
      rw [dI_val]
      cases e : lk d i with
      | none => exact iteT ⟨_, rfl, by show 1 ≤ 1000; decide, mk_sup fun d' nd => k2 s a d e1 e2 (fun j ej => by cases ej; exact e) _ d' (Same.refl _) nd⟩
      | some x => exact iteF ⟨_, rfl, k3 s a d i x e1 e2 rfl e⟩
    | _ => exact iteT (iteT ⟨_, rfl, by show 1 ≤ 1000; decide, mk_sup fun d' nd => k2 s a d e1 e2 (fun j ej => by cases ej) _ d' (Same.refl _) nd⟩)
theorem scWrite : FnScope ["self", "space", "place", "value", "inside"] ["self", "space", "place", "value"] (defScope sWrite) := ⟨rfl, rfl, rfl, by decide +kernel, rfl, by decide +kernel, by decide +kernel⟩
theorem ok_write {f C CS CL CV : Addr} {fd : FuncData} (F : Fun K "write" "Plain.write" sWrite f fd) (TP : PlT K C) (HN : HasM P w K mg base (L2.CX P w) 4 C "need_place" ["self", "space", "place"] (spNP C CS CL)) (HC : Has P w K mg base (L2.CX P w) 3 "need_contents" ["value"] (spNCont CV)) :
    FnOk P w K mg base (L2.CX P w) 5 f fd ["self", "space", "place", "value"] (spWrite C CS CL CV) := by
  obtain ⟨fN, fdN, mmN, GN, bN⟩ := HN
  obtain ⟨fC, fdC, GC, mC, kC, bC⟩ := HC
  refine F.okX scWrite (fun vs H Q E h => ?_) (fun cdv A outer s H vs Q E hr h => ?_)
  · obtain ⟨p, dx, hd, m, y, z, v, rfl, _⟩ := h
    rfl
  · obtain ⟨p, dx, hd, m, y, z, v, rfl, hP, hy, hz, hv, k1, k2, k3, k4⟩ := h
    have hu := hu_of hr
    refine ⟨_, (pss_cons (ps_set (i := 4) scWrite.nd rfl (Or.inl rfl) (pe_meth (pv 0) TP.cl mmN GN hr bN .nil (passes_call (takes_of rfl rfl rfl rfl) (fun _ _ _ _ h => h)) (pa_cons (pv 1) (pa_cons (pv 2) pa_nil))))
      (pss_cons (ps_expr (pe_call GC (hr.mono (by decide)) rfl mC kC bC .nil (passes_call (takes_of rfl rfl rfl rfl) (fun _ _ _ _ h => h)) (pa_cons (pv 3) pa_nil)))
      (pss_one (ps_dput hu (pv 4) (pv 2) (pv 3) rfl)))), ?_⟩

    refine ⟨_, rfl, p, dx, _, rfl, hP.ins, rfl, _, rfl, _, rfl, p, dx, hd, m, y, z, rfl, hP, hy, hz, k1, k2, fun s a d i x e1 e2 e3 e4 => ?_⟩
    refine ⟨_, rfl, v, rfl, hv, fun hc => ?_, fun hc => k3 s a d i x e1 e2 e3 e4 hc⟩
    obtain ⟨j, rfl⟩ : ∃ j, v = .int j := by cases v <;> simp [isC] at hc <;> exact ⟨_, rfl⟩
    subst e3
    have ha := hP.at e2
    have hi := ha.2.2 i (by
      have : ¬ lk d i = none := by rw [e4]; simp
      rw [lk_none] at this
      exact Decidable.byContradiction this)
    refine ⟨_, rfl, _, rfl, _, rfl, a, _, rfl, DPut.k (k := Sum.inl i) ha.1 (by have := ha.2.few; rw [dI_length, sizeLine_eq]; omega), ?_⟩
    exact k4 s a d i x j e1 e2 rfl e4 rfl hc _ .one (hP.put e2 .one (by rw [upd_same, dI_put]) (ha.2.pt hi.1 hi.2))
theorem scRead : FnScope ["self", "space", "place"] ["self", "space", "place"] (defScope sRead) := ⟨rfl, rfl, rfl, by decide +kernel, rfl, by decide +kernel, by decide +kernel⟩
theorem ok_read {f C CS CL : Addr} {fd : FuncData} (F : Fun K "read" "Plain.read" sRead f fd) (TP : PlT K C) (HN : HasM P w K mg base (L2.CX P w) 4 C "need_place" ["self", "space", "place"] (spNP C CS CL)) :
    FnOk P w K mg base (L2.CX P w) 5 f fd ["self", "space", "place"] (spRead C CS CL) := by
  obtain ⟨fN, fdN, mmN, GN, bN⟩ := HN
  refine F.okX scRead (fun vs H Q E h => ?_) (fun cdv A outer s H vs Q E hr h => ?_)
  · obtain ⟨p, dx, hd, m, y, z, rfl, _⟩ := h
    rfl
  · obtain ⟨p, dx, hd, m, y, z, rfl, hP, hy, hz, k1, k2, k3⟩ := h
    have hu := hu_of hr
    refine ⟨_, (pss_one (ps_ret (pe_dget hu (pe_meth (pv 0) TP.cl mmN GN hr bN .nil (passes_call (takes_of rfl rfl rfl rfl) (fun _ _ _ _ h => h)) (pa_cons (pv 1) (pa_cons (pv 2) pa_nil))) (pv 2) (fun _ _ => rfl)))), ?_⟩
    refine ⟨_, rfl, p, dx, _, rfl, hP.ins, rfl, _, rfl, _, rfl, p, dx, hd, m, y, z, rfl, hP, hy, hz, k1, k2, fun s a d i x e1 e2 e3 e4 => ?_⟩
    have ha := hP.at e2
    refine ⟨_, rfl, a, .int x, rfl, ?_, k3 s a d i x e1 e2 e3 e4⟩
    have := DGet.k (k := Sum.inl i) ha.1
    rw [dI_val, e4] at this
    exact e3 ▸ this
theorem scSpaces : FnScope ["self"] ["self"] (defScope sSpaces) := ⟨rfl, rfl, rfl, by decide +kernel, rfl, by decide +kernel, by decide +kernel⟩
theorem ok_spaces {f C : Addr} {fd : FuncData} (F : Fun K "spaces" "Plain.spaces" sSpaces f fd) (TP : PlT K C) (sorted_ : mg "sorted" = none) : FnOk P w K mg base CX0 1 f fd ["self"] (spSpaces C) := by
  refine F.ok scSpaces (fun vs H Q E h => ?_) (fun cdv A outer s H vs Q E hr h => ?_)
  · obtain ⟨p, dx, hd, m, rfl, _⟩ := h
    rfl
  · obtain ⟨p, dx, hd, m, rfl, hP, k⟩ := h
    refine ⟨_, (pss_one (ps_ret (pe_callB (r := rSrtD P w) (call_srtD rfl) (by rfl) sorted_ (by decide +kernel) (pa_cons (pe_fld (pv 0) rfl) pa_nil)))), ?_⟩
    refine ⟨_, rfl, p, C, dx, _, _, rfl, hP.ins, TP.cl, TP.nH, rfl, srt_strs (ks := m.map (·.1)) (.inl hP.held) ?_ fun ys q h1 h2 h3 => k ys q h1 h2 h3⟩
    unfold hK kv
    rw [List.map_map, List.map_map]
    rfl
theorem scPlaces : FnScope ["self", "space"] ["self", "space"] (defScope sPlaces) := ⟨rfl, rfl, rfl, by decide +kernel, rfl, by decide +kernel, by decide +kernel⟩
theorem ok_places {f C CS : Addr} {fd : FuncData} (F : Fun K "places" "Plain.places" sPlaces f fd) (TP : PlT K C) (sorted_ : mg "sorted" = none) (HI : HasM P w K mg base (L2.CX P w) 3 C "inside" ["self", "space"] (spIn C CS)) : FnOk P w K mg base (L2.CX P w) 4 f fd ["self", "space"] (spPlaces C CS) := by
  obtain ⟨fI, fdI, mmI, GI, bI⟩ := HI
  refine F.okX scPlaces (fun vs H Q E h => ?_) (fun cdv A outer s H vs Q E hr h => ?_)
  · obtain ⟨p, dx, hd, m, y, rfl, _⟩ := h
    rfl
  · obtain ⟨p, dx, hd, m, y, rfl, hP, hy, k1, k2⟩ := h
    refine ⟨_, (pss_one (ps_ret (pe_callB (r := rSrtD P w) (call_srtD rfl) (by rfl) sorted_ (by decide +kernel) (pa_cons (pe_meth (pv 0) TP.cl mmI GI hr bI .nil (passes_call (takes_of rfl rfl rfl rfl) (fun _ _ _ _ h => h)) (pa_cons (pv 1) pa_nil)) pa_nil)))), ?_⟩
    refine ⟨_, rfl, p, dx, _, rfl, hP.ins, rfl, _, rfl, p, dx, hd, m, y, rfl, hP, hy, fun s a d e1 e2 => ?_, k1⟩
    have k := k2 s a d e1 e2
    refine srt_ints (ks := d.map (·.1)) (.inl (hP.at e2).1) ?_ fun ys q h1 h2 h3 => k ys q h1 h2 h3
    unfold dI kv
    rw [List.map_map, List.map_map]
    rfl
theorem scPEq : FnScope ["self", "other"] ["self", "other"] (defScope sPEq) := ⟨rfl, rfl, rfl, by decide +kernel, rfl, by decide +kernel, by decide +kernel⟩
theorem ok_peq {f C : Addr} {fd : FuncData} (F : Fun K "__eq__" "Plain.__eq__" sPEq f fd) (TP : PlT K C) (TI : InT K C) (isinstance_ : mg "isinstance" = none) (mC : mg "Plain" = some (.ref C)) : FnOk P w K mg base CX0 1 f fd ["self", "other"] (spPEq C) := by
  refine F.ok scPEq (fun vs H Q E h => ?_) (fun cdv A outer s H vs Q E hr h => ?_)
  · obtain ⟨p, dx, hd, q, dy, hd', m, m', rfl, _⟩ := h
    rfl
  · obtain ⟨p, dx, hd, q, dy, hd', m, m', rfl, A1, A2, e, k⟩ := h
    refine ⟨_, (pss_one (ps_ret (pe_and (pe_callB call_isV (by rfl) isinstance_ PyProof.Rows.boot_isinstance (pa_cons (pv 1) (pa_cons (pe_glob (v := .ref C) rfl mC rfl) pa_nil))) (pe_one (pe_cmpR (op_eqV hr.units) (pe_fld (pv 0) rfl) (pe_fld (pv 1) rfl) (nomark _)))))), ?_⟩
    refine ⟨_, rfl, _, _, _, _, _, rfl, .own C, TI.ty A2.ins, kit_self, _, rfl, iteT ?_⟩
    refine ⟨_, rfl, p, C, dx, _, _, rfl, A1.ins, TP.cl, TP.nH, rfl, _, rfl, q, C, dy, _, _, rfl, A2.ins, TP.cl, TP.nH, rfl, 2, by decide, eq_held A1 A2 e, k⟩
end
end Bm
set_option maxRecDepth 100000
set_option maxHeartbeats 4000000
namespace Bm
open PySem L2 L3 Pm
abbrev sThing : Stmt := top 29
abbrev sWhole : Stmt := top 30
abbrev sLStretch : Stmt := top 31
abbrev sLName : Stmt := top 32
abbrev sNewF : Stmt := top 33
abbrev sFault : Stmt := top 34
abbrev sDone : Stmt := top 35
abbrev sAsked : Stmt := top 36
abbrev sTold : Stmt := top 37
abbrev sTitles : Stmt := top 38
abbrev sRow : Stmt := top 39
abbrev sBent : Stmt := top 40
abbrev sSame : Stmt := top 41
abbrev sWide : Stmt := top 42
abbrev sLaw : Stmt := top 43
def spPick : Sp := fun vs H Q _ => ∃ (d st l : Addr) (xs : List V), vs = [.ref d, .ref l] ∧ Dr d st H ∧ H l = some (.lst xs) ∧ l ≠ d ∧ l ≠ st ∧ 0 < xs.length ∧ xs.length < 1000000 ∧
  ∀ (v : V) (H' : Hp), v ∈ xs → Dr d st H' → Kp d st H H' → Q v H'
section
variable {P : Program} {w : World} {K : PySem.W.Frag} {mg : Str → Option Value} {base : Heap}
theorem scPick : FnScope ["_law_draw_here", "_law_some"] ["_law_draw_here", "_law_some"] (defScope sPick) := ⟨rfl, rfl, rfl, by decide +kernel, rfl, by decide +kernel, by decide +kernel⟩
theorem ok_pick {f fD : Addr} {fd fdD : FuncData} (F : Fun K "_law_pick" "_law_pick" sPick f fd) (T : TB mg) (GD : FnOk P w K mg base CX0 1 fD fdD ["_law_draw_here", "_law_below"] spDraw) (mD : mg "_law_draw" = some (.ref fD)) (kD : PySem.W.keepIn K (.ref fD) = true) (bD : Binds K fdD ["_law_draw_here", "_law_below"] []) :
    FnOk P w K mg base CX0 2 f fd ["_law_draw_here", "_law_some"] spPick := by
  refine F.ok scPick (fun vs H Q E h => ?_) (fun cdv A outer s H vs Q E hr h => ?_)
  · obtain ⟨d, st, l, xs, rfl, _⟩ := h
    rfl
  · obtain ⟨d, st, l, xs, rfl, D, hl, nd, ns, h0, h1, k⟩ := h
    refine ⟨_, pss_one (ps_ret (pe_ix ix_list (pv 1) (pe_call GD hr rfl mD kD bD .nil pass0 (pa_cons (pv 0) (pa_cons (pe_callB call_len_seq (by rfl) T.len_ PySem.boot_len (pa_cons (pv 1) pa_nil)) pa_nil))) (fun _ _ => rfl))), ?_⟩
    refine ⟨_, rfl, _, rfl, _, rfl, _, _, rfl, .inl (SqL.of hl), d, st, _, rfl, D, by omega, by omega, fun r H' r0 r1 D' kp => ?_⟩
    have hl' := kp l _ hl nd ns
    have hr : r.toNat < xs.length := by omega
    have e : atI xs r = some xs[r.toNat] := by
      have := atI_nat (List.getElem?_eq_getElem hr)
      rwa [show ((r.toNat : Nat) : Int) = r by omega] at this
    exact ⟨_, _, _, _, rfl, rfl, SqL.of hl', e, k _ _ (List.getElem_mem hr) D' kp⟩
end
def spPickS : Sp := fun vs H Q _ => ∃ (d st : Addr) (z : Str), vs = [.ref d, .str z] ∧ Dr d st H ∧ 0 < z.length ∧ z.length < 1000000 ∧ ∀ (c : Nat) (H' : Hp), c ∈ z.cps.toList → Dr d st H' → Kp d st H H' → Q (.str ⟨#[c]⟩) H'
section
variable {P : Program} {w : World} {K : PySem.W.Frag} {mg : Str → Option Value} {base : Heap}
theorem ok_pickS {f fD : Addr} {fd fdD : FuncData} (F : Fun K "_law_pick" "_law_pick" sPick f fd) (T : TB mg) (GD : FnOk P w K mg base CX0 1 fD fdD ["_law_draw_here", "_law_below"] spDraw) (mD : mg "_law_draw" = some (.ref fD)) (kD : PySem.W.keepIn K (.ref fD) = true) (bD : Binds K fdD ["_law_draw_here", "_law_below"] []) :
    FnOk P w K mg base CX0 2 f fd ["_law_draw_here", "_law_some"] spPickS := by
  refine F.ok scPick (fun vs H Q E h => ?_) (fun cdv A outer s H vs Q E hr h => ?_)
  · obtain ⟨d, st, z, rfl, _⟩ := h
    rfl
  · obtain ⟨d, st, z, rfl, D, h0, h1, k⟩ := h
    refine ⟨_, pss_one (ps_ret (pe_ix ix_str (pv 1) (pe_call GD hr rfl mD kD bD .nil pass0 (pa_cons (pv 0) (pa_cons (pe_callB call_len_str (by rfl) T.len_ PySem.boot_len (pa_cons (pv 1) pa_nil)) pa_nil))) (fun _ _ => rfl))), ?_⟩
    have hz : z.length ≤ sizeLine := by rw [sizeLine_eq]; omega
    refine ⟨_, rfl, _, rfl, _, rfl, z, rfl, hz, d, st, _, rfl, D, by omega, by omega, fun r H' r0 r1 D' kp => ?_⟩
    have hr : r.toNat < z.cps.toList.length := by
      have : z.cps.toList.length = z.length := Array.length_toList
      omega
    have e : atI z.cps.toList r = some z.cps.toList[r.toNat] := by
      have := atI_nat (List.getElem?_eq_getElem hr)
      rwa [show ((r.toNat : Nat) : Int) = r by omega] at this
    exact ⟨z, _, _, rfl, rfl, hz, e, k _ _ (List.getElem_mem hr) D' kp⟩
end
def spThing : Sp := fun vs H Q _ => ∃ (d st : Addr), vs = [.ref d] ∧ Dr d st H ∧ ∀ (v : V) (p : PyData) (H' : Hp), ThV H' v p → Fits p → Short v → (∀ a, v = .ref a → H a = none) → Dr d st H' → Kp d st H H' → Q v H'
theorem ThV.any {H : Hp} {v : V} {p : PyData} (h : ThV H v p) : AnyV H v := by
  cases h with
  | non => exact .non
  | bl b => exact .bl b
  | int i => exact .int i
  | str x => exact .str x
  | lst e => exact .lst e
  | tup e => exact .tup e
  | dct e => exact .dK e
theorem log_small {i : Int} (h : i.natAbs < 2 ^ 80) : i.natAbs.log2 < 1920 := by
  by_cases z : i.natAbs = 0
  · rw [z]; decide
  · exact Nat.lt_of_lt_of_le ((Nat.log2_lt z).mpr h) (by decide)
theorem fits_small {i : Int} (h : i.natAbs < 2 ^ 80) : Fits (.int i) := ⟨by simpa [PyData.showable] using log_small h, by
  have e := int_text_length_le (k := 1920) (by decide) (log_small h)
  show (Str.ofString (toString i)).length ≤ 10000
  rw [ofString_length]
  omega, fun j z => by cases z; exact h⟩
theorem Same.kp {d st : Addr} {H H' : Hp} (s : Same H H') : Kp d st H H' := fun b o e _ _ => s b o e
theorem Dr.same {d st : Addr} {H H' : Hp} (D : Dr d st H) (s : Same H H') : Dr d st H' := by
  obtain ⟨ms, sp, mx, hd, hs, h⟩ := D
  exact ⟨ms, sp, mx, s _ _ hd, s _ _ hs, h⟩
theorem Dr.ne {d st p : Addr} {H H' : Hp} (D : Dr d st H) (s : Same H H') (n : H' p = none) : p ≠ d ∧ p ≠ st := by
  obtain ⟨ms, sp, mx, hd, hs, h⟩ := D
  exact ⟨(ne_of_none (s _ _ hd) n).symm, (ne_of_none (s _ _ hs) n).symm⟩
section
variable {P : Program} {w : World} {K : PySem.W.Frag} {mg : Str → Option Value} {base : Heap}
/-- items of a list, new since H -/
def News (H H' : Hp) (xs : List V) : Prop := ∀ v ∈ xs, (∃ p, ThV H' v p ∧ Fits p) ∧ ∀ a, v = .ref a → H a = none
theorem News.mono {H H1 H2 : Hp} {d st : Addr} {xs : List V} (n : News H H1 xs) (D : Dr d st H) (k : Kp d st H1 H2) : News H H2 xs := fun v hv => by
  obtain ⟨⟨p, h1, h0⟩, h2⟩ := n v hv
  obtain ⟨ms, sp, mx, hd, hs, _⟩ := D
  refine ⟨⟨p, h1.mono ?_, h0⟩, h2⟩
  exact (fun a o e ha _ => k a o ha (fun z => by have := h2 a e; rw [z, hd] at this; cases this) (fun z => by have := h2 a e; rw [z, hs] at this; cases this))
theorem scThing : FnScope ["_law_draw_here", "_law_some"] ["_law_draw_here"] (defScope sThing) := ⟨rfl, rfl, rfl, by decide +kernel, rfl, by decide +kernel, by decide +kernel⟩
theorem ok_thing {f fD fP : Addr} {fd fdD fdP : FuncData} (F : Fun K "_law_thing" "_law_thing" sThing f fd) (T : TB mg) (GD : FnOk P w K mg base CX0 1 fD fdD ["_law_draw_here", "_law_below"] spDraw) (mD : mg "_law_draw" = some (.ref fD)) (kD : PySem.W.keepIn K (.ref fD) = true) (bD : Binds K fdD ["_law_draw_here", "_law_below"] [])
    (GP : FnOk P w K mg base CX0 2 fP fdP ["_law_draw_here", "_law_some"] spPick) (mP : mg "_law_pick" = some (.ref fP)) (kP : PySem.W.keepIn K (.ref fP) = true) (bP : Binds K fdP ["_law_draw_here", "_law_some"] []) :
    FnOk P w K mg base CX0 3 f fd ["_law_draw_here"] spThing := by
  refine F.ok scThing (fun vs H Q E h => ?_) (fun cdv A outer s H vs Q E hr h => ?_)
  · obtain ⟨d, st, rfl, _⟩ := h
    rfl
  · obtain ⟨d, st, rfl, D, k⟩ := h
    have hr1 := hr.mono (show 1 ≤ 2 by decide)
    refine ⟨_, pss_cons (ps_set (i := 1) scThing.nd rfl (Or.inl rfl) (pe_lst (pa_cons pe_non (pa_cons pe_bl (pa_cons pe_bl (pa_cons pe_str (pa_cons pe_str (pa_cons pe_str (pa_cons (pe_lst pa_nil) (pa_cons (pe_lst (pa_cons pe_int pa_nil)) (pa_cons (pe_tup pa_nil) (pa_cons (pe_tup (pa_cons pe_int (pa_cons pe_int pa_nil)))
        (pa_cons pe_dnewK (pa_cons (pe_disp (pps_cons pe_int pe_int pps_nil) (by rfl) (by rfl) (fun z => by cases z) (by decide)) (pa_cons (pe_un un_neg pe_int) (pa_cons pe_int (pa_cons pe_int (pa_cons pe_int (pa_cons pe_int pa_nil)))))))))))))))))))
      (pss_one (ps_ret (pe_call GP hr rfl mP kP bP .nil pass0 (pa_cons (pv 0) (pa_cons (pe_op op_cat (pv 1) (pe_lst (pa_cons (pe_op op_pow pe_int pe_int) (pa_cons (pe_un un_neg (pe_op op_pow pe_int pe_int))
        (pa_cons (pe_call GD hr1 rfl mD kD bD .nil pass0 (pa_cons (pv 0) (pa_cons pe_int pa_nil))) (pa_cons (pe_call GD hr1 rfl mD kD bD .nil pass0 (pa_cons (pv 0) (pa_cons pe_int pa_nil))) pa_nil)))))) pa_nil))))), ?_⟩
    refine ⟨by decide, fun p1 n1 => ?_⟩
    generalize eH1 : upd H p1 _ = H1
    have s1 : Same H H1 := by rw [← eH1]; exact sameNew n1
    have a1 : H1 p1 = some (HO.lst [] : HO) := by rw [← eH1]; exact upd_same
    clear eH1
    refine ⟨by decide, fun p2 n2 => ?_⟩
    generalize eH2 : upd H1 p2 _ = H2
    have s2 : Same H1 H2 := by rw [← eH2]; exact sameNew n2
    have a2 : H2 p2 = some (HO.lst [V.int 3] : HO) := by rw [← eH2]; exact upd_same
    clear eH2
    refine ⟨by decide, fun t1 m1 => ?_⟩
    generalize eH3 : upd H2 t1 _ = H3
    have s3 : Same H2 H3 := by rw [← eH3]; exact sameNew m1
    have a3 : H3 t1 = some (HO.tup [] : HO) := by rw [← eH3]; exact upd_same
    clear eH3
    refine ⟨by decide, fun t2 m2 => ?_⟩
    generalize eH4 : upd H3 t2 _ = H4
    have s4 : Same H3 H4 := by rw [← eH4]; exact sameNew m2
    have a4 : H4 t2 = some (HO.tup [V.int 0, V.int 1] : HO) := by rw [← eH4]; exact upd_same
    clear eH4
    refine fun d1 k1 => ?_
    generalize eH5 : upd H4 d1 _ = H5
    have s5 : Same H4 H5 := by rw [← eH5]; exact sameNew k1
    have a5 : H5 d1 = some (HO.dK [] : HO) := by rw [← eH5]; exact upd_same
    clear eH5
    refine fun d2 k2 => ⟨upd_same, [(Sum.inl 0, .int 1)], rfl, by decide, ?_⟩
    rw [upd_upd]
    generalize eH6 : upd H5 d2 _ = H6
    have s6 : Same H5 H6 := by rw [← eH6]; exact sameNew k2
    have a6 : H6 d2 = some (HO.dK (mergeK [] [(Sum.inl 0, V.int 1)]) : HO) := by rw [← eH6]; exact upd_same
    clear eH6
    have f2 := s1.free n2
    have f3 := s1.free (s2.free m1)
    have f4 := s1.free (s2.free (s3.free m2))
    have f5 := s1.free (s2.free (s3.free (s4.free k1)))
    have f6 := s1.free (s2.free (s3.free (s4.free (s5.free k2))))
    have S6 := s1.trans (s2.trans (s3.trans (s4.trans (s5.trans s6))))
    refine ⟨_, rfl, by show 17 ≤ sizeLine; decide, fun L nL => ?_⟩
    obtain ⟨nLd, nLs⟩ := D.ne S6 nL
    generalize eH7 : upd H6 L _ = H7
    have s7 : Same H6 H7 := by rw [← eH7]; exact sameNew nL
    have a7 : H7 L = some (HO.lst [V.non, V.bl true, V.bl false, V.str "", V.str "a", V.str "0", V.ref p1, V.ref p2, V.ref t1, V.ref t2, V.ref d1, V.ref d2, V.int (-1), V.int 0, V.int 1, V.int 9999, V.int 10000] : HO) := by rw [← eH7]; exact upd_same
    clear eH7
    have S7 := S6.trans s7
    have N0 : News H H7 [V.non, V.bl true, V.bl false, V.str "", V.str "a", V.str "0", V.ref p1, V.ref p2, V.ref t1, V.ref t2, V.ref d1, V.ref d2, V.int (-1), V.int 0, V.int 1, V.int 9999, V.int 10000] := fun v hv => by
      simp only [List.mem_cons, List.not_mem_nil, or_false] at hv
      rcases hv with rfl | rfl | rfl | rfl | rfl | rfl | rfl | rfl | rfl | rfl | rfl | rfl | rfl | rfl | rfl | rfl | rfl
      · exact ⟨⟨_, .non, ⟨by decide +kernel, by decide +kernel, fun i z => by cases z⟩⟩, fun a e => by cases e⟩
      · exact ⟨⟨_, .bl _, ⟨by decide +kernel, by decide +kernel, fun i z => by cases z⟩⟩, fun a e => by cases e⟩
      · exact ⟨⟨_, .bl _, ⟨by decide +kernel, by decide +kernel, fun i z => by cases z⟩⟩, fun a e => by cases e⟩
      · exact ⟨⟨_, .str _, ⟨by decide +kernel, by decide +kernel, fun i z => by cases z⟩⟩, fun a e => by cases e⟩
      · exact ⟨⟨_, .str _, ⟨by decide +kernel, by decide +kernel, fun i z => by cases z⟩⟩, fun a e => by cases e⟩
      · exact ⟨⟨_, .str _, ⟨by decide +kernel, by decide +kernel, fun i z => by cases z⟩⟩, fun a e => by cases e⟩
      · exact ⟨⟨_, .lst (ns := []) (s7 _ _ (s6 _ _ (s5 _ _ (s4 _ _ (s3 _ _ (s2 _ _ a1)))))), ⟨by decide +kernel, by decide +kernel, fun i z => by cases z⟩⟩, fun a e => by cases e; exact n1⟩
      · exact ⟨⟨_, .lst (ns := [3]) (s7 _ _ (s6 _ _ (s5 _ _ (s4 _ _ (s3 _ _ a2))))), ⟨by decide +kernel, by decide +kernel, fun i z => by cases z⟩⟩, fun a e => by cases e; exact f2⟩
      · exact ⟨⟨_, .tup (ns := []) (s7 _ _ (s6 _ _ (s5 _ _ (s4 _ _ a3)))), ⟨by decide +kernel, by decide +kernel, fun i z => by cases z⟩⟩, fun a e => by cases e; exact f3⟩
      · exact ⟨⟨_, .tup (ns := [0, 1]) (s7 _ _ (s6 _ _ (s5 _ _ a4))), ⟨by decide +kernel, by decide +kernel, fun i z => by cases z⟩⟩, fun a e => by cases e; exact f4⟩
      · exact ⟨⟨_, .dct (ps := []) (s7 _ _ (s6 _ _ a5)), ⟨by decide +kernel, by decide +kernel, fun i z => by cases z⟩⟩, fun a e => by cases e; exact f5⟩
      · exact ⟨⟨_, .dct (ps := [(0, 1)]) (s7 _ _ a6), ⟨by decide +kernel, by decide +kernel, fun i z => by cases z⟩⟩, fun a e => by cases e; exact f6⟩
      · exact ⟨⟨_, .int _, fits_small (by first | decide | omega)⟩, fun a e => by cases e⟩
      · exact ⟨⟨_, .int _, fits_small (by first | decide | omega)⟩, fun a e => by cases e⟩
      · exact ⟨⟨_, .int _, fits_small (by first | decide | omega)⟩, fun a e => by cases e⟩
      · exact ⟨⟨_, .int _, fits_small (by first | decide | omega)⟩, fun a e => by cases e⟩
      · exact ⟨⟨_, .int _, fits_small (by first | decide | omega)⟩, fun a e => by cases e⟩
    have D0 := D.same S7
    have S0 : ∀ v ∈ [V.non, V.bl true, V.bl false, V.str "", V.str "a", V.str "0", V.ref p1, V.ref p2, V.ref t1, V.ref t2, V.ref d1, V.ref d2, V.int (-1), V.int 0, V.int 1, V.int 9999, V.int 10000], Short v := fun v hv => by
      simp only [List.mem_cons, List.not_mem_nil, or_false] at hv
      rcases hv with rfl | rfl | rfl | rfl | rfl | rfl | rfl | rfl | rfl | rfl | rfl | rfl | rfl | rfl | rfl | rfl | rfl <;> intro x e <;> first | (cases e; done) | (cases e; exact ⟨by decide +kernel, by decide +kernel⟩)
    have hlen : [V.non, V.bl true, V.bl false, V.str "", V.str "a", V.str "0", V.ref p1, V.ref p2, V.ref t1, V.ref t2, V.ref d1, V.ref d2, V.int (-1), V.int 0, V.int 1, V.int 9999, V.int 10000].length = 17 := rfl
    generalize [V.non, V.bl true, V.bl false, V.str "", V.str "a", V.str "0", V.ref p1, V.ref p2, V.ref t1, V.ref t2, V.ref d1, V.ref d2, V.int (-1), V.int 0, V.int 1, V.int 9999, V.int 10000] = xs at N0 a7 hlen S0 ⊢
    refine ⟨_, rfl, _, rfl, _, _, rfl, rfl, ⟨by decide, by decide, by decide⟩, _, _, rfl, rfl, ⟨by decide, by decide, by decide⟩, _, rfl, _, rfl, d, st, _, rfl, D0, by decide, by decide, fun r1 H8 r10 r11 D1 K1 => ?_⟩
    refine ⟨_, rfl, d, st, _, rfl, D1, by decide, by decide, fun r2 H9 r20 r21 D2 K2 => ?_⟩
    refine ⟨by show 4 ≤ sizeLine; decide, fun M nM => ?_⟩
    generalize eH10 : upd H9 M _ = H10
    have sM : Same H9 H10 := by rw [← eH10]; exact sameNew nM
    have aM : H10 M = some (HO.lst [V.int (10 ^ 17), V.int (-(10 ^ 17)), V.int r1, V.int r2] : HO) := by rw [← eH10]; exact upd_same
    clear eH10
    have K02 := K1.trans K2
    refine ⟨L, M, xs, _, rfl, rfl, sM _ _ (K02 _ _ a7 nLd nLs), aM, by rw [hlen]; show 21 ≤ sizeLine; decide, fun R nR => ?_⟩
    obtain ⟨nRd, nRs⟩ := D2.ne sM nR
    generalize eH11 : upd H10 R _ = H11
    have sR : Same H10 H11 := by rw [← eH11]; exact sameNew nR
    have aR : H11 R = some (HO.lst (xs ++ [V.int (10 ^ 17), V.int (-(10 ^ 17)), V.int r1, V.int r2]) : HO) := by rw [← eH11]; exact upd_same
    clear eH11
    have S911 := sM.trans sR
    have K11 : Kp d st H H11 := ((Same.kp S7).trans K02).trans (Same.kp S911)
    refine ⟨d, st, R, _, rfl, D2.same S911, aR, nRd, nRs, by rw [List.length_append, hlen]; show 0 < 21; decide, by rw [List.length_append, hlen]; show 21 < 1000000; decide, fun v H12 hv D3 K3 => ?_⟩
    have N3 := (N0.mono D K02).mono D ((Same.kp (d := d) (st := st) S911).trans K3)
    have all : (∃ p, ThV H12 v p ∧ Fits p) ∧ ∀ a, v = .ref a → H a = none := by
      rcases List.mem_append.mp hv with h | h
      · exact N3 v h
      · simp only [List.mem_cons, List.not_mem_nil, or_false] at h
        rcases h with rfl | rfl | rfl | rfl
        · exact ⟨⟨_, .int _, fits_small (by first | decide | omega)⟩, fun a e => by cases e⟩
        · exact ⟨⟨_, .int _, fits_small (by first | decide | omega)⟩, fun a e => by cases e⟩
        · exact ⟨⟨_, .int _, fits_small (by first | decide | omega)⟩, fun a e => by cases e⟩
        · exact ⟨⟨_, .int _, fits_small (by first | decide | omega)⟩, fun a e => by cases e⟩
    have sh : Short v := by
      rcases List.mem_append.mp hv with h | h
      · exact S0 v h
      · simp only [List.mem_cons, List.not_mem_nil, or_false] at h
        rcases h with rfl | rfl | rfl | rfl <;> intro x e <;> cases e
    obtain ⟨⟨p, h1, h2⟩, h3⟩ := all
    exact k v p H12 h1 h2 sh h3 D3 (K11.trans K3)
theorem scWhole : FnScope ["_law_thing_here"] ["_law_thing_here"] (defScope sWhole) := ⟨rfl, rfl, rfl, by decide +kernel, rfl, by decide +kernel, by decide +kernel⟩
theorem ok_whole {f : Addr} {fd : FuncData} (F : Fun K "_law_is_whole" "_law_is_whole" sWhole f fd) (T : TC K mg) : FnOk P w K mg base CX0 1 f fd ["_law_thing_here"] spIsInt := by
  refine F.ok scWhole (fun vs H Q E h => ?_) (fun cdv A outer s H vs Q E hr h => ?_)
  · obtain ⟨v, rfl, _⟩ := h
    rfl
  · obtain ⟨v, rfl, hv, k⟩ := h
    obtain ⟨t, ty, h1, h2⟩ := hv.ty (K := K)
    refine ⟨_, pss_one (ps_ret (pe_and (pe_callB call_isi (by rfl) T.isinstance_ PyProof.Rows.boot_isinstance (pa_cons (pv 0) (pa_cons (pe_bltn (v := .ty "int") rfl T.int_ (by decide +kernel) rfl) pa_nil)))
      (pe_one (pe_not (pe_callB call_isi (by rfl) T.isinstance_ PyProof.Rows.boot_isinstance (pa_cons (pv 0) (pa_cons (pe_bltn (v := .ty "bool") rfl T.bool_ (by decide +kernel) rfl) pa_nil))))))), ?_⟩
    refine ⟨_, rfl, _, _, _, _, _, rfl, .ty _, ty, h1, _, rfl, ?_⟩
    refine ite2 (fun c => ?_) (fun c => ?_)
    · refine ⟨_, rfl, _, _, _, _, _, rfl, .ty _, ty, h2, _, rfl, ?_⟩
      have e : (!isB v) = isI v := by cases v <;> simp_all [isI, isB]
      rw [e]
      exact k
    · have e : isI v = false := by
        cases q : isI v with
        | false => rfl
        | true => rw [q] at c; simp at c
      rw [e] at k
      exact k
/-- the law's own words of a stretch -/
def spLS : Sp := fun vs H Q _ => ∃ b m, vs = [b, m] ∧ AnyV H b ∧ AnyV H m ∧ Q (.bl (isS b m)) H
theorem scLStretch : FnScope ["_law_first", "_law_size"] ["_law_first", "_law_size"] (defScope sLStretch) := ⟨rfl, rfl, rfl, by decide +kernel, rfl, by decide +kernel, by decide +kernel⟩
theorem isS_sum (b m : Int) : isS (.int b) (.int m) = (decide (0 ≤ b) && (decide (0 < m) && decide (b + m < 10001))) := by
  simp only [isS]
  by_cases h1 : 0 ≤ b <;> by_cases h2 : b < 10000 <;> by_cases h3 : 1 ≤ m <;> by_cases h4 : b + m ≤ 10000 <;> by_cases h5 : 0 < m <;> by_cases h6 : b + m < 10001 <;> simp [h1, h2, h3, h4, h5, h6] <;> omega
theorem ok_lstretch {f fW : Addr} {fd fdW : FuncData} (F : Fun K "_law_is_stretch" "_law_is_stretch" sLStretch f fd) (GW : FnOk P w K mg base CX0 1 fW fdW ["_law_thing_here"] spIsInt) (mW : mg "_law_is_whole" = some (.ref fW)) (kW : PySem.W.keepIn K (.ref fW) = true) (bW : Binds K fdW ["_law_thing_here"] []) :
    FnOk P w K mg base CX0 2 f fd ["_law_first", "_law_size"] spLS := by
  refine F.ok scLStretch (fun vs H Q E h => ?_) (fun cdv A outer s H vs Q E hr h => ?_)
  · obtain ⟨b, m, rfl, _⟩ := h
    rfl
  · obtain ⟨b, m, rfl, hb, hm, k⟩ := h
    refine ⟨_, pss_cons (ps_if (PW.pt (pw_or (pt_not (pt_val (pe_call GW hr rfl mW kW bW .nil pass0 (pa_cons (pv 0) pa_nil)))) (pw_or1 (pt_not (pt_val (pe_call GW hr rfl mW kW bW .nil pass0 (pa_cons (pv 1) pa_nil))))))) (pss_one (ps_ret pe_bl)) pss_nil)
      (pss_one (ps_ret (pe_and (pe_cmpR op_ge (pv 0) pe_int (nomark _)) (pe_and (pe_cmpR op_gt (pv 1) pe_int (nomark _)) (pe_one (pe_cmpR op_lt (pe_op op_add (pv 0) (pv 1)) pe_int (nomark _))))))), ?_⟩
    refine ⟨_, rfl, b, rfl, hb, _, rfl, ?_⟩
    cases e1 : isI b with
    | false =>
      have e : isS b m = false := by cases b <;> cases m <;> simp_all [isS, isI]
      rw [e] at k
      refine iteT (iteT ?_)
      exact k
    | true =>
      refine iteF ?_
      refine ⟨_, rfl, m, rfl, hm, _, rfl, ?_⟩
      cases e2 : isI m with
      | false =>
        have e : isS b m = false := by cases b <;> cases m <;> simp_all [isS, isI]
        rw [e] at k
        exact iteT k
      | true =>
        obtain ⟨i, rfl⟩ : ∃ i, b = .int i := by cases b <;> simp [isI] at e1 <;> exact ⟨_, rfl⟩
        obtain ⟨j, rfl⟩ : ∃ j, m = .int j := by cases m <;> simp [isI] at e2 <;> exact ⟨_, rfl⟩
        rw [isS_sum] at k
        refine iteF ?_
        refine ⟨_, rfl, _, _, rfl, rfl, _, rfl, ?_⟩
        refine ite2 (fun c1 => ?_) (fun c1 => ?_)
        · have c1' : 0 ≤ i := of_decide_eq_true c1
          refine ⟨_, rfl, _, _, rfl, rfl, _, rfl, ?_⟩
          refine ite2 (fun c2 => ?_) (fun c2 => ?_)
          · have c2' : 0 < j := of_decide_eq_true c2
            refine ⟨_, rfl, _, rfl, _, _, rfl, rfl, _, _, rfl, rfl, ?_⟩
            simp only [c1', c2', decide_true, Bool.true_and] at k
            exact k
          · have c2' : ¬ 0 < j := fun z => c2 (decide_eq_true z)
            simp only [c1', c2', decide_true, decide_false, Bool.true_and, Bool.false_and] at k
            exact k
        · have c1' : ¬ 0 ≤ i := fun z => c1 (decide_eq_true z)
          simp only [c1', decide_false, Bool.false_and] at k
          exact k
end
end Bm
set_option maxRecDepth 100000
set_option maxHeartbeats 4000000
/-! operations, as rows, with what they do to a memory -/
namespace Bm
open PySem L2 L3 Pm
inductive Op where
  | add (y : V)
  | drop (y : V)
  | places (y : V)
  | fork (y z : V)
  | read (y z : V)
  | write (y z v : V)
  | map (y b n : V)
  | unmap (y b n : V)
  | move (y b n t : V)
namespace Op
def word : Op → Str
  | add _ => "add" | drop _ => "drop" | places _ => "places" | fork _ _ => "fork" | read _ _ => "read" | write _ _ _ => "write" | map _ _ _ => "map" | unmap _ _ _ => "unmap" | move _ _ _ _ => "move"
def title : Op → V
  | add y => y | drop y => y | places y => y | fork y _ => y | read y _ => y | write y _ _ => y | map y _ _ => y | unmap y _ _ => y | move y _ _ _ => y
def more : Op → List V
  | add _ => [] | drop _ => [] | places _ => [] | fork _ z => [z] | read _ z => [z] | write _ z v => [z, v] | map _ b n => [b, n] | unmap _ b n => [b, n] | move _ b n t => [b, n, t]
def args (o : Op) : List V := o.title :: o.more
def row (o : Op) : List V := .str o.word :: o.args
end Op
/-- an error as its word and its attribute -/
abbrev Err := Option (Str × V)
abbrev Mem := List (Str × Pl)
def newF (M : Mem) : V → Err
  | .str c => if nameS c = true then (if (lk M c).isSome = true then some ("taken", .str c) else none) else some ("name", .non)
  | _ => some ("name", .non)
def inSp (M : Mem) (y : V) (f : Pl → Err) : Err := match y with
  | .str s => match lk M s with
    | none => some ("space", .str s)
    | some d => f d
  | y => some ("space", y)
def plF (d : Pl) : V → Err
  | .int i => if (lk d i).isSome = true then none else some ("place", .int i)
  | z => some ("place", z)
def usF (d : Pl) : V → V → Err
  | .int i, .int j => (used d i j.toNat).map fun x => ("used", .int x)
  | _, _ => none
def laF (d : Pl) : V → V → Err
  | .int i, .int j => (lacks d i j.toNat).map fun x => ("place", .int x)
  | _, _ => none
def fault (M : Mem) : Op → Err
  | .add y => newF M y
  | .drop y => inSp M y fun _ => none
  | .places y => inSp M y fun _ => none
  | .fork y z => inSp M y fun _ => newF M z
  | .read y z => inSp M y fun d => plF d z
  | .write y z v => inSp M y fun d => (plF d z).or (if isC v = true then none else some ("value", .non))
  | .map y b n => inSp M y fun d => if isS b n = true then usF d b n else some ("area", .non)
  | .unmap y b n => inSp M y fun _ => if isS b n = true then none else some ("area", .non)
  | .move y b n t => inSp M y fun d => if isS b n = true ∧ isS t n = true then (laF d b n).or (usF d t n) else some ("area", .non)
/-- the places of a space -/
def inn (M : Mem) (s : Str) : Pl := (lk M s).getD []
def done (M : Mem) : Op → Mem
  | .add (.str s) => M ++ [(s, [])]
  | .drop (.str s) => dr M s
  | .fork (.str s) (.str c) => M ++ [(c, inn M s)]
  | .write (.str s) (.int i) (.int x) => pt M s (pt (inn M s) i x)
  | .map (.str s) (.int i) (.int j) => pt M s (mapP (inn M s) i j.toNat)
  | .unmap (.str s) (.int i) (.int j) => pt M s (unmapP (inn M s) i j.toNat)
  | .move (.str s) (.int i) (.int j) (.int k) => pt M s (moveP (inn M s) i k j.toNat)
  | _ => M
def sortI (l : List Int) : List Int := l.mergeSort (· ≤ ·)
theorem sortI_eq {ys l : List Int} (p : ys.Perm l) (h : ys.Pairwise (· ≤ ·)) : ys = sortI l := by
  refine PySem.W.ksm_same (p.trans (List.mergeSort_perm l _).symm) h ?_
  have := List.pairwise_mergeSort (le := fun a b : Int => decide (a ≤ b)) (fun a b c h1 h2 => by simp at *; omega) (fun a b => by simp; omega) l
  exact this.imp fun h => by simpa using h
/-- what the operation returns -/
def resD (M : Mem) : Op → PyData
  | .read (.str s) (.int i) => .int ((lk (inn M s) i).getD 0)
  | .places (.str s) => .list ((sortI ((inn M s).map (·.1))).map .int)
  | _ => .none
end Bm
set_option maxRecDepth 100000
set_option maxHeartbeats 4000000
/-! the law's own model: a dict of dicts -/
namespace Pm
open PySem L2
structure MoA (H : Hp) (hd : Addr) (m : Sp3) : Prop where
  held : H hd = some (.dK (hK m))
  inner : ∀ e ∈ m, H e.2.1 = some (.dK (dI e.2.2))
  nodN : (m.map (·.1)).Nodup
  nodA : (hd :: m.map (·.2.1)).Nodup
  ok : ∀ e ∈ m, OkP e.2.2
section
variable {H H' : Hp} {hd : Addr} {m : Sp3}
theorem MoA.at (P : MoA H hd m) {s : Str} {a : Addr} {d : Pl} (h : lk m s = some (a, d)) : H a = some (.dK (dI d)) ∧ OkP d := ⟨P.inner _ (lk_mem h), P.ok _ (lk_mem h)⟩
theorem MoA.ne_hd (P : MoA H hd m) {s : Str} {a : Addr} {d : Pl} (h : lk m s = some (a, d)) : a ≠ hd := fun e => (List.nodup_cons.mp P.nodA).1 (e ▸ List.mem_map.mpr ⟨_, lk_mem h, rfl⟩)
theorem MoA.keep (P : MoA H hd m) {S : List Addr} (k : Keeps S H H') (hm : ∀ a ∈ fpt hd m, a ∉ S) : MoA H' hd m where
  held := k _ _ P.held (hm _ List.mem_cons_self)
  inner := fun e he => k _ _ (P.inner e he) (hm _ (List.mem_cons_of_mem _ (List.mem_map.mpr ⟨e, he, rfl⟩)))
  nodN := P.nodN
  nodA := P.nodA
  ok := P.ok
theorem MoA.same (P : MoA H hd m) (k : Same H H') : MoA H' hd m := P.keep (S := []) (fun b o e _ => k b o e) (fun _ _ => by simp)
theorem addrs_ptM (P : MoA H hd m) {s : Str} {a : Addr} {d d' : Pl} (h : lk m s = some (a, d)) : (pt m s (a, d')).map (fun e => (e.1, e.2.1)) = m.map fun e => (e.1, e.2.1) := by
  rw [pt_vals (fun e : Addr × Pl => e.1) m s (a, d')]
  refine pt_same ?_ ?_
  · rw [List.map_map]; exact P.nodN
  · rw [lk_vals, h]; rfl
theorem addrs_ptM' (P : MoA H hd m) {s : Str} {a : Addr} {d d' : Pl} (h : lk m s = some (a, d)) : (pt m s (a, d')).map (·.2.1) = m.map (·.2.1) := by
  have := congrArg (List.map (·.2)) (addrs_ptM P (d' := d') h)
  rwa [List.map_map, List.map_map] at this
theorem fpt_ptM (P : MoA H hd m) {s : Str} {a : Addr} {d d' : Pl} (h : lk m s = some (a, d)) : fpt hd (pt m s (a, d')) = fpt hd m := by
  unfold fpt
  rw [addrs_ptM' P h]
theorem MoA.put (P : MoA H hd m) {s : Str} {a : Addr} {d d' : Pl} (h : lk m s = some (a, d)) (k : Keeps [a] H H') (e : H' a = some (.dK (dI d'))) (o : OkP d') : MoA H' hd (pt m s (a, d')) where
  held := by
    have z : hK (pt m s (a, d')) = hK m := by
      unfold hK kv
      have := congrArg (List.map fun e : Str × Addr => ((Sum.inr e.1 : Key), V.ref e.2)) (addrs_ptM P (d' := d') h)
      rwa [List.map_map, List.map_map] at this
    rw [z]
    exact k _ _ P.held fun z => P.ne_hd h (List.mem_singleton.mp z).symm
  inner := fun x hx => by
    unfold pt at hx
    rw [any_lk, h, if_pos (show (some (a, d)).isSome = true from rfl)] at hx
    obtain ⟨y, hy, rfl⟩ := List.mem_map.mp hx
    by_cases q : y.1 = s
    · rw [if_pos q]
      exact e
    · rw [if_neg q]
      refine k _ _ (P.inner y hy) fun z => ?_
      rw [List.mem_singleton] at z
      -- one address, two names
      have n2 := (List.nodup_cons.mp P.nodA).2
      have hy2 := lk_mem h
      have : ∀ (l : Sp3), (l.map (·.2.1)).Nodup → y ∈ l → (s, a, d) ∈ l → y.2.1 = a → y = (s, a, d) := by
        intro l
        induction l with
        | nil => intro _ h1; cases h1
        | cons x l ih =>
          intro n h1 h2 h3
          rw [List.map_cons, List.nodup_cons] at n
          rcases List.mem_cons.mp h1 with e1 | e1
          · rcases List.mem_cons.mp h2 with e2 | e2
            · exact e1.trans e2.symm
            · exact absurd (show x.2.1 ∈ l.map (·.2.1) from List.mem_map.mpr ⟨(s, a, d), e2, by rw [← e1, h3]⟩) n.1
          · rcases List.mem_cons.mp h2 with e2 | e2
            · exact absurd (show x.2.1 ∈ l.map (·.2.1) from List.mem_map.mpr ⟨y, e1, by rw [← e2, h3]⟩) n.1
            · exact ih n.2 e1 e2 h3
      exact q (by rw [this m n2 hy hy2 z])
  nodN := nodup_pt P.nodN
  nodA := by rw [addrs_ptM' P h]; exact P.nodA
  ok := fun x hx => by
    unfold pt at hx
    rw [any_lk, h, if_pos (show (some (a, d)).isSome = true from rfl)] at hx
    obtain ⟨y, hy, rfl⟩ := List.mem_map.mp hx
    by_cases q : y.1 = s
    · rw [if_pos q]; exact o
    · rw [if_neg q]; exact P.ok y hy
theorem MoA.add (P : MoA H hd m) {s : Str} {a : Addr} {d : Pl} (h : lk m s = none) (na : H a = none) (k : Keeps [hd] H H') (e : H' a = some (.dK (dI d))) (eh : H' hd = some (.dK (putK (hK m) (Sum.inr s) (.ref a)))) (o : OkP d) : MoA H' hd (m ++ [(s, a, d)]) where
  held := by
    rw [eh]
    show some (HO.dK (putK (kv Sum.inr (fun e : Addr × Pl => V.ref e.1) m) (Sum.inr s) ((fun e : Addr × Pl => V.ref e.1) (a, d)))) = _
    rw [kv_put injS, pt_new _ h]
    rfl
  inner := fun x hx => by
    rcases List.mem_append.mp hx with hx | hx
    · refine k _ _ (P.inner x hx) fun z => ?_
      rw [List.mem_singleton] at z
      exact (List.nodup_cons.mp P.nodA).1 (z ▸ List.mem_map.mpr ⟨_, hx, rfl⟩)
    · rw [List.mem_singleton] at hx
      subst hx
      exact e
  nodN := by
    have := nodup_pt (b := (a, d)) P.nodN (a := s)
    rwa [pt_new _ h] at this
  nodA := by
    rw [List.map_append, ← List.cons_append, List.nodup_append]
    refine ⟨P.nodA, by simp, fun x hx y hy z => ?_⟩
    have hy' : y = a := by simpa using hy
    subst hy' z
    rcases List.mem_cons.mp hx with q | q
    · rw [q, P.held] at na; cases na
    · obtain ⟨f, hf, q⟩ := List.mem_map.mp q
      have := P.inner f hf
      rw [q, na] at this
      cases this
  ok := fun x hx => by
    rcases List.mem_append.mp hx with hx | hx
    · exact P.ok x hx
    · rw [List.mem_singleton] at hx
      subst hx
      exact o
theorem MoA.drop (P : MoA H hd m) {s : Str} (k : Keeps [hd] H H') (eh : H' hd = some (.dK (dropK (hK m) (Sum.inr s)))) : MoA H' hd (dr m s) where
  held := by rw [eh]; unfold hK; rw [kv_drop injS]
  inner := fun x hx => by
    have hx := (List.mem_filter.mp hx).1
    refine k _ _ (P.inner x hx) fun z => ?_
    rw [List.mem_singleton] at z
    exact (List.nodup_cons.mp P.nodA).1 (z ▸ List.mem_map.mpr ⟨_, hx, rfl⟩)
  nodN := nodup_dr P.nodN
  nodA := by
    have sub : (dr m s).Sublist m := List.filter_sublist
    exact List.Sublist.nodup (List.Sublist.cons_cons _ (List.Sublist.map _ sub)) P.nodA
  ok := fun x hx => P.ok x (List.mem_filter.mp hx).1
end
theorem PlA.mo {C : Addr} {H : Hp} {p dx hd : Addr} {m : Sp3} (P : PlA C H p dx hd m) : MoA H hd m := ⟨P.held, P.inner, P.nodN, P.nodA, P.ok⟩
theorem fptM_dK {H : Hp} {hd : Addr} {m : Sp3} (A : MoA H hd m) : ∀ a ∈ fpt hd m, ∃ kvs, H a = some (.dK kvs) := fun a h => by
  rcases List.mem_cons.mp h with e | e
  · exact ⟨_, e ▸ A.held⟩
  · obtain ⟨x, hx, e⟩ := List.mem_map.mp e
    exact ⟨_, e ▸ A.inner x hx⟩
end Pm
set_option maxRecDepth 100000
set_option maxHeartbeats 4000000
/-! the law's own words for names and faults -/
namespace Pm
open PySem L2
def lackL (d : Pl) (b : Int) (n : Nat) : List Int := ((List.range n).map fun i : Nat => b + (i : Int)).filter fun x => !(lk d x).isSome
def usedL (d : Pl) (b : Int) (n : Nat) : List Int := ((List.range n).map fun i : Nat => b + (i : Int)).filter fun x => (lk d x).isSome
theorem lackL_succ (d : Pl) (b : Int) (n : Nat) : lackL d b (n + 1) = lackL d b n ++ (if (lk d (b + (n : Int))).isSome = true then [] else [b + (n : Int)]) := by
  unfold lackL
  rw [List.range_succ, List.map_append, List.filter_append]
  congr 1
  cases h : lk d (b + (n : Int)) <;> simp [h]
theorem usedL_succ (d : Pl) (b : Int) (n : Nat) : usedL d b (n + 1) = usedL d b n ++ (if (lk d (b + (n : Int))).isSome = true then [b + (n : Int)] else []) := by
  unfold usedL
  rw [List.range_succ, List.map_append, List.filter_append]
  congr 1
  cases h : lk d (b + (n : Int)) <;> simp [h]
theorem lackL_head (d : Pl) (b : Int) : ∀ n, (lackL d b n).head? = lacks d b n
  | 0 => rfl
  | n + 1 => by
    rw [lackL_succ, List.head?_append, lackL_head d b n]
    show _ = (match lacks d b n with | some i => some i | none => _)
    cases lacks d b n with
    | some x => rfl
    | none => cases (lk d (b + (n : Int))).isSome <;> rfl
theorem usedL_head (d : Pl) (b : Int) : ∀ n, (usedL d b n).head? = used d b n
  | 0 => rfl
  | n + 1 => by
    rw [usedL_succ, List.head?_append, usedL_head d b n]
    show _ = (match used d b n with | some i => some i | none => _)
    cases used d b n with
    | some x => rfl
    | none => cases (lk d (b + (n : Int))).isSome <;> rfl
end Pm
namespace Bm
open PySem L2 L3 Pm
theorem eqv_nil (ds : List PyData) : PyData.eqv (.list ds) (.list []) = ds.isEmpty := by cases ds <;> rfl
/-- an error as the law's own value -/
def ErrV (H : Hp) (v : V) : Err → Prop
  | none => v = .non
  | some (w, y) => ∃ t, v = .ref t ∧ H t = some (.tup [.str w, y])
def spNewF : Sp := fun vs H Q _ => ∃ (md : Addr) (m : Sp3) (v : V), vs = [.ref md, v] ∧ H md = some (.dK (hK m)) ∧ AnyV H v ∧ Short v ∧ ∀ r H', Same H H' → ErrV H' r (newF (pur m) v) → Q r H'
def Args (H : Hp) (o : Op) : Prop := ∀ v ∈ o.args, AnyV H v ∧ Short v
def spFault : Sp := fun vs H Q _ => ∃ (md rw : Addr) (m : Sp3) (o : Op), vs = [.ref md, .ref rw] ∧ MoA H md m ∧ H rw = some (.tup o.row) ∧ Args H o ∧ ∀ r H', Same H H' → ErrV H' r (fault (pur m) o) → Q r H'
theorem in18 (n : Nat) : inV (.int n) ([1, 2, 3, 4, 5, 6, 7, 8].map V.int) = (decide (1 ≤ n) && decide (n ≤ 8)) := by
  rw [Bool.eq_iff_iff]
  simp only [inV, List.map_cons, List.map_nil, List.any_cons, List.any_nil, eqV, Bool.or_eq_true, beq_iff_eq, Bool.or_false, Bool.and_eq_true, decide_eq_true_eq, Bool.false_eq_true, or_false]
  omega
section
variable {P : Program} {w : World} {K : PySem.W.Frag} {mg : Str → Option Value} {base : Heap}
theorem scLName : FnScope ["_law_thing_here", "_law_sign"] ["_law_thing_here"] (defScope sLName) := ⟨rfl, rfl, rfl, by decide +kernel, rfl, by decide +kernel, by decide +kernel⟩
theorem ok_lname {f : Addr} {fd : FuncData} (F : Fun K "_law_is_name" "_law_is_name" sLName f fd) (T : TD K mg) : FnOk P w K mg base CX0 1 f fd ["_law_thing_here"] spName := by
  refine F.ok scLName (fun vs H Q E h => ?_) (fun cdv A outer s H vs Q E hr h => ?_)
  · obtain ⟨v, rfl, _⟩ := h
    rfl
  · obtain ⟨v, rfl, hv, sh, k⟩ := h
    obtain ⟨t, ty, h1⟩ := hv.tyT (K := K)
    refine ⟨_, (pss_cons (ps_if (PW.pt (pw_or (pt_not (pt_val (pe_callB call_isV (by rfl) T.isinstance_ PyProof.Rows.boot_isinstance (pa_cons (pv 0) (pa_cons (pe_bltn (v := .ty "str") rfl T.str_ (by decide +kernel) rfl) pa_nil))))) (pw_or1 (pt_cmpR op_notIn_seq (pe_callB call_len_str (by rfl) T.len_ PySem.boot_len (pa_cons (pv 0) pa_nil)) (pe_tup (pa_cons pe_int (pa_cons pe_int (pa_cons pe_int (pa_cons pe_int (pa_cons pe_int (pa_cons pe_int (pa_cons pe_int (pa_cons pe_int pa_nil))))))))) (by rfl)))))
        (pss_one (ps_ret pe_bl))
        pss_nil)
      (pss_one (ps_ret (pe_cmpR (op_eqD hr.units) (pe_lc (own := [("_law_sign", 1)]) (g := gName 1) rfl scLName.nd (pi_str (pv 0)) (blkOk_by (own := [("_law_sign", 1)]) (N := ["_law_thing_here", "_law_sign"]) (sc := defScope sLName) (by decide +kernel)) (fun _ _ _ _ _ => (pg_name (i := 1) scLName.nd rfl (Or.inl rfl))) (fun _ _ _ _ _ => pts_one (pt_cmpR op_notIn_sign (pv 1) pe_str (by rfl))) (fun _ _ _ _ _ => (pv 1))) (pe_lst pa_nil) (nomark _))))), ?_⟩

    refine ⟨_, rfl, _, _, _, _, _, rfl, .ty _, .base ty, h1, _, rfl, ?_⟩
    cases hv with
    | str x =>
      have hx := (sh x rfl).1
      refine iteF ?_
      refine ⟨_, rfl, x, rfl, by rw [sizeLine_eq]; omega, by show 8 ≤ sizeLine; decide, fun t8 n8 => ?_⟩
      generalize eH1 : upd H t8 _ = H1
      have s1 : Same H H1 := by rw [← eH1]; exact sameNew n8
      have a1 : H1 t8 = some (HO.tup ([1, 2, 3, 4, 5, 6, 7, 8].map V.int) : HO) := by rw [← eH1]; exact upd_same
      clear eH1
      refine ⟨t8, _, rfl, .inr (SqT.of a1), rfl, rfl, _, rfl, ?_⟩
      show if (!inV (.int (x.length : Nat)) ([1, 2, 3, 4, 5, 6, 7, 8].map V.int)) = true then _ else _
      rw [in18]
      cases c : (decide (1 ≤ x.length) && decide (x.length ≤ 8)) with
      | false =>
        have := k _ s1
        have e : nameB (.str x) = false := by
          show nameS x = false
          unfold nameS
          rw [← Bool.and_assoc, c]
          rfl
        rw [e] at this
        exact iteT this
      | true =>
        refine iteF ?_
        refine ⟨_, rfl, x, rfl, fun D nD => ?_⟩
        have nD0 := s1.free nD
        refine lc_it walk_str (fun i H2 => Same H1 H2 ∧ H2 D = some (.lst (((x.cps.toList.take i).filter fun c => !low c).map fun c => V.str ⟨#[c]⟩))) ⟨sameNew nD, upd_same⟩ (fun _ _ _ _ => True.intro) ?_ ?_
        · rintro i y H2 H3 hi ⟨s2, h2⟩ ⟨rfl, c, hc, rfl⟩
          have tk : (x.cps.toList.take (i + 1)) = x.cps.toList.take i ++ [c] := by
            rw [List.take_succ, Array.getElem?_toList, hc]
            rfl
          refine ⟨rfl, _, rfl, c, LET, rfl, rfl, _, rfl, ?_⟩
          show if (!low c) = true then _ else _
          cases lc : low c with
          | true => exact iteF ⟨s2, by rw [tk, List.filter_append]; simpa [lc] using h2⟩
          | false =>
            refine iteT ⟨_, rfl, _, h2, ?_, fun b o e => ?_, ?_⟩
            · have := List.length_filter_le (fun c => !low c) (x.cps.toList.take i)
              have := List.length_take_le i x.cps.toList
              have hi' : i < x.length := hi
              rw [List.length_map, sizeLine_eq]
              omega
            · rw [upd_ne (ne_of_none e nD)]
              exact s2 b o e
            · rw [upd_same, tk, List.filter_append, List.map_append]
              simp [lc]
        · rintro H2 ⟨s2, h2⟩
          rw [← Array.length_toList, List.take_length] at h2
          refine ⟨by decide, fun l nl => ?_⟩
          have s3 := sameNew (o := HO.lst []) nl
          have h2' : H2 D = some (.lst ((x.cps.toList.filter fun c => !low c).map fun c => V.str ⟨#[c]⟩)) := h2
          have dp : ∀ cs : List Nat, DpAll K (upd H2 l (.lst [])) (cs.map fun c => V.str ⟨#[c]⟩) (cs.map fun c => PyData.str ⟨#[c]⟩) := fun cs => by
            induction cs with
            | nil => exact .nil
            | cons c cs ih => exact .cons (.str _) ih
          have ok : ∀ c ∈ x.cps.toList, PyData.strOk ⟨#[c]⟩ = true := fun c hc => by
            have := (sh x rfl).2
            rw [Array.all_eq_true'] at this
            have := this c (Array.mem_toList_iff.mp hc)
            simpa [PyData.strOk] using this
          have cl : ∀ cs : List Nat, (∀ c ∈ cs, c ∈ x.cps.toList) → PyData.canLayAll0 (cs.map fun c => PyData.str ⟨#[c]⟩) = true ∧ PyData.depthAll (cs.map fun c => PyData.str ⟨#[c]⟩) = 0 := fun cs => by
            induction cs with
            | nil => exact fun _ => ⟨rfl, rfl⟩
            | cons c cs ih =>
              intro h
              have ih := ih fun c hc => h c (List.mem_cons_of_mem _ hc)
              simp [PyData.canLayAll0, PyData.canLay0, PyData.depthAll, PyData.depth, ih.1, ih.2, ok c (h c List.mem_cons_self)]
          refine ⟨.list ((x.cps.toList.filter fun c => !low c).map fun c => PyData.str ⟨#[c]⟩), .list [], .lst (SqL.of (s3 _ _ h2')) (dp _), .lst (SqL.of upd_same) .nil, ?_, rfl, ?_⟩
          · have q := cl (x.cps.toList.filter fun c => !low c) fun c hc => (List.mem_filter.mp hc).1
            simp [SeqAt.shaped, PyData.canLay0, PyData.depth, q.1, q.2]
          · rw [eqv_nil]
            have := k _ ((s1.trans s2).trans s3)
            have e : nameB (.str x) = ((x.cps.toList.filter fun c => !low c).map fun c => PyData.str ⟨#[c]⟩).isEmpty := by
              show nameS x = _
              unfold nameS
              rw [← Bool.and_assoc, c, Bool.true_and]
              rw [Bool.eq_iff_iff, List.isEmpty_iff, List.map_eq_nil_iff, List.filter_eq_nil_iff, List.all_eq_true]
              simp
            rw [e] at this
            exact this
    | _ => exact iteT (k H (Same.refl _))
end
end Bm
set_option maxRecDepth 100000
set_option maxHeartbeats 4000000
/-! why an operation can't be done, by the law -/
namespace Bm
open PySem L2 L3 Pm
theorem dp_ints {K : PySem.W.Frag} {H : Hp} : ∀ ns : List Int, DpAll K H (ns.map V.int) (ns.map PyData.int)
  | [] => .nil
  | n :: ns => .cons (.int n) (dp_ints ns)
theorem lackL_len (d : Pl) (b : Int) (n : Nat) : (lackL d b n).length ≤ n := by
  have := List.length_filter_le (fun x => !(lk d x).isSome) ((List.range n).map fun i : Nat => b + (i : Int))
  rwa [List.length_map, List.length_range] at this
theorem usedL_len (d : Pl) (b : Int) (n : Nat) : (usedL d b n).length ≤ n := by
  have := List.length_filter_le (fun x => (lk d x).isSome) ((List.range n).map fun i : Nat => b + (i : Int))
  rwa [List.length_map, List.length_range] at this
abbrev er (w : Str) (y : V) : Err := some (w, y)
theorem sN {x y : Str} {A B : Prop} (h : (x == y) = false) (b : B) : if decide (V.str x = V.str y) = true then A else B := by
  rw [if_neg]
  · exact b
  · intro z
    have := of_decide_eq_true z
    cases this
    simp at h
theorem sY {x : Str} {A B : Prop} (a : A) : if decide (V.str x = V.str x) = true then A else B := by
  rw [decide_eq_true rfl]
  exact iteT a
theorem nN {x y : Str} {A B : Prop} (h : (x == y) = false) (a : A) : if (!decide (V.str x = V.str y)) = true then A else B := by
  have : decide (V.str x = V.str y) = false := by
    rw [decide_eq_false_iff_not]
    intro z
    cases z
    simp at h
  rw [this]
  exact iteT a
theorem nY {x : Str} {A B : Prop} (b : B) : if (!decide (V.str x = V.str x)) = true then A else B := by
  rw [decide_eq_true rfl]
  exact iteF b
theorem bT {b : Bool} {A B : Prop} (h : b = true) (a : A) : if b = true then A else B := by rw [if_pos h]; exact a
theorem bF {b : Bool} {A B : Prop} (h : b = false) (x : B) : if b = true then A else B := by rw [h]; exact iteF x
theorem errv_name {H : Hp} {t : Addr} {w : Str} {y : V} (h : H t = some (.tup [.str w, y])) : ErrV H (.ref t) (er w y) := ⟨t, rfl, h⟩
section
variable {P : Program} {w : World} {K : PySem.W.Frag} {mg : Str → Option Value} {base : Heap}
theorem scNewF : FnScope ["_law_model", "_law_thing_here"] ["_law_model", "_law_thing_here"] (defScope sNewF) := ⟨rfl, rfl, rfl, by decide +kernel, rfl, by decide +kernel, by decide +kernel⟩
theorem ok_newf {f : Addr} {fd : FuncData} (F : Fun K "_law_new_fault" "_law_new_fault" sNewF f fd) (HN : Has P w K mg base CX0 1 "_law_is_name" ["_law_thing_here"] spName) : FnOk P w K mg base CX0 2 f fd ["_law_model", "_law_thing_here"] spNewF := by
  obtain ⟨fN, fdN, GN, mN, kN, bN⟩ := HN
  refine F.ok scNewF (fun vs H Q E h => ?_) (fun cdv A outer s H vs Q E hr h => ?_)
  · obtain ⟨md, m, v, rfl, _⟩ := h
    rfl
  · obtain ⟨md, m, v, rfl, hM, hv, sh, k⟩ := h
    have hu := hu_of hr
    refine ⟨_, (pss_cons (ps_if (pt_not (pt_val (pe_call GN hr rfl mN kN bN .nil pass0 (pa_cons (pv 1) pa_nil))))
        (pss_one (ps_ret (pe_tup (pa_cons pe_str (pa_cons pe_non pa_nil)))))
        pss_nil)
      (pss_one (ps_ret (pe_ifExp (pt_cmp (pc_din hu (pv 1) (pv 0))) (pe_tup (pa_cons pe_str (pa_cons (pv 1) pa_nil))) pe_non)))), ?_⟩

    refine ⟨_, rfl, v, rfl, hv, sh, fun H1 s1 => ⟨_, rfl, ?_⟩⟩
    cases e : nameB v with
    | false =>
      refine iteT ⟨by show 2 ≤ sizeLine; decide, fun t nt => k _ _ (s1.trans (sameNew nt)) ?_⟩
      have z : newF (pur m) v = er "name" (.non) := by
        cases v <;> first | rfl | skip
        show (if nameS _ = true then _ else _) = _
        rw [if_neg (by rw [show nameS _ = false from e]; simp)]
      rw [z]
      exact errv_name upd_same
    | true =>
      obtain ⟨x, rfl⟩ : ∃ x, v = .str x := by cases v <;> simp [nameB] at e <;> exact ⟨_, rfl⟩
      have e' : nameS x = true := e
      refine iteF ?_
      refine ⟨_, rfl, _, rfl, md, _, rfl, DGet.k (k := Sum.inr x) (s1 _ _ hM), _, rfl, ?_⟩
      have z : newF (pur m) (.str x) = if (lk m x).isSome = true then er "taken" (.str x) else none := by
        show (if nameS x = true then _ else _) = _
        rw [if_pos e', pur_lk]
        cases lk m x <;> rfl
      rw [hK_val]
      cases q : lk m x with
      | none =>
        rw [q] at z
        refine iteF (k _ _ s1 ?_)
        rw [z]
        rfl
      | some y =>
        rw [q] at z
        refine iteT ⟨_, rfl, by show 2 ≤ sizeLine; decide, fun t nt => k _ _ (s1.trans (sameNew nt)) ?_⟩
        rw [z]
        exact errv_name upd_same
theorem scFault : FnScope ["_law_model", "_law_row_here", "_law_word", "_law_title", "_law_inside", "_law_is_bad", "_law_lacking", "_law_spot", "_law_goal", "_law_used"] ["_law_model", "_law_row_here"] (defScope sFault) := ⟨rfl, rfl, rfl, by decide +kernel, rfl, by decide +kernel, by decide +kernel⟩
theorem ok_fault {f : Addr} {fd : FuncData} (F : Fun K "_law_fault" "_law_fault" sFault f fd) (T : TD K mg) (range_ : mg "range" = none) (HF : Has P w K mg base CX0 2 "_law_new_fault" ["_law_model", "_law_thing_here"] spNewF) (HW : Has P w K mg base CX0 1 "_law_is_whole" ["_law_thing_here"] spIsInt)
    (HS : Has P w K mg base CX0 2 "_law_is_stretch" ["_law_first", "_law_size"] spLS) : FnOk P w K mg base CX0 3 f fd ["_law_model", "_law_row_here"] spFault := by
  obtain ⟨fF, fdF, GF, mF, kF, bF_⟩ := HF
  obtain ⟨fW, fdW, GW, mW, kW, bW⟩ := HW
  obtain ⟨fS, fdS, GS, mS, kS, bS⟩ := HS
  refine F.ok scFault (fun vs H Q E h => ?_) (fun cdv A outer s H vs Q E hr h => ?_)
  · obtain ⟨md, rw_, m, o, rfl, _⟩ := h
    rfl
  · obtain ⟨md, rw_, m, o, rfl, hM, hrw, ha, k⟩ := h
    have hu := hu_of hr
    have hr1 := hr.mono (show 1 ≤ 2 by decide)
    refine ⟨_, (pss_cons (ps_par (i := 2) (j := 3) (by rfl) scFault.nd rfl rfl (by decide) rfl rfl (pa_cons (pe_ix ix_tup (pv 1) pe_int (fun _ _ => rfl)) (pa_cons (pe_ix ix_tup (pv 1) pe_int (fun _ _ => rfl)) pa_nil)) (by rfl))
      (pss_cons (ps_if (pt_cmpR op_eq (pv 2) pe_str (nomark _))
        (pss_one (ps_ret (pe_call GF hr rfl mF kF bF_ .nil pass0 (pa_cons (pv 0) (pa_cons (pv 3) pa_nil)))))
        pss_nil)
      (pss_cons (ps_if (PW.pt (pw_or (pt_not (pt_val (pe_callB call_isV (by rfl) T.isinstance_ PyProof.Rows.boot_isinstance (pa_cons (pv 3) (pa_cons (pe_bltn (v := .ty "str") rfl T.str_ (by decide +kernel) rfl) pa_nil))))) (pw_or1 (pt_cmp (pc_dnotin hu (pv 3) (pv 0))))))
        (pss_one (ps_ret (pe_tup (pa_cons pe_str (pa_cons (pv 3) pa_nil)))))
        pss_nil)
      (pss_cons (ps_set (i := 4) scFault.nd rfl (Or.inr rfl) (pe_dget hu (pv 0) (pv 3) (fun _ _ => rfl)))
      (pss_cons (ps_if (pt_cmpR op_in_seq (pv 2) (pe_tup (pa_cons pe_str (pa_cons pe_str pa_nil))) (by rfl))
        (pss_one (ps_ret pe_non))
        pss_nil)
      (pss_cons (ps_if (pt_cmpR op_eq (pv 2) pe_str (nomark _))
        (pss_one (ps_ret (pe_call GF hr rfl mF kF bF_ .nil pass0 (pa_cons (pv 0) (pa_cons (pe_ix ix_tup (pv 1) pe_int (fun _ _ => rfl)) pa_nil)))))
        pss_nil)
      (pss_cons (ps_if (pt_cmpR op_in_seq (pv 2) (pe_tup (pa_cons pe_str (pa_cons pe_str pa_nil))) (by rfl))
        (pss_cons (ps_if (PW.pt (pw_or (pt_not (pt_val (pe_call GW hr1 rfl mW kW bW .nil pass0 (pa_cons (pe_ix ix_tup (pv 1) pe_int (fun _ _ => rfl)) pa_nil)))) (pw_or1 (pt_cmp (pc_dnotin hu (pe_ix ix_tup (pv 1) pe_int (fun _ _ => rfl)) (pv 4))))))
            (pss_one (ps_ret (pe_tup (pa_cons pe_str (pa_cons (pe_ix ix_tup (pv 1) pe_int (fun _ _ => rfl)) pa_nil)))))
            pss_nil)
          (pss_cons (ps_set (i := 5) scFault.nd rfl (Or.inl rfl) (pe_and (pe_cmpR op_eq (pv 2) pe_str (nomark _)) (pe_one (pe_or (pe_not (pe_call GW hr1 rfl mW kW bW .nil pass0 (pa_cons (pe_ix ix_tup (pv 1) pe_int (fun _ _ => rfl)) pa_nil))) (pe_or (pe_cmpR op_lt (pe_ix ix_tup (pv 1) pe_int (fun _ _ => rfl)) pe_int (nomark _)) (pe_one (pe_cmpR op_gt (pe_ix ix_tup (pv 1) pe_int (fun _ _ => rfl)) pe_int (nomark _))))))))
          (pss_one (ps_ret (pe_ifExp (pt_val (pv 5)) (pe_tup (pa_cons pe_str (pa_cons pe_non pa_nil))) pe_non)))))
        pss_nil)
      (pss_cons (ps_if (PW.pt (pw_or (pt_not (pt_val (pe_call GS hr rfl mS kS bS .nil pass0 (pa_cons (pe_ix ix_tup (pv 1) pe_int (fun _ _ => rfl)) (pa_cons (pe_ix ix_tup (pv 1) pe_int (fun _ _ => rfl)) pa_nil))))) (pw_or1 (PW.pt (pw_and (pt_cmpR op_eq (pv 2) pe_str (nomark _)) (pw_and1 (pt_not (pt_val (pe_call GS hr rfl mS kS bS .nil pass0 (pa_cons (pe_ix ix_tup (pv 1) pe_int (fun _ _ => rfl)) (pa_cons (pe_ix ix_tup (pv 1) pe_int (fun _ _ => rfl)) pa_nil)))))))))))
        (pss_one (ps_ret (pe_tup (pa_cons pe_str (pa_cons pe_non pa_nil)))))
        pss_nil)
      (pss_cons (ps_setLc (i := 6) (own := [("_law_spot", 7)]) (g := gName 7) rfl scFault.nd rfl rfl (sw_true rfl rfl rfl (by decide +kernel)) (pi_range2 rfl range_ (pa_cons (pe_ix ix_tup (pv 1) pe_int (fun _ _ => rfl)) (pa_cons (pe_op op_add (pe_ix ix_tup (pv 1) pe_int (fun _ _ => rfl)) (pe_ix ix_tup (pv 1) pe_int (fun _ _ => rfl))) pa_nil))) (blkOk_by (own := [("_law_spot", 7)]) (N := ["_law_model", "_law_row_here", "_law_word", "_law_title", "_law_inside", "_law_is_bad", "_law_lacking", "_law_spot", "_law_goal", "_law_used"]) (sc := defScope sFault) (by decide +kernel)) (fun _ _ _ _ _ => (pg_name (i := 7) scFault.nd rfl (Or.inl rfl))) (fun _ _ _ _ _ => pts_one (pt_cmp (pc_dnotin hu (pv 7) (pv 4)))) (fun _ _ _ _ _ => (pv 7)))
      (pss_cons (ps_if (PW.pt (pw_and (pt_cmpR op_eq (pv 2) pe_str (nomark _)) (pw_and1 (pt_cmpR (op_neD hr.units) (pv 6) (pe_lst pa_nil) (nomark _)))))
        (pss_one (ps_ret (pe_tup (pa_cons pe_str (pa_cons (pe_ix ix_list (pv 6) pe_int (fun _ _ => rfl)) pa_nil)))))
        pss_nil)
      (pss_cons (ps_set (i := 8) scFault.nd rfl (Or.inl rfl) (pe_ifExp (pt_cmpR op_eq (pv 2) pe_str (nomark _)) (pe_ix ix_tup (pv 1) pe_int (fun _ _ => rfl)) (pe_ix ix_tup (pv 1) pe_int (fun _ _ => rfl))))
      (pss_cons (ps_setLc (i := 9) (own := [("_law_spot", 7)]) (g := gName 7) rfl scFault.nd rfl rfl (sw_true rfl rfl rfl (by decide +kernel)) (pi_range2 rfl range_ (pa_cons (pv 8) (pa_cons (pe_op op_add (pv 8) (pe_ix ix_tup (pv 1) pe_int (fun _ _ => rfl))) pa_nil))) (blkOk_by (own := [("_law_spot", 7)]) (N := ["_law_model", "_law_row_here", "_law_word", "_law_title", "_law_inside", "_law_is_bad", "_law_lacking", "_law_spot", "_law_goal", "_law_used"]) (sc := defScope sFault) (by decide +kernel)) (fun _ _ _ _ _ => (pg_name (i := 7) scFault.nd rfl (Or.inl rfl))) (fun _ _ _ _ _ => pts_one (pt_cmp (pc_din hu (pv 7) (pv 4)))) (fun _ _ _ _ _ => (pv 7)))
      (pss_one (ps_ret (pe_ifExp (PW.pt (pw_and (pt_cmpR op_ne (pv 2) pe_str (nomark _)) (pw_and1 (pt_cmpR (op_neD hr.units) (pv 9) (pe_lst pa_nil) (nomark _))))) (pe_tup (pa_cons pe_str (pa_cons (pe_ix ix_list (pv 9) pe_int (fun _ _ => rfl)) pa_nil))) pe_non))))))))))))))), ?_⟩

    have hrw : H rw_ = some (.tup (.str o.word :: o.title :: o.more)) := hrw
    refine ⟨_, rfl, _, _, _, _, rfl, rfl, SqT.of hrw, (show atI _ ((0 : Nat) : Int) = some _ from atI_nat rfl), _, rfl, _, _, _, _, rfl, rfl, SqT.of hrw, (show atI _ ((1 : Nat) : Int) = some _ from atI_nat rfl), _, _, rfl, ?_⟩
    have hy := ha _ List.mem_cons_self
    by_cases c : ∃ y, o = .add y
    · obtain ⟨y, rfl⟩ := c
      refine ⟨_, rfl, rfl, _, rfl, sY ?_⟩
      exact ⟨_, rfl, _, rfl, md, m, y, rfl, hM.held, hy.1, hy.2, fun r H' s1 e => k r H' s1 e⟩
    · have wn : (o.word == ("add" : Str)) = false := by
        cases o <;> first | exact absurd ⟨_, rfl⟩ c | (simp only [Op.word]; decide +kernel)
      refine ⟨_, rfl, rfl, _, rfl, sN wn ?_⟩
      have bad : (∀ s, o.title = .str s → lk m s = none) → fault (pur m) o = er "space" (o.title) := fun h => by
        have z : ∀ f, inSp (pur m) o.title f = er "space" (o.title) := fun f => by
          unfold inSp
          cases q : o.title <;> first | rfl | skip
          have := h _ q
          show (match lk (pur m) _ with | none => _ | some d => _) = _
          rw [pur_lk, this]
          rfl
        cases o <;> first | exact absurd ⟨_, rfl⟩ c | exact z _
      obtain ⟨t, ty, h1⟩ := hy.1.tyT (K := K)
      refine ⟨_, rfl, _, _, _, _, _, rfl, .ty _, .base ty, h1, _, rfl, ?_⟩
      have no : (∀ s, o.title = .str s → lk m s = none) → ∀ H1, Same H H1 → ∀ t, H1 t = none → Q (.ref t) (upd H1 t (.tup [.str "space", o.title])) := fun h H1 s1 t nt => k _ _ (s1.trans (sameNew nt)) (by rw [bad h]; exact errv_name upd_same)
      cases ev : o.title with
      | str s =>
        refine iteF ?_
        refine ⟨_, rfl, _, rfl, md, _, rfl, DGet.k (k := Sum.inr s) hM.held, _, rfl, ?_⟩
        rw [hK_val]
        cases q : lk m s with
        | none =>
          refine iteT ⟨_, rfl, by show 2 ≤ sizeLine; decide, fun t nt => ?_⟩
          have := no (fun s' e' => by rw [ev] at e'; cases e'; exact q) H (Same.refl _) t nt
          rw [ev] at this
          exact this
        | some e =>
          obtain ⟨a, d⟩ := e
          have inspe : ∀ f, inSp (pur m) o.title f = f d := fun f => by
            rw [ev]
            show (match lk (pur m) s with | none => _ | some d => _) = _
            rw [pur_lk, q]
            rfl
          have hK2 := DGet.k (k := Sum.inr s) hM.held
          rw [hK_val, q] at hK2
          have hd := hM.at q
          refine iteF ⟨_, rfl, _, rfl, md, .ref a, rfl, hK2, ?_⟩
          clear bad no
          cases o with
          | add y => exact absurd ⟨_, rfl⟩ c
          | drop y =>
            refine ⟨_, rfl, by show 2 ≤ sizeLine; decide, fun t1 n1 => ?_⟩
            generalize eH_1 : upd H t1 _ = H_1
            have s1 : Same H H_1 := by rw [← eH_1]; exact sameNew n1
            have a1 : H_1 t1 = some (HO.tup [V.str "drop", V.str "places"] : HO) := by rw [← eH_1]; exact upd_same
            clear eH_1
            refine ⟨t1, _, rfl, .inr (SqT.of a1), rfl, rfl, _, rfl, bT (by simp only [Op.word]; decide +kernel) ?_⟩

            exact k _ _ s1 (by rw [show fault (pur m) (.drop y) = none from inspe _]; rfl)
          | places y =>
            refine ⟨_, rfl, by show 2 ≤ sizeLine; decide, fun t1 n1 => ?_⟩
            generalize eH_1 : upd H t1 _ = H_1
            have s1 : Same H H_1 := by rw [← eH_1]; exact sameNew n1
            have a1 : H_1 t1 = some (HO.tup [V.str "drop", V.str "places"] : HO) := by rw [← eH_1]; exact upd_same
            clear eH_1
            refine ⟨t1, _, rfl, .inr (SqT.of a1), rfl, rfl, _, rfl, bT (by simp only [Op.word]; decide +kernel) ?_⟩

            exact k _ _ s1 (by rw [show fault (pur m) (.places y) = none from inspe _]; rfl)
          | fork y z =>
            refine ⟨_, rfl, by show 2 ≤ sizeLine; decide, fun t1 n1 => ?_⟩
            generalize eH_1 : upd H t1 _ = H_1
            have s1 : Same H H_1 := by rw [← eH_1]; exact sameNew n1
            have a1 : H_1 t1 = some (HO.tup [V.str "drop", V.str "places"] : HO) := by rw [← eH_1]; exact upd_same
            clear eH_1
            refine ⟨t1, _, rfl, .inr (SqT.of a1), rfl, rfl, _, rfl, bF (by simp only [Op.word]; decide +kernel) ?_⟩

            refine ⟨_, rfl, rfl, _, rfl, sY ?_⟩
            have hz := ha z (by simp [Op.args, Op.more])
            refine ⟨_, rfl, _, rfl, _, _, _, _, rfl, rfl, SqT.of (s1 _ _ hrw), rfl, md, m, z, rfl, (hM.same s1).held, hz.1.same s1, hz.2, fun r H' s e => k r H' (s1.trans s) ?_⟩
            rw [show fault (pur m) (.fork y z) = newF (pur m) z from inspe _]
            exact e
          | read y z =>
            refine ⟨_, rfl, by show 2 ≤ sizeLine; decide, fun t1 n1 => ?_⟩
            generalize eH_1 : upd H t1 _ = H_1
            have s1 : Same H H_1 := by rw [← eH_1]; exact sameNew n1
            have a1 : H_1 t1 = some (HO.tup [V.str "drop", V.str "places"] : HO) := by rw [← eH_1]; exact upd_same
            clear eH_1
            refine ⟨t1, _, rfl, .inr (SqT.of a1), rfl, rfl, _, rfl, bF (by simp only [Op.word]; decide +kernel) ?_⟩

            refine ⟨_, rfl, rfl, _, rfl, sN (by simp only [Op.word]; decide +kernel) ?_⟩
            refine ⟨_, rfl, by show 2 ≤ sizeLine; decide, fun t2 n2 => ?_⟩
            generalize eH_2 : upd H_1 t2 _ = H_2
            have s2 : Same H_1 H_2 := by rw [← eH_2]; exact sameNew n2
            have a2 : H_2 t2 = some (HO.tup [V.str "read", V.str "write"] : HO) := by rw [← eH_2]; exact upd_same
            clear eH_2
            refine ⟨t2, _, rfl, .inr (SqT.of a2), rfl, rfl, _, rfl, bT (by simp only [Op.word]; decide +kernel) ?_⟩

            have s02 := s1.trans s2
            have hr2 := s02 _ _ hrw
            have hd2 := s02 _ _ hd.1
            have hz := (ha z (by simp [Op.args, Op.more])).1.same s02
            have fe : fault (pur m) (.read y z) = plF d z := inspe _
            refine ⟨_, rfl, _, _, _, _, rfl, rfl, SqT.of hr2, rfl, z, rfl, hz, _, rfl, ?_⟩
            cases hz with
            | int i =>
              refine iteF ?_
              refine ⟨_, rfl, _, _, _, _, rfl, rfl, SqT.of hr2, rfl, _, rfl, a, _, rfl, DGet.k (k := Sum.inl i) hd2, _, rfl, ?_⟩
              rw [dI_val]
              cases el : lk d i with
              | none =>
                refine iteT ⟨_, rfl, _, _, _, _, rfl, rfl, SqT.of hr2, rfl, by show 2 ≤ sizeLine; decide, fun t nt => k _ _ (s02.trans (sameNew nt)) ?_⟩
                rw [fe, show plF d (.int i) = er "place" (.int i) from by show (if (lk d i).isSome = true then _ else _) = _; rw [el]; rfl]
                exact errv_name upd_same
              | some x =>
                refine iteF ?_
                refine ⟨_, rfl, rfl, _, rfl, sN (by simp only [Op.word]; decide +kernel) ⟨_, rfl, _, rfl, iteF (k _ _ s02 ?_)⟩⟩
                rw [fe, show plF d (.int i) = none from by show (if (lk d i).isSome = true then _ else _) = _; rw [el]; rfl]
                rfl
            | _ =>
              refine iteT (iteT ⟨_, rfl, _, _, _, _, rfl, rfl, SqT.of hr2, rfl, by show 2 ≤ sizeLine; decide, fun t nt => k _ _ (s02.trans (sameNew nt)) ?_⟩)
              rw [fe]
              exact errv_name upd_same
          | write y z v =>
            refine ⟨_, rfl, by show 2 ≤ sizeLine; decide, fun t1 n1 => ?_⟩
            generalize eH_1 : upd H t1 _ = H_1
            have s1 : Same H H_1 := by rw [← eH_1]; exact sameNew n1
            have a1 : H_1 t1 = some (HO.tup [V.str "drop", V.str "places"] : HO) := by rw [← eH_1]; exact upd_same
            clear eH_1
            refine ⟨t1, _, rfl, .inr (SqT.of a1), rfl, rfl, _, rfl, bF (by simp only [Op.word]; decide +kernel) ?_⟩

            refine ⟨_, rfl, rfl, _, rfl, sN (by simp only [Op.word]; decide +kernel) ?_⟩
            refine ⟨_, rfl, by show 2 ≤ sizeLine; decide, fun t2 n2 => ?_⟩
            generalize eH_2 : upd H_1 t2 _ = H_2
            have s2 : Same H_1 H_2 := by rw [← eH_2]; exact sameNew n2
            have a2 : H_2 t2 = some (HO.tup [V.str "read", V.str "write"] : HO) := by rw [← eH_2]; exact upd_same
            clear eH_2
            refine ⟨t2, _, rfl, .inr (SqT.of a2), rfl, rfl, _, rfl, bT (by simp only [Op.word]; decide +kernel) ?_⟩

            have s02 := s1.trans s2
            have hr2 := s02 _ _ hrw
            have hd2 := s02 _ _ hd.1
            have hz := (ha z (by simp [Op.args, Op.more])).1.same s02
            have hv := (ha v (by simp [Op.args, Op.more])).1.same s02
            have fe : fault (pur m) (.write y z v) = (plF d z).or (if isC v = true then none else er "value" .non) := inspe _
            refine ⟨_, rfl, _, _, _, _, rfl, rfl, SqT.of hr2, rfl, z, rfl, hz, _, rfl, ?_⟩
            cases hz with
            | int i =>
              refine iteF ?_
              refine ⟨_, rfl, _, _, _, _, rfl, rfl, SqT.of hr2, rfl, _, rfl, a, _, rfl, DGet.k (k := Sum.inl i) hd2, _, rfl, ?_⟩
              rw [dI_val]
              cases el : lk d i with
              | none =>
                refine iteT ⟨_, rfl, _, _, _, _, rfl, rfl, SqT.of hr2, rfl, by show 2 ≤ sizeLine; decide, fun t nt => k _ _ (s02.trans (sameNew nt)) ?_⟩
                rw [fe, show plF d (.int i) = er "place" (.int i) from by show (if (lk d i).isSome = true then _ else _) = _; rw [el]; rfl]
                exact errv_name upd_same
              | some x =>
                have pl : plF d (.int i) = none := by
                  show (if (lk d i).isSome = true then _ else _) = _
                  rw [el]
                  rfl
                rw [pl] at fe
                refine iteF ?_
                refine ⟨_, rfl, rfl, _, rfl, sY ?_⟩
                refine ⟨_, rfl, _, _, _, _, rfl, rfl, SqT.of hr2, rfl, v, rfl, hv, _, rfl, _, rfl, ?_⟩
                have bad : isC v = false → ∀ tp, H_2 tp = none → Q (.ref tp) (upd H_2 tp (.tup [.str "value", .non])) := fun hc tp np => k _ _ (s02.trans (sameNew np)) (by
                  rw [fe, hc]
                  exact errv_name upd_same)
                cases hv with
                | int x =>
                  refine iteF ?_
                  refine ⟨_, rfl, _, _, _, _, rfl, rfl, SqT.of hr2, rfl, _, _, rfl, rfl, _, rfl, ite2 (fun c1 => ?_) (fun c1 => ?_)⟩
                  · have c1' : x < 0 := of_decide_eq_true c1
                    exact ⟨_, rfl, _, rfl, iteT ⟨by show 2 ≤ sizeLine; decide, bad (by show (decide (0 ≤ x) && _) = false; rw [decide_eq_false (by omega)]; rfl)⟩⟩
                  · have c1' : ¬ x < 0 := fun z => c1 (decide_eq_true z)
                    refine ⟨_, rfl, _, _, _, _, rfl, rfl, SqT.of hr2, rfl, _, _, rfl, rfl, _, rfl, _, rfl, ite2 (fun c2 => ?_) (fun c2 => ?_)⟩
                    · have c2' : x > 1000000 := of_decide_eq_true c2
                      exact ⟨by show 2 ≤ sizeLine; decide, bad (by show (_ && decide (x ≤ 1000000)) = false; rw [decide_eq_false (p := x ≤ 1000000) (by omega), Bool.and_false])⟩
                    · have c2' : ¬ x > 1000000 := fun z => c2 (decide_eq_true z)
                      refine k _ _ s02 ?_
                      rw [fe, show isC (.int x) = true from by show (decide (0 ≤ x) && decide (x ≤ 1000000)) = true; rw [decide_eq_true (by omega), decide_eq_true (by omega)]; rfl]
                      rfl
                | _ => exact iteT ⟨_, rfl, _, rfl, iteT ⟨by show 2 ≤ sizeLine; decide, bad rfl⟩⟩
            | _ =>
              refine iteT (iteT ⟨_, rfl, _, _, _, _, rfl, rfl, SqT.of hr2, rfl, by show 2 ≤ sizeLine; decide, fun t nt => k _ _ (s02.trans (sameNew nt)) ?_⟩)
              rw [fe]
              exact errv_name upd_same
          | map y b n =>
            refine ⟨_, rfl, by show 2 ≤ sizeLine; decide, fun t1 n1 => ?_⟩
            generalize eH_1 : upd H t1 _ = H_1
            have s1 : Same H H_1 := by rw [← eH_1]; exact sameNew n1
            have a1 : H_1 t1 = some (HO.tup [V.str "drop", V.str "places"] : HO) := by rw [← eH_1]; exact upd_same
            clear eH_1
            refine ⟨t1, _, rfl, .inr (SqT.of a1), rfl, rfl, _, rfl, bF (by simp only [Op.word]; decide +kernel) ?_⟩
            refine ⟨_, rfl, rfl, _, rfl, sN (by simp only [Op.word]; decide +kernel) ?_⟩
            refine ⟨_, rfl, by show 2 ≤ sizeLine; decide, fun t2 n2 => ?_⟩
            generalize eH_2 : upd H_1 t2 _ = H_2
            have s2 : Same H_1 H_2 := by rw [← eH_2]; exact sameNew n2
            have a2 : H_2 t2 = some (HO.tup [V.str "read", V.str "write"] : HO) := by rw [← eH_2]; exact upd_same
            clear eH_2
            refine ⟨t2, _, rfl, .inr (SqT.of a2), rfl, rfl, _, rfl, bF (by simp only [Op.word]; decide +kernel) ?_⟩
            have s02 := s1.trans s2
            have hr2 := s02 _ _ hrw
            have hd2 := s02 _ _ hd.1
            have hb := ha b (by simp [Op.args, Op.more])
            have hn := ha n (by simp [Op.args, Op.more])
            refine ⟨_, rfl, _, _, _, _, rfl, rfl, SqT.of hr2, rfl, _, rfl, _, _, _, _, rfl, rfl, SqT.of hr2, rfl, b, n, rfl, hb.1.same s02, hn.1.same s02, _, rfl, ?_⟩
            cases eS : isS b n with
            | false =>
              refine iteT (iteT ?_)
              refine ⟨by show 2 ≤ sizeLine; decide, fun tp np => k _ _ (s02.trans (sameNew np)) ?_⟩
              rw [show fault (pur m) (.map y b n) = er "area" .non from by
                refine (inspe _).trans ?_
                rw [if_neg (by rw [eS]; simp)]]
              exact errv_name upd_same
            | true =>
              refine iteF ?_
              refine ⟨_, rfl, rfl, _, rfl, sN (by simp only [Op.word]; decide +kernel) (iteF ?_)⟩
              obtain ⟨i, j, rfl, rfl, i0, j1, ij⟩ := isS_begins eS
              have fe' : fault (pur m) (.map y (.int i) (.int j)) = usF d (.int i) (.int j) := (inspe _).trans (if_pos eS)
              refine ⟨_, rfl, _, _, _, _, rfl, rfl, SqT.of hr2, rfl, _, rfl, _, _, _, _, rfl, rfl, SqT.of hr2, rfl, _, rfl, _, _, _, _, rfl, rfl, SqT.of hr2, rfl, _, _, rfl, rfl, i, i + j, rfl, ⟨by omega, by omega, by omega, by omega⟩, fun D3 nD3 => ?_⟩
              refine lc_it walk_range (fun q G => Same H_2 G ∧ G D3 = some (.lst ((lackL d i q).map V.int))) ⟨sameNew nD3, by rw [upd_same]; rfl⟩ (fun _ _ _ _ => True.intro) (fun q x G G' hq hG hy => ?_) (fun H_3 hG3 => ?_)
              · obtain ⟨sg, hg⟩ := hG
                obtain ⟨rfl, rfl⟩ := hy
                refine ⟨rfl, _, rfl, _, rfl, a, _, rfl, DGet.k (k := Sum.inl (i + (q : Int))) (sg _ _ hd2), _, rfl, ?_⟩
                rw [dI_val]
                have few := lackL_len d i q
                have fresh : ∀ b o, H_2 b = some o → b ≠ D3 := fun b o eo => ne_of_none eo nD3
                cases e : lk d (i + (q : Int)) with
                | some x => exact iteF ⟨sg, by rw [lackL_succ, e]; simpa using hg⟩
                | none => exact iteT ⟨_, rfl, _, hg, by rw [List.length_map, sizeLine_eq]; omega, fun b o eo => by rw [upd_ne (fresh b o eo)]; exact sg b o eo, by rw [upd_same, lackL_succ, e, List.map_append]; rfl⟩
              obtain ⟨s3, a3⟩ := hG3
              rw [show (i + j - i).toNat = j.toNat by omega] at a3
              have s03 := s02.trans s3
              have hr3 := s03 _ _ hrw
              have hL := lackL_head d i j.toNat
              refine ⟨_, rfl, rfl, _, rfl, sN (by simp only [Op.word]; decide +kernel) (iteF ?_)⟩
              refine ⟨_, rfl, rfl, _, rfl, sN (by simp only [Op.word]; decide +kernel) ?_⟩
              refine ⟨_, rfl, _, _, _, _, rfl, rfl, SqT.of hr3, rfl, ?_⟩
              have hd3 := s03 _ _ hd.1
              refine ⟨_, rfl, _, rfl, _, rfl, _, _, _, _, rfl, rfl, SqT.of hr3, rfl, _, _, rfl, rfl, i, i + j, rfl, ⟨by omega, by omega, by omega, by omega⟩, fun D5 nD5 => ?_⟩
              refine lc_it walk_range (fun q G => Same H_3 G ∧ G D5 = some (.lst ((usedL d i q).map V.int))) ⟨sameNew nD5, by rw [upd_same]; rfl⟩ (fun _ _ _ _ => True.intro) (fun q x G G' hq hG hy => ?_) (fun H_5 hG5 => ?_)
              · obtain ⟨sg, hg⟩ := hG
                obtain ⟨rfl, rfl⟩ := hy
                refine ⟨rfl, _, rfl, _, rfl, a, _, rfl, DGet.k (k := Sum.inl (i + (q : Int))) (sg _ _ hd3), _, rfl, ?_⟩
                rw [dI_val]
                have few := usedL_len d i q
                have fresh : ∀ b o, H_3 b = some o → b ≠ D5 := fun b o eo => ne_of_none eo nD5
                cases e : lk d (i + (q : Int)) with
                | some x => exact iteT ⟨_, rfl, _, hg, by rw [List.length_map, sizeLine_eq]; omega, fun b o eo => by rw [upd_ne (fresh b o eo)]; exact sg b o eo, by rw [upd_same, usedL_succ, e, List.map_append]; rfl⟩
                | none => exact iteF ⟨sg, by rw [usedL_succ, e]; simpa using hg⟩
              obtain ⟨s5, a5⟩ := hG5
              rw [show (i + j - i).toNat = j.toNat by omega] at a5
              have s05 := s03.trans s5
              have hU := usedL_head d i j.toNat
              refine ⟨_, rfl, rfl, _, rfl, nN (by simp only [Op.word]; decide +kernel) ?_⟩
              refine ⟨_, rfl, by decide, fun l6 nl6 => ?_⟩
              generalize eH_6 : upd H_5 l6 _ = H_6
              have s6 : Same H_5 H_6 := by rw [← eH_6]; exact sameNew nl6
              have a6 : H_6 l6 = some (HO.lst [] : HO) := by rw [← eH_6]; exact upd_same
              clear eH_6
              refine ⟨.list ((usedL d i j.toNat).map .int), .list [], .lst (SqL.of (s6 _ _ a5)) (dp_ints _), .lst (SqL.of a6) .nil, PySem.W.ke_shaped_ints _, rfl, _, rfl, ?_⟩
              rw [eqv_nil]
              have s06 := s05.trans s6
              have a56 := s6 _ _ a5
              cases eU : usedL d i j.toNat with
              | cons z zs =>
                rw [eU] at hU a56
                refine iteT ⟨_, rfl, _, _, _, _, rfl, rfl, SqL.of a56, (show atI _ ((0 : Nat) : Int) = some _ from atI_nat rfl), by show 2 ≤ sizeLine; decide, fun tp np => k _ _ (s06.trans (sameNew np)) ?_⟩
                rw [fe', show usF d (.int i) (.int j) = er "used" (.int z) from by show (used d i j.toNat).map _ = _; rw [← hU]; rfl]
                exact errv_name upd_same
              | nil =>
                rw [eU] at hU
                refine iteF (k _ _ s06 ?_)
                rw [fe', show usF d (.int i) (.int j) = none from by show (used d i j.toNat).map _ = _; rw [← hU]; rfl]
                rfl

          | unmap y b n =>
            refine ⟨_, rfl, by show 2 ≤ sizeLine; decide, fun t1 n1 => ?_⟩
            generalize eH_1 : upd H t1 _ = H_1
            have s1 : Same H H_1 := by rw [← eH_1]; exact sameNew n1
            have a1 : H_1 t1 = some (HO.tup [V.str "drop", V.str "places"] : HO) := by rw [← eH_1]; exact upd_same
            clear eH_1
            refine ⟨t1, _, rfl, .inr (SqT.of a1), rfl, rfl, _, rfl, bF (by simp only [Op.word]; decide +kernel) ?_⟩
            refine ⟨_, rfl, rfl, _, rfl, sN (by simp only [Op.word]; decide +kernel) ?_⟩
            refine ⟨_, rfl, by show 2 ≤ sizeLine; decide, fun t2 n2 => ?_⟩
            generalize eH_2 : upd H_1 t2 _ = H_2
            have s2 : Same H_1 H_2 := by rw [← eH_2]; exact sameNew n2
            have a2 : H_2 t2 = some (HO.tup [V.str "read", V.str "write"] : HO) := by rw [← eH_2]; exact upd_same
            clear eH_2
            refine ⟨t2, _, rfl, .inr (SqT.of a2), rfl, rfl, _, rfl, bF (by simp only [Op.word]; decide +kernel) ?_⟩
            have s02 := s1.trans s2
            have hr2 := s02 _ _ hrw
            have hd2 := s02 _ _ hd.1
            have hb := ha b (by simp [Op.args, Op.more])
            have hn := ha n (by simp [Op.args, Op.more])
            refine ⟨_, rfl, _, _, _, _, rfl, rfl, SqT.of hr2, rfl, _, rfl, _, _, _, _, rfl, rfl, SqT.of hr2, rfl, b, n, rfl, hb.1.same s02, hn.1.same s02, _, rfl, ?_⟩
            cases eS : isS b n with
            | false =>
              refine iteT (iteT ?_)
              refine ⟨by show 2 ≤ sizeLine; decide, fun tp np => k _ _ (s02.trans (sameNew np)) ?_⟩
              rw [show fault (pur m) (.unmap y b n) = er "area" .non from by
                refine (inspe _).trans ?_
                rw [if_neg (by rw [eS]; simp)]]
              exact errv_name upd_same
            | true =>
              refine iteF ?_
              refine ⟨_, rfl, rfl, _, rfl, sN (by simp only [Op.word]; decide +kernel) (iteF ?_)⟩
              obtain ⟨i, j, rfl, rfl, i0, j1, ij⟩ := isS_begins eS
              have fe' : fault (pur m) (.unmap y (.int i) (.int j)) = none := (inspe _).trans (if_pos eS)
              refine ⟨_, rfl, _, _, _, _, rfl, rfl, SqT.of hr2, rfl, _, rfl, _, _, _, _, rfl, rfl, SqT.of hr2, rfl, _, rfl, _, _, _, _, rfl, rfl, SqT.of hr2, rfl, _, _, rfl, rfl, i, i + j, rfl, ⟨by omega, by omega, by omega, by omega⟩, fun D3 nD3 => ?_⟩
              refine lc_it walk_range (fun q G => Same H_2 G ∧ G D3 = some (.lst ((lackL d i q).map V.int))) ⟨sameNew nD3, by rw [upd_same]; rfl⟩ (fun _ _ _ _ => True.intro) (fun q x G G' hq hG hy => ?_) (fun H_3 hG3 => ?_)
              · obtain ⟨sg, hg⟩ := hG
                obtain ⟨rfl, rfl⟩ := hy
                refine ⟨rfl, _, rfl, _, rfl, a, _, rfl, DGet.k (k := Sum.inl (i + (q : Int))) (sg _ _ hd2), _, rfl, ?_⟩
                rw [dI_val]
                have few := lackL_len d i q
                have fresh : ∀ b o, H_2 b = some o → b ≠ D3 := fun b o eo => ne_of_none eo nD3
                cases e : lk d (i + (q : Int)) with
                | some x => exact iteF ⟨sg, by rw [lackL_succ, e]; simpa using hg⟩
                | none => exact iteT ⟨_, rfl, _, hg, by rw [List.length_map, sizeLine_eq]; omega, fun b o eo => by rw [upd_ne (fresh b o eo)]; exact sg b o eo, by rw [upd_same, lackL_succ, e, List.map_append]; rfl⟩
              obtain ⟨s3, a3⟩ := hG3
              rw [show (i + j - i).toNat = j.toNat by omega] at a3
              have s03 := s02.trans s3
              have hr3 := s03 _ _ hrw
              have hL := lackL_head d i j.toNat
              refine ⟨_, rfl, rfl, _, rfl, sN (by simp only [Op.word]; decide +kernel) (iteF ?_)⟩
              refine ⟨_, rfl, rfl, _, rfl, sN (by simp only [Op.word]; decide +kernel) ?_⟩
              refine ⟨_, rfl, _, _, _, _, rfl, rfl, SqT.of hr3, rfl, ?_⟩
              have hd3 := s03 _ _ hd.1
              refine ⟨_, rfl, _, rfl, _, rfl, _, _, _, _, rfl, rfl, SqT.of hr3, rfl, _, _, rfl, rfl, i, i + j, rfl, ⟨by omega, by omega, by omega, by omega⟩, fun D5 nD5 => ?_⟩
              refine lc_it walk_range (fun q G => Same H_3 G ∧ G D5 = some (.lst ((usedL d i q).map V.int))) ⟨sameNew nD5, by rw [upd_same]; rfl⟩ (fun _ _ _ _ => True.intro) (fun q x G G' hq hG hy => ?_) (fun H_5 hG5 => ?_)
              · obtain ⟨sg, hg⟩ := hG
                obtain ⟨rfl, rfl⟩ := hy
                refine ⟨rfl, _, rfl, _, rfl, a, _, rfl, DGet.k (k := Sum.inl (i + (q : Int))) (sg _ _ hd3), _, rfl, ?_⟩
                rw [dI_val]
                have few := usedL_len d i q
                have fresh : ∀ b o, H_3 b = some o → b ≠ D5 := fun b o eo => ne_of_none eo nD5
                cases e : lk d (i + (q : Int)) with
                | some x => exact iteT ⟨_, rfl, _, hg, by rw [List.length_map, sizeLine_eq]; omega, fun b o eo => by rw [upd_ne (fresh b o eo)]; exact sg b o eo, by rw [upd_same, usedL_succ, e, List.map_append]; rfl⟩
                | none => exact iteF ⟨sg, by rw [usedL_succ, e]; simpa using hg⟩
              obtain ⟨s5, a5⟩ := hG5
              rw [show (i + j - i).toNat = j.toNat by omega] at a5
              have s05 := s03.trans s5
              have hU := usedL_head d i j.toNat
              refine ⟨_, rfl, rfl, _, rfl, nY (iteF ?_)⟩
              exact k _ _ s05 (by rw [fe']; rfl)

          | move y b n t =>
            refine ⟨_, rfl, by show 2 ≤ sizeLine; decide, fun t1 n1 => ?_⟩
            generalize eH_1 : upd H t1 _ = H_1
            have s1 : Same H H_1 := by rw [← eH_1]; exact sameNew n1
            have a1 : H_1 t1 = some (HO.tup [V.str "drop", V.str "places"] : HO) := by rw [← eH_1]; exact upd_same
            clear eH_1
            refine ⟨t1, _, rfl, .inr (SqT.of a1), rfl, rfl, _, rfl, bF (by simp only [Op.word]; decide +kernel) ?_⟩
            refine ⟨_, rfl, rfl, _, rfl, sN (by simp only [Op.word]; decide +kernel) ?_⟩
            refine ⟨_, rfl, by show 2 ≤ sizeLine; decide, fun t2 n2 => ?_⟩
            generalize eH_2 : upd H_1 t2 _ = H_2
            have s2 : Same H_1 H_2 := by rw [← eH_2]; exact sameNew n2
            have a2 : H_2 t2 = some (HO.tup [V.str "read", V.str "write"] : HO) := by rw [← eH_2]; exact upd_same
            clear eH_2
            refine ⟨t2, _, rfl, .inr (SqT.of a2), rfl, rfl, _, rfl, bF (by simp only [Op.word]; decide +kernel) ?_⟩
            have s02 := s1.trans s2
            have hr2 := s02 _ _ hrw
            have hd2 := s02 _ _ hd.1
            have hb := ha b (by simp [Op.args, Op.more])
            have hn := ha n (by simp [Op.args, Op.more])
            have ht := ha t (by simp [Op.args, Op.more])
            refine ⟨_, rfl, _, _, _, _, rfl, rfl, SqT.of hr2, rfl, _, rfl, _, _, _, _, rfl, rfl, SqT.of hr2, rfl, b, n, rfl, hb.1.same s02, hn.1.same s02, _, rfl, ?_⟩
            cases eS : isS b n with
            | false =>
              refine iteT (iteT ?_)
              refine ⟨by show 2 ≤ sizeLine; decide, fun tp np => k _ _ (s02.trans (sameNew np)) ?_⟩
              rw [show fault (pur m) (.move y b n t) = er "area" .non from by
                refine (inspe _).trans ?_
                rw [if_neg (by rw [eS]; simp)]]
              exact errv_name upd_same
            | true =>
              refine iteF ?_
              refine ⟨_, rfl, rfl, _, rfl, sY ?_⟩
              refine ⟨_, rfl, _, _, _, _, rfl, rfl, SqT.of hr2, rfl, _, rfl, _, _, _, _, rfl, rfl, SqT.of hr2, rfl, t, n, rfl, ht.1.same s02, hn.1.same s02, _, rfl, ?_⟩
              cases eS2 : isS t n with
              | false =>
                refine iteT ?_
                refine ⟨by show 2 ≤ sizeLine; decide, fun tp np => k _ _ (s02.trans (sameNew np)) ?_⟩
                rw [show fault (pur m) (.move y b n t) = er "area" .non from by
                  refine (inspe _).trans ?_
                  rw [if_neg (by rw [eS2]; simp)]]
                exact errv_name upd_same
              | true =>
                refine iteF ?_
                obtain ⟨i, j, rfl, rfl, i0, j1, ij⟩ := isS_begins eS
                obtain ⟨x, j2, rfl, ej, x0, _, xj⟩ := isS_begins eS2
                cases ej
                have fe' : fault (pur m) (.move y (.int i) (.int j) (.int x)) = (laF d (.int i) (.int j)).or (usF d (.int x) (.int j)) := (inspe _).trans (if_pos ⟨eS, eS2⟩)
                refine ⟨_, rfl, _, _, _, _, rfl, rfl, SqT.of hr2, rfl, _, rfl, _, _, _, _, rfl, rfl, SqT.of hr2, rfl, _, rfl, _, _, _, _, rfl, rfl, SqT.of hr2, rfl, _, _, rfl, rfl, i, i + j, rfl, ⟨by omega, by omega, by omega, by omega⟩, fun D3 nD3 => ?_⟩
                refine lc_it walk_range (fun q G => Same H_2 G ∧ G D3 = some (.lst ((lackL d i q).map V.int))) ⟨sameNew nD3, by rw [upd_same]; rfl⟩ (fun _ _ _ _ => True.intro) (fun q x G G' hq hG hy => ?_) (fun H_3 hG3 => ?_)
                · obtain ⟨sg, hg⟩ := hG
                  obtain ⟨rfl, rfl⟩ := hy
                  refine ⟨rfl, _, rfl, _, rfl, a, _, rfl, DGet.k (k := Sum.inl (i + (q : Int))) (sg _ _ hd2), _, rfl, ?_⟩
                  rw [dI_val]
                  have few := lackL_len d i q
                  have fresh : ∀ b o, H_2 b = some o → b ≠ D3 := fun b o eo => ne_of_none eo nD3
                  cases e : lk d (i + (q : Int)) with
                  | some x => exact iteF ⟨sg, by rw [lackL_succ, e]; simpa using hg⟩
                  | none => exact iteT ⟨_, rfl, _, hg, by rw [List.length_map, sizeLine_eq]; omega, fun b o eo => by rw [upd_ne (fresh b o eo)]; exact sg b o eo, by rw [upd_same, lackL_succ, e, List.map_append]; rfl⟩
                obtain ⟨s3, a3⟩ := hG3
                rw [show (i + j - i).toNat = j.toNat by omega] at a3
                have s03 := s02.trans s3
                have hr3 := s03 _ _ hrw
                have hL := lackL_head d i j.toNat
                refine ⟨_, rfl, rfl, _, rfl, sY ?_⟩
                refine ⟨_, rfl, by decide, fun l4 nl4 => ?_⟩
                generalize eH_4 : upd H_3 l4 _ = H_4
                have s4 : Same H_3 H_4 := by rw [← eH_4]; exact sameNew nl4
                have a4 : H_4 l4 = some (HO.lst [] : HO) := by rw [← eH_4]; exact upd_same
                clear eH_4
                refine ⟨.list ((lackL d i j.toNat).map .int), .list [], .lst (SqL.of (s4 _ _ a3)) (dp_ints _), .lst (SqL.of a4) .nil, PySem.W.ke_shaped_ints _, rfl, _, rfl, ?_⟩
                rw [eqv_nil]
                have s04 := s03.trans s4
                have hr4 := s04 _ _ hrw
                have hd4 := s04 _ _ hd.1
                have a34 := s4 _ _ a3
                cases eL : lackL d i j.toNat with
                | cons z zs =>
                  rw [eL] at hL a34
                  refine iteT ⟨_, rfl, _, _, _, _, rfl, rfl, SqL.of a34, (show atI _ ((0 : Nat) : Int) = some _ from atI_nat rfl), by show 2 ≤ sizeLine; decide, fun tp np => k _ _ (s04.trans (sameNew np)) ?_⟩
                  rw [fe', show laF d (.int i) (.int j) = er "place" (.int z) from by show (lacks d i j.toNat).map _ = _; rw [← hL]; rfl]
                  exact errv_name upd_same
                | nil =>
                  rw [eL] at hL
                  refine iteF ?_
                  refine ⟨_, rfl, rfl, _, rfl, sY ?_⟩
                  refine ⟨_, rfl, _, _, _, _, rfl, rfl, SqT.of hr4, rfl, ?_⟩
                  refine ⟨_, rfl, _, rfl, _, rfl, _, _, _, _, rfl, rfl, SqT.of hr4, rfl, _, _, rfl, rfl, x, x + j, rfl, ⟨by omega, by omega, by omega, by omega⟩, fun D5 nD5 => ?_⟩
                  refine lc_it walk_range (fun q G => Same H_4 G ∧ G D5 = some (.lst ((usedL d x q).map V.int))) ⟨sameNew nD5, by rw [upd_same]; rfl⟩ (fun _ _ _ _ => True.intro) (fun q x G G' hq hG hy => ?_) (fun H_5 hG5 => ?_)
                  · obtain ⟨sg, hg⟩ := hG
                    obtain ⟨rfl, rfl⟩ := hy
                    refine ⟨rfl, _, rfl, _, rfl, a, _, rfl, DGet.k (k := Sum.inl (x + (q : Int))) (sg _ _ hd4), _, rfl, ?_⟩
                    rw [dI_val]
                    have few := usedL_len d x q
                    have fresh : ∀ b o, H_4 b = some o → b ≠ D5 := fun b o eo => ne_of_none eo nD5
                    cases e : lk d (x + (q : Int)) with
                    | some x => exact iteT ⟨_, rfl, _, hg, by rw [List.length_map, sizeLine_eq]; omega, fun b o eo => by rw [upd_ne (fresh b o eo)]; exact sg b o eo, by rw [upd_same, usedL_succ, e, List.map_append]; rfl⟩
                    | none => exact iteF ⟨sg, by rw [usedL_succ, e]; simpa using hg⟩
                  obtain ⟨s5, a5⟩ := hG5
                  rw [show (x + j - x).toNat = j.toNat by omega] at a5
                  have s05 := s04.trans s5
                  have hU := usedL_head d x j.toNat
                  refine ⟨_, rfl, rfl, _, rfl, nN (by simp only [Op.word]; decide +kernel) ?_⟩
                  refine ⟨_, rfl, by decide, fun l6 nl6 => ?_⟩
                  generalize eH_6 : upd H_5 l6 _ = H_6
                  have s6 : Same H_5 H_6 := by rw [← eH_6]; exact sameNew nl6
                  have a6 : H_6 l6 = some (HO.lst [] : HO) := by rw [← eH_6]; exact upd_same
                  clear eH_6
                  refine ⟨.list ((usedL d x j.toNat).map .int), .list [], .lst (SqL.of (s6 _ _ a5)) (dp_ints _), .lst (SqL.of a6) .nil, PySem.W.ke_shaped_ints _, rfl, _, rfl, ?_⟩
                  rw [eqv_nil]
                  have s06 := s05.trans s6
                  have a56 := s6 _ _ a5
                  cases eU : usedL d x j.toNat with
                  | cons z zs =>
                    rw [eU] at hU a56
                    refine iteT ⟨_, rfl, _, _, _, _, rfl, rfl, SqL.of a56, (show atI _ ((0 : Nat) : Int) = some _ from atI_nat rfl), by show 2 ≤ sizeLine; decide, fun tp np => k _ _ (s06.trans (sameNew np)) ?_⟩
                    rw [fe', show laF d (.int i) (.int j) = none from by show (lacks d i j.toNat).map _ = _; rw [← hL]; rfl, show usF d (.int x) (.int j) = er "used" (.int z) from by show (used d x j.toNat).map _ = _; rw [← hU]; rfl]
                    exact errv_name upd_same
                  | nil =>
                    rw [eU] at hU
                    refine iteF (k _ _ s06 ?_)
                    rw [fe', show laF d (.int i) (.int j) = none from by show (lacks d i j.toNat).map _ = _; rw [← hL]; rfl, show usF d (.int x) (.int j) = none from by show (used d x j.toNat).map _ = _; rw [← hU]; rfl]
                    rfl

      | _ =>
        refine iteT (iteT ⟨_, rfl, by show 2 ≤ sizeLine; decide, fun t nt => ?_⟩)
        have := no (fun s' e' => by rw [ev] at e'; cases e') H (Same.refl _) t nt
        rw [ev] at this
        exact this
end
end Bm
set_option maxRecDepth 100000
set_option maxHeartbeats 4000000
/-! an operation that can be done, in the law's model -/
namespace Bm
open PySem L2 L3 Pm
theorem mapP_succ (d : Pl) (b : Int) (n : Nat) : pt (mapP d b n) (b + (n : Int)) 0 = mapP d b (n + 1) := by
  unfold mapP pts
  rw [zeros_succ, List.foldl_append]
  rfl
theorem key_of {d : Pl} {i x : Int} (h : lk d i = some x) : i ∈ d.map (·.1) := by
  have z : ¬ lk d i = none := by rw [h]; simp
  rw [lk_none] at z
  exact Decidable.byContradiction z
inductive Can (M : Mem) : Op → Prop where
  | add {s : Str} (h : nameS s = true) (n : lk M s = none) : Can M (.add (.str s))
  | drop {s : Str} {d : Pl} (h : lk M s = some d) : Can M (.drop (.str s))
  | places {s : Str} {d : Pl} (h : lk M s = some d) : Can M (.places (.str s))
  | fork {s c : Str} {d : Pl} (h : lk M s = some d) (hc : nameS c = true) (n : lk M c = none) : Can M (.fork (.str s) (.str c))
  | read {s : Str} {d : Pl} {i x : Int} (h : lk M s = some d) (hi : lk d i = some x) : Can M (.read (.str s) (.int i))
  | write {s : Str} {d : Pl} {i x j : Int} (h : lk M s = some d) (hi : lk d i = some x) (hc : isC (.int j) = true) : Can M (.write (.str s) (.int i) (.int j))
  | map {s : Str} {d : Pl} {i j : Int} (h : lk M s = some d) (hS : isS (.int i) (.int j) = true) (n : used d i j.toNat = none) : Can M (.map (.str s) (.int i) (.int j))
  | unmap {s : Str} {d : Pl} {i j : Int} (h : lk M s = some d) (hS : isS (.int i) (.int j) = true) : Can M (.unmap (.str s) (.int i) (.int j))
  | move {s : Str} {d : Pl} {i j k : Int} (h : lk M s = some d) (hS : isS (.int i) (.int j) = true) (hS2 : isS (.int k) (.int j) = true) (l : lacks d i j.toNat = none) (n : used d k j.toNat = none) : Can M (.move (.str s) (.int i) (.int j) (.int k))
theorem inSp_none {M : Mem} {y : V} {f : Pl → Err} (h : inSp M y f = none) : ∃ s d, y = .str s ∧ lk M s = some d ∧ f d = none := by
  cases y with
  | str s =>
    have h' : (match lk M s with | none => er "space" (.str s) | some d => f d) = none := h
    cases q : lk M s with
    | none => rw [q] at h'; cases h'
    | some d => rw [q] at h'; exact ⟨s, d, rfl, q, h'⟩
  | _ => cases h
theorem newF_none {M : Mem} {z : V} (h : newF M z = none) : ∃ c, z = .str c ∧ nameS c = true ∧ lk M c = none := by
  cases z with
  | str c =>
    have h' : (if nameS c = true then (if (lk M c).isSome = true then er "taken" (.str c) else none) else er "name" .non) = none := h
    by_cases q : nameS c = true
    · rw [if_pos q] at h'
      cases e : lk M c with
      | none => exact ⟨c, rfl, q, e⟩
      | some x => rw [e] at h'; cases h'
    · rw [if_neg q] at h'; cases h'
  | _ => cases h
theorem plF_none {d : Pl} {z : V} (h : plF d z = none) : ∃ i x, z = .int i ∧ lk d i = some x := by
  cases z with
  | int i =>
    have h' : (if (lk d i).isSome = true then none else er "place" (.int i)) = none := h
    cases e : lk d i with
    | none => rw [e] at h'; cases h'
    | some x => exact ⟨i, x, rfl, e⟩
  | _ => cases h
theorem or_none {a b : Err} (h : a.or b = none) : a = none ∧ b = none := by
  cases a with
  | none => exact ⟨rfl, h⟩
  | some x => cases h
theorem usF_none {d : Pl} {i j : Int} (h : usF d (.int i) (.int j) = none) : used d i j.toNat = none := by
  have h' : (used d i j.toNat).map _ = none := h
  simpa using h'
theorem laF_none {d : Pl} {i j : Int} (h : laF d (.int i) (.int j) = none) : lacks d i j.toNat = none := by
  have h' : (lacks d i j.toNat).map _ = none := h
  simpa using h'
theorem can_of {M : Mem} {o : Op} (h : fault M o = none) : Can M o := by
  cases o with
  | add y => obtain ⟨c, rfl, h1, h2⟩ := newF_none h; exact .add h1 h2
  | drop y => obtain ⟨s, d, rfl, h1, _⟩ := inSp_none h; exact .drop h1
  | places y => obtain ⟨s, d, rfl, h1, _⟩ := inSp_none h; exact .places h1
  | fork y z => obtain ⟨s, d, rfl, h1, h2⟩ := inSp_none h; obtain ⟨c, rfl, h3, h4⟩ := newF_none h2; exact .fork h1 h3 h4
  | read y z => obtain ⟨s, d, rfl, h1, h2⟩ := inSp_none h; obtain ⟨i, x, rfl, h3⟩ := plF_none h2; exact .read h1 h3
  | write y z v =>
    obtain ⟨s, d, rfl, h1, h2⟩ := inSp_none h
    obtain ⟨h3, h4⟩ := or_none h2
    obtain ⟨i, x, rfl, h5⟩ := plF_none h3
    have hc : isC v = true := by
      cases e : isC v with
      | true => rfl
      | false => rw [e] at h4; cases h4
    obtain ⟨j, rfl⟩ : ∃ j, v = .int j := by cases v <;> simp [isC] at hc <;> exact ⟨_, rfl⟩
    exact .write h1 h5 hc
  | map y b n =>
    obtain ⟨s, d, rfl, h1, h2⟩ := inSp_none h
    have hS : isS b n = true := by
      cases e : isS b n with
      | true => rfl
      | false => rw [e] at h2; cases h2
    rw [if_pos hS] at h2
    obtain ⟨i, j, rfl, rfl⟩ := isS_ints hS
    exact .map h1 hS (usF_none h2)
  | unmap y b n =>
    obtain ⟨s, d, rfl, h1, h2⟩ := inSp_none h
    have hS : isS b n = true := by
      cases e : isS b n with
      | true => rfl
      | false => rw [e] at h2; cases h2
    obtain ⟨i, j, rfl, rfl⟩ := isS_ints hS
    exact .unmap h1 hS
  | move y b n t =>
    obtain ⟨s, d, rfl, h1, h2⟩ := inSp_none h
    by_cases hS : isS b n = true ∧ isS t n = true
    · rw [if_pos hS] at h2
      obtain ⟨i, j, rfl, rfl⟩ := isS_ints hS.1
      obtain ⟨k, j', rfl, e⟩ := isS_ints hS.2
      cases e
      obtain ⟨h3, h4⟩ := or_none h2
      exact .move h1 hS.1 hS.2 (laF_none h3) (usF_none h4)
    · rw [if_neg hS] at h2; cases h2
theorem inn_of {M : Mem} {s : Str} {d : Pl} (h : lk M s = some d) : inn M s = d := by unfold inn; rw [h]; rfl
theorem lkm {m : Sp3} {s : Str} {d : Pl} (h : lk (pur m) s = some d) : ∃ a, lk m s = some (a, d) := by
  rw [pur_lk] at h
  obtain ⟨e, h1, h2⟩ := Option.map_eq_some_iff.mp h
  exact ⟨e.1, by rw [h1, ← h2]⟩
theorem lkm0 {m : Sp3} {s : Str} (h : lk (pur m) s = none) : lk m s = none := by
  rw [pur_lk] at h
  simpa using h
def spDone : Sp := fun vs H Q _ => ∃ (md rw_ : Addr) (m : Sp3) (o : Op), vs = [.ref md, .ref rw_] ∧ MoA H md m ∧ H rw_ = some (.tup o.row) ∧ fault (pur m) o = none ∧ m.length < 100000 ∧
  ∀ r H' m', MoA H' md m' → pur m' = done (pur m) o → Keeps (fpt md m) H H' → (∀ a ∈ fpt md m', a ∈ fpt md m ∨ H a = none) → ThV H' r (resD (pur m) o) → Q r H'
theorem kp_one {md a : Addr} {m : Sp3} {H H' : Hp} (k : Keeps [a] H H') (h : a ∈ fpt md m) : Keeps (fpt md m) H H' := k.mono fun b hb => by rw [List.mem_singleton] at hb; exact hb ▸ h
section
variable {P : Program} {w : World} {K : PySem.W.Frag} {mg : Str → Option Value} {base : Heap}
theorem scDone : FnScope ["_law_model", "_law_row_here", "_law_word", "_law_title", "_law_inside", "_law_step"] ["_law_model", "_law_row_here"] (defScope sDone) := ⟨rfl, rfl, rfl, by decide +kernel, rfl, by decide +kernel, by decide +kernel⟩
theorem ok_done {f : Addr} {fd : FuncData} (F : Fun K "_law_done" "_law_done" sDone f fd) (range_ : mg "range" = none) (sorted_ : mg "sorted" = none) (dict_ : mg "dict" = none) : FnOk P w K mg base CX0 1 f fd ["_law_model", "_law_row_here"] spDone := by
  refine F.ok scDone (fun vs H Q E h => ?_) (fun cdv A outer s H vs Q E hr h => ?_)
  · obtain ⟨md, rw_, m, o, rfl, _⟩ := h
    rfl
  · obtain ⟨md, rw_, m, o, rfl, hM, hrw, hf, hl, fin_⟩ := h
    have hu := hu_of hr
    refine ⟨_, (pss_cons (ps_par (i := 2) (j := 3) (by rfl) scDone.nd rfl rfl (by decide) rfl rfl (pa_cons (pe_ix ix_tup (pv 1) pe_int (fun _ _ => rfl)) (pa_cons (pe_ix ix_tup (pv 1) pe_int (fun _ _ => rfl)) pa_nil)) (by rfl))
      (pss_cons (ps_if (pt_cmpR op_eq (pv 2) pe_str (nomark _))
        (pss_one (ps_dput hu (pv 0) (pv 3) pe_dnewK rfl))
        (pss_one (ps_if (pt_cmpR op_eq (pv 2) pe_str (nomark _))
            (pss_one (ps_expr (pe_dpop1 (pv 0) (pv 3) ⟨by rfl, by rfl, by rfl, by rfl⟩)))
            (pss_one (ps_if (pt_cmpR op_eq (pv 2) pe_str (nomark _))
                (pss_one (ps_dput hu (pv 0) (pe_ix ix_tup (pv 1) pe_int (fun _ _ => rfl)) (pe_callTy call_dictD (by rfl) dict_ (by decide +kernel) (pa_cons (pe_dget hu (pv 0) (pv 3) (fun _ _ => rfl)) pa_nil)) rfl))
                (pss_one (ps_if (pt_cmpR op_in_seq (pv 2) (pe_tup (pa_cons pe_str (pa_cons pe_str pa_nil))) (by rfl))
                    (pss_one (ps_ret (pe_ifExp (pt_cmpR op_eq (pv 2) pe_str (nomark _)) (pe_dget hu (pe_dget hu (pv 0) (pv 3) (fun _ _ => rfl)) (pe_ix ix_tup (pv 1) pe_int (fun _ _ => rfl)) (fun _ _ => rfl)) (pe_callB (r := rSrtD P w) (call_srtD rfl) (by rfl) sorted_ (by decide +kernel) (pa_cons (pe_dget hu (pv 0) (pv 3) (fun _ _ => rfl)) pa_nil)))))
                    (pss_cons (ps_set (i := 4) scDone.nd rfl (Or.inl rfl) (pe_dget hu (pv 0) (pv 3) (fun _ _ => rfl)))
                      (pss_one (ps_for PassesOwn.never rfl (pi_range1 rfl range_ (pa_cons (pe_ifExp (pt_cmpR op_in_seq (pv 2) (pe_tup (pa_cons pe_str (pa_cons pe_str (pa_cons pe_str pa_nil)))) (by rfl)) (pe_ix ix_tup (pv 1) pe_int (fun _ _ => rfl)) pe_int) pa_nil)) (pg_name (i := 5) scDone.nd rfl (Or.inl rfl))
                        (pss_one (ps_if (pt_cmpR op_eq (pv 2) pe_str (nomark _))
                            (pss_one (ps_dput hu (pv 4) (pe_op op_add (pe_ix ix_tup (pv 1) pe_int (fun _ _ => rfl)) (pv 5)) pe_int rfl))
                            (pss_one (ps_if (pt_cmpR op_eq (pv 2) pe_str (nomark _))
                                (pss_one (ps_expr (pe_dpop2 (pv 4) (pe_op op_add (pe_ix ix_tup (pv 1) pe_int (fun _ _ => rfl)) (pv 5)) pe_non ⟨by rfl, by rfl, by rfl, by rfl⟩)))
                                (pss_one (ps_if (pt_cmpR op_eq (pv 2) pe_str (nomark _))
                                    (pss_one (ps_dput hu (pv 4) (pe_op op_add (pe_ix ix_tup (pv 1) pe_int (fun _ _ => rfl)) (pv 5)) (pe_dpop1 (pv 4) (pe_op op_add (pe_ix ix_tup (pv 1) pe_int (fun _ _ => rfl)) (pv 5)) ⟨by rfl, by rfl, by rfl, by rfl⟩) rfl))
                                    (pss_one (ps_dput hu (pv 4) (pe_ix ix_tup (pv 1) pe_int (fun _ _ => rfl)) (pe_ix ix_tup (pv 1) pe_int (fun _ _ => rfl)) rfl))))))))))))))))))
      (pss_one (ps_ret pe_non)))), ?_⟩

    have can := can_of hf
    cases can with
    | @add s hs hn =>
      have hrw : H rw_ = some (.tup [.str "add", .str s]) := hrw
      have hn := lkm0 hn
      refine ⟨_, rfl, _, _, _, _, rfl, rfl, SqT.of hrw, rfl, _, rfl, _, _, _, _, rfl, rfl, SqT.of hrw, rfl, _, _, rfl, ?_⟩
      refine ⟨_, rfl, rfl, _, rfl, sY ?_⟩
      refine fun a na => ⟨_, rfl, _, rfl, ?_⟩
      have nah : md ≠ a := ne_of_none hM.held na
      have eh : (upd H a (.dK [])) md = some (.dK (hK m)) := by rw [upd_ne nah]; exact hM.held
      refine ⟨md, _, rfl, DPut.k (k := Sum.inr s) eh (by rw [show (hK m).length = m.length from kv_length m, sizeLine_eq]; omega), ?_⟩
      have kp : Keeps [md] H (upd (upd H a (.dK [])) md (.dK (putK (hK m) (Sum.inr s) (.ref a)))) := fun b o e n => by
        rw [upd_ne (fun z => n (by rw [z]; exact List.mem_singleton.mpr rfl)), upd_ne (ne_of_none e na)]
        exact e
      refine fin_ .non _ _ (hM.add (d := []) hn na kp (by rw [upd_ne nah.symm, upd_same]; rfl) upd_same .nil) ?_ (kp_one kp List.mem_cons_self) (fun x hx => (fpt_add x hx).imp id fun e => by rw [e]; exact na) .non
      show pur (m ++ [(s, a, [])]) = pur m ++ [(s, [])]
      unfold pur
      rw [List.map_append]
      rfl
    | @drop s d h =>
      have hrw : H rw_ = some (.tup [.str "drop", .str s]) := hrw
      obtain ⟨a, hq⟩ := lkm h
      refine ⟨_, rfl, _, _, _, _, rfl, rfl, SqT.of hrw, rfl, _, rfl, _, _, _, _, rfl, rfl, SqT.of hrw, rfl, _, _, rfl, ?_⟩
      refine ⟨_, rfl, rfl, _, rfl, sN (by decide +kernel) ?_⟩
      refine ⟨_, rfl, rfl, _, rfl, sY ?_⟩
      refine ⟨_, rfl, md, rfl, .inl ⟨_, .inl hM.held⟩, _, rfl, _, Sum.inr s, .ref a, hM.held, rfl, by rw [hK_val, hq]; rfl, ?_⟩
      have kp : Keeps [md] H (upd H md (.dK (dropK (hK m) (Sum.inr s)))) := fun b o e n => by
        rw [upd_ne (fun z => n (by rw [z]; exact List.mem_singleton.mpr rfl))]
        exact e
      exact fin_ .non _ _ (hM.drop kp upd_same) (pur_dr m s) (kp_one kp List.mem_cons_self) (fun x hx => .inl (fpt_drop x hx)) .non
    | @places s d h =>
      have hrw : H rw_ = some (.tup [.str "places", .str s]) := hrw
      obtain ⟨a, hq⟩ := lkm h
      have hK2 := DGet.k (k := Sum.inr s) hM.held
      rw [hK_val, hq] at hK2
      refine ⟨_, rfl, _, _, _, _, rfl, rfl, SqT.of hrw, rfl, _, rfl, _, _, _, _, rfl, rfl, SqT.of hrw, rfl, _, _, rfl, ?_⟩
      refine ⟨_, rfl, rfl, _, rfl, sN (by decide +kernel) ?_⟩
      refine ⟨_, rfl, rfl, _, rfl, sN (by decide +kernel) ?_⟩
      refine ⟨_, rfl, rfl, _, rfl, sN (by decide +kernel) ?_⟩
      refine ⟨_, rfl, by show 2 ≤ sizeLine; decide, fun t1 n1 => ?_⟩
      generalize eH_1 : upd H t1 _ = H_1
      have s1 : Same H H_1 := by rw [← eH_1]; exact sameNew n1
      have a1 : H_1 t1 = some (HO.tup [V.str "read", V.str "places"] : HO) := by rw [← eH_1]; exact upd_same
      clear eH_1
      refine ⟨t1, _, rfl, .inr (SqT.of a1), rfl, rfl, _, rfl, bT (by decide +kernel) ?_⟩

      refine ⟨_, rfl, rfl, _, rfl, sN (by decide +kernel) ?_⟩
      have M1 := hM.same s1
      have hK3 := DGet.k (k := Sum.inr s) M1.held
      rw [hK_val, hq] at hK3
      refine ⟨_, rfl, _, rfl, md, .ref a, rfl, hK3, ?_⟩
      refine srt_ints (ks := d.map (·.1)) (.inl (M1.at hq).1) (by unfold dI kv; rw [List.map_map, List.map_map]; rfl) fun ys l h1 h2 h3 => ?_
      refine fin_ _ _ m (M1.same (sameNew h3)) rfl (Keeps.same (s1.trans (sameNew h3))) (fun x hx => .inl hx) ?_
      have e : resD (pur m) (.places (.str s)) = .list (ys.map .int) := by
        show PyData.list ((sortI ((inn (pur m) s).map (·.1))).map .int) = _
        rw [inn_of h, ← sortI_eq h1 h2]
      rw [e]
      exact .lst upd_same
    | @fork s c d h hc hn =>
      have hrw : H rw_ = some (.tup [.str "fork", .str s, .str c]) := hrw
      obtain ⟨b, hq⟩ := lkm h
      have hn := lkm0 hn
      have hK2 := DGet.k (k := Sum.inr s) hM.held
      rw [hK_val, hq] at hK2
      refine ⟨_, rfl, _, _, _, _, rfl, rfl, SqT.of hrw, rfl, _, rfl, _, _, _, _, rfl, rfl, SqT.of hrw, rfl, _, _, rfl, ?_⟩
      refine ⟨_, rfl, rfl, _, rfl, sN (by decide +kernel) ?_⟩
      refine ⟨_, rfl, rfl, _, rfl, sN (by decide +kernel) ?_⟩
      refine ⟨_, rfl, rfl, _, rfl, sY ?_⟩
      refine ⟨_, rfl, _, rfl, md, .ref b, rfl, hK2, b, _, rfl, .inl (hM.at hq).1, fun a na => ?_⟩
      have nah : md ≠ a := ne_of_none hM.held na
      have eh : (upd H a (.dK (dI d))) md = some (.dK (hK m)) := by rw [upd_ne nah]; exact hM.held
      have hr2 : (upd H a (.dK (dI d))) rw_ = some (.tup [.str "fork", .str s, .str c]) := by rw [upd_ne (ne_of_none hrw na)]; exact hrw
      refine ⟨_, rfl, _, rfl, _, _, _, _, rfl, rfl, SqT.of hr2, rfl, md, _, rfl, DPut.k (k := Sum.inr c) eh (by rw [show (hK m).length = m.length from kv_length m, sizeLine_eq]; omega), ?_⟩
      have kp : Keeps [md] H (upd (upd H a (.dK (dI d))) md (.dK (putK (hK m) (Sum.inr c) (.ref a)))) := fun b o e n => by
        rw [upd_ne (fun z => n (by rw [z]; exact List.mem_singleton.mpr rfl)), upd_ne (ne_of_none e na)]
        exact e
      refine fin_ .non _ _ (hM.add (d := d) hn na kp (by rw [upd_ne nah.symm, upd_same]) upd_same (hM.at hq).2) ?_ (kp_one kp List.mem_cons_self) (fun x hx => (fpt_add x hx).imp id fun e => by rw [e]; exact na) .non
      show pur (m ++ [(c, a, d)]) = pur m ++ [(c, inn (pur m) s)]
      rw [inn_of h]
      unfold pur
      rw [List.map_append]
      rfl
    | @read s d i x h hi =>
      have hrw : H rw_ = some (.tup [.str "read", .str s, .int i]) := hrw
      obtain ⟨a, hq⟩ := lkm h
      refine ⟨_, rfl, _, _, _, _, rfl, rfl, SqT.of hrw, rfl, _, rfl, _, _, _, _, rfl, rfl, SqT.of hrw, rfl, _, _, rfl, ?_⟩
      refine ⟨_, rfl, rfl, _, rfl, sN (by decide +kernel) ?_⟩
      refine ⟨_, rfl, rfl, _, rfl, sN (by decide +kernel) ?_⟩
      refine ⟨_, rfl, rfl, _, rfl, sN (by decide +kernel) ?_⟩
      refine ⟨_, rfl, by show 2 ≤ sizeLine; decide, fun t1 n1 => ?_⟩
      generalize eH_1 : upd H t1 _ = H_1
      have s1 : Same H H_1 := by rw [← eH_1]; exact sameNew n1
      have a1 : H_1 t1 = some (HO.tup [V.str "read", V.str "places"] : HO) := by rw [← eH_1]; exact upd_same
      clear eH_1
      refine ⟨t1, _, rfl, .inr (SqT.of a1), rfl, rfl, _, rfl, bT (by decide +kernel) ?_⟩

      refine ⟨_, rfl, rfl, _, rfl, sY ?_⟩
      have M1 := hM.same s1
      have hK3 := DGet.k (k := Sum.inr s) M1.held
      rw [hK_val, hq] at hK3
      have hr2 := s1 _ _ hrw
      have hD := DGet.k (k := Sum.inl i) (M1.at hq).1
      rw [dI_val, hi] at hD
      refine ⟨_, rfl, _, rfl, md, .ref a, rfl, hK3, _, rfl, _, _, _, _, rfl, rfl, SqT.of hr2, rfl, a, .int x, rfl, hD, ?_⟩
      refine fin_ _ _ m M1 rfl (Keeps.same s1) (fun x hx => .inl hx) ?_
      have e : resD (pur m) (.read (.str s) (.int i)) = .int x := by
        show PyData.int ((lk (inn (pur m) s) i).getD 0) = _
        rw [inn_of h, hi]
        rfl
      rw [e]
      exact .int x
    | @write s d i x j h hi hc =>
      have hrw : H rw_ = some (.tup [.str "write", .str s, .int i, .int j]) := hrw
      obtain ⟨a, hq⟩ := lkm h
      refine ⟨_, rfl, _, _, _, _, rfl, rfl, SqT.of hrw, rfl, _, rfl, _, _, _, _, rfl, rfl, SqT.of hrw, rfl, _, _, rfl, ?_⟩
      refine ⟨_, rfl, rfl, _, rfl, sN (by decide +kernel) ?_⟩
      refine ⟨_, rfl, rfl, _, rfl, sN (by decide +kernel) ?_⟩
      refine ⟨_, rfl, rfl, _, rfl, sN (by decide +kernel) ?_⟩
      refine ⟨_, rfl, by show 2 ≤ sizeLine; decide, fun t1 n1 => ?_⟩
      generalize eH_1 : upd H t1 _ = H_1
      have s1 : Same H H_1 := by rw [← eH_1]; exact sameNew n1
      have a1 : H_1 t1 = some (HO.tup [V.str "read", V.str "places"] : HO) := by rw [← eH_1]; exact upd_same
      clear eH_1
      refine ⟨t1, _, rfl, .inr (SqT.of a1), rfl, rfl, _, rfl, bF (by decide +kernel) ?_⟩
      have M1 := hM.same s1
      have hK3 := DGet.k (k := Sum.inr s) M1.held
      rw [hK_val, hq] at hK3
      refine ⟨_, rfl, _, rfl, md, .ref a, rfl, hK3, ?_⟩
      refine ⟨_, rfl, by show 3 ≤ sizeLine; decide, fun t2 n2 => ?_⟩
      generalize eH_2 : upd H_1 t2 _ = H_2
      have s2 : Same H_1 H_2 := by rw [← eH_2]; exact sameNew n2
      have a2 : H_2 t2 = some (HO.tup [V.str "map", V.str "unmap", V.str "move"] : HO) := by rw [← eH_2]; exact upd_same
      clear eH_2
      refine ⟨t2, _, rfl, .inr (SqT.of a2), rfl, rfl, _, rfl, bF (by decide +kernel) ?_⟩
      have s02 := s1.trans s2
      have M2 := hM.same s02
      have hr2 := s02 _ _ hrw
      have ha := M2.at hq
      have hra : rw_ ∉ [a] := fun z => by rw [List.mem_singleton] at z; rw [z, ha.1] at hr2; cases hr2
      refine ⟨1, rfl, by decide, by decide, for_range (lo := 0) (n := (1 : Int).toNat) (fun q σ G => (∃ v5, σ = [some (.ref md), some (.ref rw_), some (.str "write"), some (.str s), some (.ref a), v5]) ∧ Keeps [a] H_2 G ∧ G a = some (.dK (dI (if q = 0 then d else pt d i j)))) ⟨⟨_, rfl⟩, .refl, ha.1⟩ ?_ ?_⟩
      · rintro q σ G hq1 ⟨⟨v5, rfl⟩, kp, hG⟩
        have hrG := kp _ _ hr2 hra
        have q0 : q = 0 := by have : q < 1 := hq1; omega
        subst q0
        refine ⟨_, rfl, rfl, _, rfl, sN (by decide +kernel) ?_⟩
        refine ⟨_, rfl, rfl, _, rfl, sN (by decide +kernel) ?_⟩
        refine ⟨_, rfl, rfl, _, rfl, sN (by decide +kernel) ?_⟩
        refine ⟨_, rfl, _, _, _, _, rfl, rfl, SqT.of hrG, rfl, _, rfl, _, rfl, _, _, _, _, rfl, rfl, SqT.of hrG, rfl, a, _, rfl, DPut.k (k := Sum.inl i) hG (by have := ha.2.few; rw [show (if (0 : Nat) = 0 then d else pt d i j) = d from rfl, dI_length, sizeLine_eq]; omega), ⟨_, rfl⟩, kp.trans .one, ?_⟩
        rw [upd_same, show (if (0 : Nat) = 0 then d else pt d i j) = d from rfl, dI_put]
        rfl
      · rintro σ G ⟨⟨v5, rfl⟩, kp, hG⟩
        have kk : Keeps (fpt md m) H G := (Keeps.same s02).trans (kp_one kp (fpt_mem hq))
        refine fin_ .non _ _ (M2.put (d' := pt d i j) hq kp hG (ha.2.pt (ha.2.2 i (key_of hi)).1 (ha.2.2 i (key_of hi)).2)) ?_ kk (fun x hx => .inl (by rwa [fpt_ptM M2 hq] at hx)) .non
        show pur (pt m s (a, _)) = pt (pur m) s _
        rw [pur_pt, inn_of h]

    | @map s d i j h hS n =>
      have hrw : H rw_ = some (.tup [.str "map", .str s, .int i, .int j]) := hrw
      obtain ⟨a, hq⟩ := lkm h
      refine ⟨_, rfl, _, _, _, _, rfl, rfl, SqT.of hrw, rfl, _, rfl, _, _, _, _, rfl, rfl, SqT.of hrw, rfl, _, _, rfl, ?_⟩
      refine ⟨_, rfl, rfl, _, rfl, sN (by decide +kernel) ?_⟩
      refine ⟨_, rfl, rfl, _, rfl, sN (by decide +kernel) ?_⟩
      refine ⟨_, rfl, rfl, _, rfl, sN (by decide +kernel) ?_⟩
      refine ⟨_, rfl, by show 2 ≤ sizeLine; decide, fun t1 n1 => ?_⟩
      generalize eH_1 : upd H t1 _ = H_1
      have s1 : Same H H_1 := by rw [← eH_1]; exact sameNew n1
      have a1 : H_1 t1 = some (HO.tup [V.str "read", V.str "places"] : HO) := by rw [← eH_1]; exact upd_same
      clear eH_1
      refine ⟨t1, _, rfl, .inr (SqT.of a1), rfl, rfl, _, rfl, bF (by decide +kernel) ?_⟩
      have M1 := hM.same s1
      have hK3 := DGet.k (k := Sum.inr s) M1.held
      rw [hK_val, hq] at hK3
      refine ⟨_, rfl, _, rfl, md, .ref a, rfl, hK3, ?_⟩
      refine ⟨_, rfl, by show 3 ≤ sizeLine; decide, fun t2 n2 => ?_⟩
      generalize eH_2 : upd H_1 t2 _ = H_2
      have s2 : Same H_1 H_2 := by rw [← eH_2]; exact sameNew n2
      have a2 : H_2 t2 = some (HO.tup [V.str "map", V.str "unmap", V.str "move"] : HO) := by rw [← eH_2]; exact upd_same
      clear eH_2
      refine ⟨t2, _, rfl, .inr (SqT.of a2), rfl, rfl, _, rfl, bT (by decide +kernel) ?_⟩
      have s02 := s1.trans s2
      have M2 := hM.same s02
      have hr2 := s02 _ _ hrw
      have ha := M2.at hq
      have hra : rw_ ∉ [a] := fun z => by rw [List.mem_singleton] at z; rw [z, ha.1] at hr2; cases hr2
      obtain ⟨i0, j1, ij⟩ := isS_iff.mp hS
      refine ⟨_, rfl, _, _, _, _, rfl, rfl, SqT.of hr2, rfl, j, rfl, by omega, by omega, for_range (lo := 0) (n := (j : Int).toNat) (fun q σ G => (∃ v5, σ = [some (.ref md), some (.ref rw_), some (.str "map"), some (.str s), some (.ref a), v5]) ∧ Keeps [a] H_2 G ∧ G a = some (.dK (dI (mapP d i q)))) ⟨⟨_, rfl⟩, .refl, ha.1⟩ ?_ ?_⟩
      · rintro q σ G hq1 ⟨⟨v5, rfl⟩, kp, hG⟩
        have hrG := kp _ _ hr2 hra
        refine ⟨_, rfl, rfl, _, rfl, sY ?_⟩
        have o1 := (OkP.mapP (n := q) ha.2 i0 (by omega)).few
        refine ⟨_, rfl, _, rfl, _, _, _, _, rfl, rfl, SqT.of hrG, rfl, _, rfl, _, _, rfl, rfl, a, _, rfl, DPut.k (k := Sum.inl (i + (0 + (q : Int)))) hG (by rw [dI_length, sizeLine_eq]; omega), ⟨_, rfl⟩, kp.trans .one, ?_⟩
        rw [upd_same, dI_put, show i + (0 + (q : Int)) = i + (q : Int) by omega, mapP_succ]
      · rintro σ G ⟨⟨v5, rfl⟩, kp, hG⟩
        have kk : Keeps (fpt md m) H G := (Keeps.same s02).trans (kp_one kp (fpt_mem hq))
        refine fin_ .non _ _ (M2.put (d' := mapP d i j.toNat) hq kp hG (ha.2.mapP i0 (by omega))) ?_ kk (fun x hx => .inl (by rwa [fpt_ptM M2 hq] at hx)) .non
        show pur (pt m s (a, _)) = pt (pur m) s _
        rw [pur_pt, inn_of h]

    | @unmap s d i j h hS =>
      have hrw : H rw_ = some (.tup [.str "unmap", .str s, .int i, .int j]) := hrw
      obtain ⟨a, hq⟩ := lkm h
      refine ⟨_, rfl, _, _, _, _, rfl, rfl, SqT.of hrw, rfl, _, rfl, _, _, _, _, rfl, rfl, SqT.of hrw, rfl, _, _, rfl, ?_⟩
      refine ⟨_, rfl, rfl, _, rfl, sN (by decide +kernel) ?_⟩
      refine ⟨_, rfl, rfl, _, rfl, sN (by decide +kernel) ?_⟩
      refine ⟨_, rfl, rfl, _, rfl, sN (by decide +kernel) ?_⟩
      refine ⟨_, rfl, by show 2 ≤ sizeLine; decide, fun t1 n1 => ?_⟩
      generalize eH_1 : upd H t1 _ = H_1
      have s1 : Same H H_1 := by rw [← eH_1]; exact sameNew n1
      have a1 : H_1 t1 = some (HO.tup [V.str "read", V.str "places"] : HO) := by rw [← eH_1]; exact upd_same
      clear eH_1
      refine ⟨t1, _, rfl, .inr (SqT.of a1), rfl, rfl, _, rfl, bF (by decide +kernel) ?_⟩
      have M1 := hM.same s1
      have hK3 := DGet.k (k := Sum.inr s) M1.held
      rw [hK_val, hq] at hK3
      refine ⟨_, rfl, _, rfl, md, .ref a, rfl, hK3, ?_⟩
      refine ⟨_, rfl, by show 3 ≤ sizeLine; decide, fun t2 n2 => ?_⟩
      generalize eH_2 : upd H_1 t2 _ = H_2
      have s2 : Same H_1 H_2 := by rw [← eH_2]; exact sameNew n2
      have a2 : H_2 t2 = some (HO.tup [V.str "map", V.str "unmap", V.str "move"] : HO) := by rw [← eH_2]; exact upd_same
      clear eH_2
      refine ⟨t2, _, rfl, .inr (SqT.of a2), rfl, rfl, _, rfl, bT (by decide +kernel) ?_⟩
      have s02 := s1.trans s2
      have M2 := hM.same s02
      have hr2 := s02 _ _ hrw
      have ha := M2.at hq
      have hra : rw_ ∉ [a] := fun z => by rw [List.mem_singleton] at z; rw [z, ha.1] at hr2; cases hr2
      obtain ⟨i0, j1, ij⟩ := isS_iff.mp hS
      refine ⟨_, rfl, _, _, _, _, rfl, rfl, SqT.of hr2, rfl, j, rfl, by omega, by omega, for_range (lo := 0) (n := (j : Int).toNat) (fun q σ G => (∃ v5, σ = [some (.ref md), some (.ref rw_), some (.str "unmap"), some (.str s), some (.ref a), v5]) ∧ Keeps [a] H_2 G ∧ G a = some (.dK (dI (unmapP d i q)))) ⟨⟨_, rfl⟩, .refl, ha.1⟩ ?_ ?_⟩
      · rintro q σ G hq1 ⟨⟨v5, rfl⟩, kp, hG⟩
        have hrG := kp _ _ hr2 hra
        refine ⟨_, rfl, rfl, _, rfl, sN (by decide +kernel) ?_⟩
        refine ⟨_, rfl, rfl, _, rfl, sY ?_⟩
        refine ⟨_, rfl, a, rfl, .inl ⟨_, .inl hG⟩, _, rfl, _, _, _, _, rfl, rfl, SqT.of hrG, rfl, _, rfl, _, _, rfl, rfl, _, Sum.inl (i + (0 + (q : Int))), hG, rfl, fun v hv => ⟨⟨_, rfl⟩, kp.trans .one, ?_⟩, fun hv => ⟨⟨_, rfl⟩, kp, ?_⟩⟩
        · rw [upd_same, dI_drop, show i + (0 + (q : Int)) = i + (q : Int) by omega]
          rfl
        · rw [show i + (0 + (q : Int)) = i + (q : Int) by omega, dI_val] at hv
          rw [hG]
          show _ = some (HO.dK (dI (dr (unmapP d i q) (i + (q : Int)))))
          rw [dr_none (by simpa using hv)]
      · rintro σ G ⟨⟨v5, rfl⟩, kp, hG⟩
        have kk : Keeps (fpt md m) H G := (Keeps.same s02).trans (kp_one kp (fpt_mem hq))
        refine fin_ .non _ _ (M2.put (d' := unmapP d i j.toNat) hq kp hG (ha.2.unmapP)) ?_ kk (fun x hx => .inl (by rwa [fpt_ptM M2 hq] at hx)) .non
        show pur (pt m s (a, _)) = pt (pur m) s _
        rw [pur_pt, inn_of h]

    | @move s d i j k h hS hS2 l n =>
      have hrw : H rw_ = some (.tup [.str "move", .str s, .int i, .int j, .int k]) := hrw
      obtain ⟨a, hq⟩ := lkm h
      refine ⟨_, rfl, _, _, _, _, rfl, rfl, SqT.of hrw, rfl, _, rfl, _, _, _, _, rfl, rfl, SqT.of hrw, rfl, _, _, rfl, ?_⟩
      refine ⟨_, rfl, rfl, _, rfl, sN (by decide +kernel) ?_⟩
      refine ⟨_, rfl, rfl, _, rfl, sN (by decide +kernel) ?_⟩
      refine ⟨_, rfl, rfl, _, rfl, sN (by decide +kernel) ?_⟩
      refine ⟨_, rfl, by show 2 ≤ sizeLine; decide, fun t1 n1 => ?_⟩
      generalize eH_1 : upd H t1 _ = H_1
      have s1 : Same H H_1 := by rw [← eH_1]; exact sameNew n1
      have a1 : H_1 t1 = some (HO.tup [V.str "read", V.str "places"] : HO) := by rw [← eH_1]; exact upd_same
      clear eH_1
      refine ⟨t1, _, rfl, .inr (SqT.of a1), rfl, rfl, _, rfl, bF (by decide +kernel) ?_⟩
      have M1 := hM.same s1
      have hK3 := DGet.k (k := Sum.inr s) M1.held
      rw [hK_val, hq] at hK3
      refine ⟨_, rfl, _, rfl, md, .ref a, rfl, hK3, ?_⟩
      refine ⟨_, rfl, by show 3 ≤ sizeLine; decide, fun t2 n2 => ?_⟩
      generalize eH_2 : upd H_1 t2 _ = H_2
      have s2 : Same H_1 H_2 := by rw [← eH_2]; exact sameNew n2
      have a2 : H_2 t2 = some (HO.tup [V.str "map", V.str "unmap", V.str "move"] : HO) := by rw [← eH_2]; exact upd_same
      clear eH_2
      refine ⟨t2, _, rfl, .inr (SqT.of a2), rfl, rfl, _, rfl, bT (by decide +kernel) ?_⟩
      have s02 := s1.trans s2
      have M2 := hM.same s02
      have hr2 := s02 _ _ hrw
      have ha := M2.at hq
      have hra : rw_ ∉ [a] := fun z => by rw [List.mem_singleton] at z; rw [z, ha.1] at hr2; cases hr2
      obtain ⟨i0, j1, ij⟩ := isS_iff.mp hS
      obtain ⟨k0, _, kj⟩ := isS_iff.mp hS2
      have L1 := (lacks_none d i j.toNat).mp l
      have L2 := (used_none d k j.toNat).mp n
      refine ⟨_, rfl, _, _, _, _, rfl, rfl, SqT.of hr2, rfl, j, rfl, by omega, by omega, for_range (lo := 0) (n := (j : Int).toNat) (fun q σ G => (∃ v5, σ = [some (.ref md), some (.ref rw_), some (.str "move"), some (.str s), some (.ref a), v5]) ∧ Keeps [a] H_2 G ∧ G a = some (.dK (dI (moveP d i k q)))) ⟨⟨_, rfl⟩, .refl, ha.1⟩ ?_ ?_⟩
      · rintro q σ G hq1 ⟨⟨v5, rfl⟩, kp, hG⟩
        have hrG := kp _ _ hr2 hra
        refine ⟨_, rfl, rfl, _, rfl, sN (by decide +kernel) ?_⟩
        refine ⟨_, rfl, rfl, _, rfl, sN (by decide +kernel) ?_⟩
        refine ⟨_, rfl, rfl, _, rfl, sY ?_⟩
        have there := lk_moveP d i k q (fun x hx => L1 x (by omega)) (fun x hx => L2 x (by omega)) (i + (q : Int))
        have e3 : lk (moveP d i k q) (i + (q : Int)) = lk d (i + (q : Int)) := by
          rw [there]
          rw [if_neg (fun z => by
            have a1 := L1 q (by omega)
            have a2 := L2 ((i + q - k).toNat) (by omega)
            rw [show k + (((i + q - k).toNat : Nat) : Int) = i + (q : Int) by omega] at a2
            rw [a2] at a1
            cases a1), if_neg (by omega)]
        obtain ⟨x, hx⟩ := Option.isSome_iff_exists.mp (L1 q (by omega))
        rw [hx] at e3
        have o1 := (OkP.moveP (n := q) (b := i) ha.2 k0 (by omega))
        refine ⟨_, rfl, a, rfl, .inl ⟨_, .inl hG⟩, _, rfl, _, _, _, _, rfl, rfl, SqT.of hrG, rfl, _, rfl, _, _, rfl, rfl, _, Sum.inl (i + (0 + (q : Int))), .int x, hG, rfl, ?_, ?_⟩
        · rw [dI_val, show i + (0 + (q : Int)) = i + (q : Int) by omega, e3]
          rfl
        have hrG2 : ∀ o, (upd G a o) rw_ = G rw_ := fun o => upd_ne fun z => hra (by rw [z]; exact List.mem_singleton.mpr rfl)
        refine ⟨_, rfl, _, rfl, _, _, _, _, rfl, rfl, SqT.of (by rw [hrG2]; exact hrG), rfl, _, rfl, _, _, rfl, rfl, a, _, rfl, DPut.k (k := Sum.inl (k + (0 + (q : Int)))) upd_same ?_, ⟨_, rfl⟩, (kp.trans .one).trans .one, ?_⟩
        · rw [dI_drop, dI_length, sizeLine_eq]
          have := (o1.dr (i := i + (0 + (q : Int)))).few
          omega
        · rw [upd_same, dI_drop, dI_put, show i + (0 + (q : Int)) = i + (q : Int) by omega, show k + (0 + (q : Int)) = k + (q : Int) by omega]
          show _ = some (HO.dK (dI (pt (dr (moveP d i k q) (i + (q : Int))) (k + (q : Int)) ((lk (moveP d i k q) (i + (q : Int))).getD 0))))
          rw [e3]
          rfl
      · rintro σ G ⟨⟨v5, rfl⟩, kp, hG⟩
        have kk : Keeps (fpt md m) H G := (Keeps.same s02).trans (kp_one kp (fpt_mem hq))
        refine fin_ .non _ _ (M2.put (d' := moveP d i k j.toNat) hq kp hG (OkP.moveP ha.2 k0 (by omega))) ?_ kk (fun x hx => .inl (by rwa [fpt_ptM M2 hq] at hx)) .non
        show pur (pt m s (a, _)) = pt (pur m) s _
        rw [pur_pt, inn_of h]

end
end Bm
set_option maxRecDepth 100000
set_option maxHeartbeats 4000000
/-! an operation asked of the memory -/
namespace Bm
open PySem L2 L3 Pm
/-- the errors' classes -/
structure Cs where
  BN : Addr
  T : Addr
  S : Addr
  L : Addr
  V : Addr
  B : Addr
  U : Addr
/-- the class and its methods -/
structure PlK (P : Program) (w : World) (K : PySem.W.Frag) (mg : Str → Option Value) (base : Heap) (C : Addr) (c : Cs) : Prop where
  tp : PlT K C
  add_ : HasM P w K mg base (L2.CX P w) 4 C "add" ["self", "space"] (spAdd C c.BN c.T)
  drop_ : HasM P w K mg base (L2.CX P w) 4 C "drop" ["self", "space"] (spDrop C c.S)
  map_ : HasM P w K mg base (L2.CX P w) 5 C "map" ["self", "space", "begin", "many"] (spMap C c.S c.B c.U)
  unmap_ : HasM P w K mg base (L2.CX P w) 5 C "unmap" ["self", "space", "begin", "many"] (spUnmap C c.S c.B)
  move_ : HasM P w K mg base (L2.CX P w) 5 C "move" ["self", "space", "begin", "many", "to"] (spMove C c.S c.B c.L c.U)
  write_ : HasM P w K mg base (L2.CX P w) 5 C "write" ["self", "space", "place", "value"] (spWrite C c.S c.L c.V)
  read_ : HasM P w K mg base (L2.CX P w) 5 C "read" ["self", "space", "place"] (spRead C c.S c.L)
  places_ : HasM P w K mg base (L2.CX P w) 4 C "places" ["self", "space"] (spPlaces C c.S)
  fork_ : HasM P w K mg base (L2.CX P w) 4 C "fork" ["self", "space", "child"] (spFork C c.S c.BN c.T)

/-- the error of the word w, with the attribute y -/
def errE (c : Cs) (w : Str) (y : V) (H : Hp) (E : XK) : Prop := (w = "name" → ∀ H', Same H H' → E (.ref c.BN) none H') ∧ (w = "taken" → attrE c.T "name" y H E) ∧ (w = "space" → attrE c.S "name" y H E) ∧ (w = "place" → attrE c.L "place" y H E) ∧
  (w = "value" → E (.ref c.V) none H) ∧ (w = "area" → E (.ref c.B) none H) ∧ (w = "used" → attrE c.U "place" y H E)
def spAsked (C : Addr) (c : Cs) : Sp := fun vs H Q E => ∃ (p rw_ dx hd : Addr) (m : Sp3) (o : Op), vs = [.ref p, .ref rw_] ∧ PlA C H p dx hd m ∧ H rw_ = some (.tup o.row) ∧ Args H o ∧ m.length < 100000 ∧
  (∀ w y, fault (pur m) o = er w y → errE c w y H E) ∧
  (fault (pur m) o = none → ∀ r H' m', PlA C H' p dx hd m' → pur m' = done (pur m) o → Keeps (fpt hd m) H H' → (∀ a ∈ fpt hd m', a ∈ fpt hd m ∨ H a = none) → ThV H' r (resD (pur m) o) → Q r H')
theorem no_held {x : Str} {v : V} (h : (x == ("held" : Str)) = false) : ([(("held" : Str), v)] : List (Str × V)).lookup x = none := by
  rw [List.lookup_cons, h]; rfl
theorem newF_bad {M : Mem} {z : V} (h : nameB z = false) : newF M z = er "name" .non := by
  cases z with
  | str c =>
    show (if nameS c = true then _ else _) = _
    rw [if_neg (by rw [show nameS c = false from h]; simp)]
  | _ => rfl
theorem newF_str {m : Sp3} {c : Str} (h : nameS c = true) : newF (pur m) (.str c) = if (lk m c).isSome = true then er "taken" (.str c) else none := by
  show (if nameS c = true then _ else _) = _
  rw [if_pos h, pur_lk]
  cases lk m c <;> rfl
theorem inSp_bad {m : Sp3} {y : V} {f : Pl → Err} (h : ∀ s, y = .str s → lk m s = none) : inSp (pur m) y f = er "space" y := by
  cases y with
  | str s =>
    show (match lk (pur m) s with | none => er "space" (.str s) | some d => f d) = _
    rw [pur_lk, h s rfl]
    rfl
  | _ => rfl
theorem inSp_ok {m : Sp3} {s : Str} {a : Addr} {d : Pl} {f : Pl → Err} (h : lk m s = some (a, d)) : inSp (pur m) (.str s) f = f d := by
  show (match lk (pur m) s with | none => er "space" (.str s) | some d => f d) = _
  rw [pur_lk, h]
  rfl
theorem plF_bad {d : Pl} {z : V} (h : ∀ i, z = .int i → lk d i = none) : plF d z = er "place" z := by
  cases z with
  | int i =>
    show (if (lk d i).isSome = true then none else er "place" (.int i)) = _
    rw [h i rfl]
    rfl
  | _ => rfl
theorem plF_ok {d : Pl} {i x : Int} (h : lk d i = some x) : plF d (.int i) = none := by
  show (if (lk d i).isSome = true then none else er "place" (.int i)) = _
  rw [h]
  rfl
theorem usF_eq {d : Pl} {i j : Int} {x : Int} (h : used d i j.toNat = some x) : usF d (.int i) (.int j) = er "used" (.int x) := by
  show (used d i j.toNat).map _ = _
  rw [h]
  rfl
theorem usF_0 {d : Pl} {i j : Int} (h : used d i j.toNat = none) : usF d (.int i) (.int j) = none := by
  show (used d i j.toNat).map _ = _
  rw [h]
  rfl
theorem laF_eq {d : Pl} {i j : Int} {x : Int} (h : lacks d i j.toNat = some x) : laF d (.int i) (.int j) = er "place" (.int x) := by
  show (lacks d i j.toNat).map _ = _
  rw [h]
  rfl
theorem laF_0 {d : Pl} {i j : Int} (h : lacks d i j.toNat = none) : laF d (.int i) (.int j) = none := by
  show (lacks d i j.toNat).map _ = _
  rw [h]
  rfl
theorem lkp {m : Sp3} {s : Str} {a : Addr} {d : Pl} (h : lk m s = some (a, d)) : lk (pur m) s = some d := by rw [pur_lk, h]; rfl
section
variable {P : Program} {w : World} {K : PySem.W.Frag} {mg : Str → Option Value} {base : Heap}
theorem scAsked : FnScope ["_law_memory", "_law_row_here", "_law_word", "_law_title"] ["_law_memory", "_law_row_here"] (defScope sAsked) := ⟨rfl, rfl, rfl, by decide +kernel, rfl, by decide +kernel, by decide +kernel⟩
theorem ok_asked {f C : Addr} {c : Cs} {fd : FuncData} (F : Fun K "_law_asked" "_law_asked" sAsked f fd) (R : PlK P w K mg base C c) : FnOk P w K mg base (L2.CX P w) 6 f fd ["_law_memory", "_law_row_here"] (spAsked C c) := by
  have TP := R.tp
  obtain ⟨fadd, fdadd, mmadd, Gadd, badd⟩ := R.add_
  obtain ⟨fdrop, fddrop, mmdrop, Gdrop, bdrop⟩ := R.drop_
  obtain ⟨ffork, fdfork, mmfork, Gfork, bfork⟩ := R.fork_
  obtain ⟨fmap, fdmap, mmmap, Gmap, bmap⟩ := R.map_
  obtain ⟨funmap, fdunmap, mmunmap, Gunmap, bunmap⟩ := R.unmap_
  obtain ⟨fmove, fdmove, mmmove, Gmove, bmove⟩ := R.move_
  obtain ⟨fwrite, fdwrite, mmwrite, Gwrite, bwrite⟩ := R.write_
  obtain ⟨fread, fdread, mmread, Gread, bread⟩ := R.read_
  obtain ⟨fplaces, fdplaces, mmplaces, Gplaces, bplaces⟩ := R.places_

  refine F.okX scAsked (fun vs H Q E h => ?_) (fun cdv A outer s H vs Q E hr h => ?_)
  · obtain ⟨p, rw_, dx, hd, m, o, rfl, _⟩ := h
    rfl
  · obtain ⟨p, rw_, dx, hd, m, o, rfl, hP, hrw, ha, hl, bad, fin_⟩ := h
    have hr4 := hr.mono (show 4 ≤ 5 by decide)
    refine ⟨_, (pss_cons (ps_par (i := 2) (j := 3) (by rfl) scAsked.nd rfl rfl (by decide) rfl rfl (pa_cons (pe_ix ix_tup (pv 1) pe_int (fun _ _ => rfl)) (pa_cons (pe_ix ix_tup (pv 1) pe_int (fun _ _ => rfl)) pa_nil)) (by rfl))
      (pss_cons (ps_if (pt_cmpR op_eq (pv 2) pe_str (nomark _))
        (pss_one (ps_ret (pe_meth (pv 0) TP.cl mmadd Gadd hr4 badd .nil (passes_call (takes_of rfl rfl rfl rfl) (fun _ _ _ _ h => h)) (pa_cons (pv 3) pa_nil))))
        pss_nil)
      (pss_cons (ps_if (pt_cmpR op_eq (pv 2) pe_str (nomark _))
        (pss_one (ps_ret (pe_meth (pv 0) TP.cl mmdrop Gdrop hr4 bdrop .nil (passes_call (takes_of rfl rfl rfl rfl) (fun _ _ _ _ h => h)) (pa_cons (pv 3) pa_nil))))
        pss_nil)
      (pss_cons (ps_if (pt_cmpR op_eq (pv 2) pe_str (nomark _))
        (pss_one (ps_ret (pe_meth (pv 0) TP.cl mmfork Gfork hr4 bfork .nil (passes_call (takes_of rfl rfl rfl rfl) (fun _ _ _ _ h => h)) (pa_cons (pv 3) (pa_cons (pe_ix ix_tup (pv 1) pe_int (fun _ _ => rfl)) pa_nil)))))
        pss_nil)
      (pss_cons (ps_if (pt_cmpR op_eq (pv 2) pe_str (nomark _))
        (pss_one (ps_ret (pe_meth (pv 0) TP.cl mmread Gread hr bread .nil (passes_call (takes_of rfl rfl rfl rfl) (fun _ _ _ _ h => h)) (pa_cons (pv 3) (pa_cons (pe_ix ix_tup (pv 1) pe_int (fun _ _ => rfl)) pa_nil)))))
        pss_nil)
      (pss_cons (ps_if (pt_cmpR op_eq (pv 2) pe_str (nomark _))
        (pss_one (ps_ret (pe_meth (pv 0) TP.cl mmplaces Gplaces hr4 bplaces .nil (passes_call (takes_of rfl rfl rfl rfl) (fun _ _ _ _ h => h)) (pa_cons (pv 3) pa_nil))))
        pss_nil)
      (pss_cons (ps_if (pt_cmpR op_eq (pv 2) pe_str (nomark _))
        (pss_one (ps_ret (pe_meth (pv 0) TP.cl mmwrite Gwrite hr bwrite .nil (passes_call (takes_of rfl rfl rfl rfl) (fun _ _ _ _ h => h)) (pa_cons (pv 3) (pa_cons (pe_ix ix_tup (pv 1) pe_int (fun _ _ => rfl)) (pa_cons (pe_ix ix_tup (pv 1) pe_int (fun _ _ => rfl)) pa_nil))))))
        pss_nil)
      (pss_cons (ps_if (pt_cmpR op_eq (pv 2) pe_str (nomark _))
        (pss_one (ps_ret (pe_meth (pv 0) TP.cl mmmap Gmap hr bmap .nil (passes_call (takes_of rfl rfl rfl rfl) (fun _ _ _ _ h => h)) (pa_cons (pv 3) (pa_cons (pe_ix ix_tup (pv 1) pe_int (fun _ _ => rfl)) (pa_cons (pe_ix ix_tup (pv 1) pe_int (fun _ _ => rfl)) pa_nil))))))
        pss_nil)
      (pss_cons (ps_if (pt_cmpR op_eq (pv 2) pe_str (nomark _))
        (pss_one (ps_ret (pe_meth (pv 0) TP.cl mmunmap Gunmap hr bunmap .nil (passes_call (takes_of rfl rfl rfl rfl) (fun _ _ _ _ h => h)) (pa_cons (pv 3) (pa_cons (pe_ix ix_tup (pv 1) pe_int (fun _ _ => rfl)) (pa_cons (pe_ix ix_tup (pv 1) pe_int (fun _ _ => rfl)) pa_nil))))))
        pss_nil)
      (pss_one (ps_ret (pe_meth (pv 0) TP.cl mmmove Gmove hr bmove .nil (passes_call (takes_of rfl rfl rfl rfl) (fun _ _ _ _ h => h)) (pa_cons (pv 3) (pa_cons (pe_ix ix_tup (pv 1) pe_int (fun _ _ => rfl)) (pa_cons (pe_ix ix_tup (pv 1) pe_int (fun _ _ => rfl)) (pa_cons (pe_ix ix_tup (pv 1) pe_int (fun _ _ => rfl)) pa_nil)))))))))))))))), ?_⟩

    have hy := ha _ List.mem_cons_self
    cases o with
    | add y =>
      have hrw : H rw_ = some (.tup [.str "add", y]) := hrw
      refine ⟨_, rfl, _, _, _, _, rfl, rfl, SqT.of hrw, rfl, _, rfl, _, _, _, _, rfl, rfl, SqT.of hrw, rfl, _, _, rfl, ?_⟩
      refine ⟨_, rfl, rfl, _, rfl, sY ?_⟩
      refine ⟨_, rfl, p, dx, _, rfl, hP.ins, no_held (by decide +kernel), _, rfl, ?_⟩

      refine ⟨p, dx, hd, m, y, rfl, hP, hy.1, hy.2, hl, fun e => (bad _ _ (newF_bad e)).1 rfl, fun s e1 e2 e3 => ?_, fun s e1 e2 e3 a H' na kp P' => ?_⟩
      · subst e1
        exact (bad "taken" (.str s) ((newF_str e2).trans (if_pos e3))).2.1 rfl
      · subst e1
        refine fin_ ((newF_str e2).trans (if_neg (by rw [e3]; simp))) _ _ _ P' ?_ (kp_one kp List.mem_cons_self) (fun x hx => (fpt_add x hx).imp id fun e => by rw [e]; exact na) .non
        show pur (m ++ [(s, a, [])]) = pur m ++ [(s, [])]
        unfold pur
        rw [List.map_append]
        rfl
    | drop y =>
      have hrw : H rw_ = some (.tup [.str "drop", y]) := hrw
      refine ⟨_, rfl, _, _, _, _, rfl, rfl, SqT.of hrw, rfl, _, rfl, _, _, _, _, rfl, rfl, SqT.of hrw, rfl, _, _, rfl, ?_⟩
      refine ⟨_, rfl, rfl, _, rfl, sN (by decide +kernel) ?_⟩
      refine ⟨_, rfl, rfl, _, rfl, sY ?_⟩
      refine ⟨_, rfl, p, dx, _, rfl, hP.ins, no_held (by decide +kernel), _, rfl, ?_⟩

      refine ⟨p, dx, hd, m, y, rfl, hP, hy.1, fun e => (bad _ _ (inSp_bad e)).2.2.1 rfl, fun s e1 e2 H' kp P' => ?_⟩
      subst e1
      obtain ⟨x, hx⟩ := Option.isSome_iff_exists.mp e2
      exact fin_ (inSp_ok (a := x.1) (d := x.2) hx) _ _ _ P' (pur_dr m s) (kp_one kp List.mem_cons_self) (fun x hx => .inl (fpt_drop x hx)) .non
    | places y =>
      have hrw : H rw_ = some (.tup [.str "places", y]) := hrw
      refine ⟨_, rfl, _, _, _, _, rfl, rfl, SqT.of hrw, rfl, _, rfl, _, _, _, _, rfl, rfl, SqT.of hrw, rfl, _, _, rfl, ?_⟩
      refine ⟨_, rfl, rfl, _, rfl, sN (by decide +kernel) ?_⟩
      refine ⟨_, rfl, rfl, _, rfl, sN (by decide +kernel) ?_⟩
      refine ⟨_, rfl, rfl, _, rfl, sN (by decide +kernel) ?_⟩
      refine ⟨_, rfl, rfl, _, rfl, sN (by decide +kernel) ?_⟩
      refine ⟨_, rfl, rfl, _, rfl, sY ?_⟩
      refine ⟨_, rfl, p, dx, _, rfl, hP.ins, no_held (by decide +kernel), _, rfl, ?_⟩

      refine ⟨p, dx, hd, m, y, rfl, hP, hy.1, fun e => (bad _ _ (inSp_bad e)).2.2.1 rfl, fun s a d e1 e2 ys l h1 h2 h3 => ?_⟩
      subst e1
      refine fin_ (inSp_ok e2) _ _ m (hP.same (sameNew h3)) rfl (Keeps.same (sameNew h3)) (fun x hx => .inl hx) ?_
      have e : resD (pur m) (.places (.str s)) = .list (ys.map .int) := by
        show PyData.list ((sortI ((inn (pur m) s).map (·.1))).map .int) = _
        rw [inn_of (lkp e2), ← sortI_eq h1 h2]
      rw [e]
      exact .lst upd_same
    | fork y z =>
      have hz := ha z (by simp [Op.args, Op.more])
      have hrw : H rw_ = some (.tup [.str "fork", y, z]) := hrw
      refine ⟨_, rfl, _, _, _, _, rfl, rfl, SqT.of hrw, rfl, _, rfl, _, _, _, _, rfl, rfl, SqT.of hrw, rfl, _, _, rfl, ?_⟩
      refine ⟨_, rfl, rfl, _, rfl, sN (by decide +kernel) ?_⟩
      refine ⟨_, rfl, rfl, _, rfl, sN (by decide +kernel) ?_⟩
      refine ⟨_, rfl, rfl, _, rfl, sY ?_⟩
      refine ⟨_, rfl, p, dx, _, rfl, hP.ins, no_held (by decide +kernel), _, rfl, _, rfl, _, _, _, _, rfl, rfl, SqT.of hrw, rfl, ?_⟩

      refine ⟨p, dx, hd, m, y, z, rfl, hP, hy.1, hz.1, hz.2, hl, fun e => (bad _ _ (inSp_bad e)).2.2.1 rfl, fun s e1 e2 e3 => ?_, fun s c' e1 e2 e3 e4 e5 => ?_, fun s c' b d e1 e2 e3 e4 e5 a H' na kp P' => ?_⟩
      · subst e1
        obtain ⟨x, hx⟩ := Option.isSome_iff_exists.mp e2
        exact (bad _ _ ((inSp_ok (a := x.1) (d := x.2) hx).trans (newF_bad e3))).1 rfl
      · subst e1 e3
        obtain ⟨x, hx⟩ := Option.isSome_iff_exists.mp e2
        exact (bad "taken" (.str c') ((inSp_ok (a := x.1) (d := x.2) hx).trans ((newF_str e4).trans (if_pos e5)))).2.1 rfl
      · subst e1 e3
        refine fin_ ((inSp_ok e2).trans ((newF_str e4).trans (if_neg (by rw [e5]; simp)))) _ _ _ P' ?_ (kp_one kp List.mem_cons_self) (fun x hx => (fpt_add x hx).imp id fun e => by rw [e]; exact na) .non
        show pur (m ++ [(c', a, d)]) = pur m ++ [(c', inn (pur m) s)]
        rw [inn_of (lkp e2)]
        unfold pur
        rw [List.map_append]
        rfl
    | read y z =>
      have hz := ha z (by simp [Op.args, Op.more])
      have hrw : H rw_ = some (.tup [.str "read", y, z]) := hrw
      refine ⟨_, rfl, _, _, _, _, rfl, rfl, SqT.of hrw, rfl, _, rfl, _, _, _, _, rfl, rfl, SqT.of hrw, rfl, _, _, rfl, ?_⟩
      refine ⟨_, rfl, rfl, _, rfl, sN (by decide +kernel) ?_⟩
      refine ⟨_, rfl, rfl, _, rfl, sN (by decide +kernel) ?_⟩
      refine ⟨_, rfl, rfl, _, rfl, sN (by decide +kernel) ?_⟩
      refine ⟨_, rfl, rfl, _, rfl, sY ?_⟩
      refine ⟨_, rfl, p, dx, _, rfl, hP.ins, no_held (by decide +kernel), _, rfl, _, rfl, _, _, _, _, rfl, rfl, SqT.of hrw, rfl, ?_⟩

      refine ⟨p, dx, hd, m, y, z, rfl, hP, hy.1, hz.1, fun e => (bad _ _ (inSp_bad e)).2.2.1 rfl, fun s a d e1 e2 e3 => ?_, fun s a d i x e1 e2 e3 e4 => ?_⟩
      · subst e1
        exact (bad _ _ ((inSp_ok e2).trans (plF_bad e3))).2.2.2.1 rfl
      · subst e1 e3
        refine fin_ ((inSp_ok e2).trans (plF_ok e4)) _ _ m hP rfl .refl (fun x hx => .inl hx) ?_
        have e : resD (pur m) (.read (.str s) (.int i)) = .int x := by
          show PyData.int ((lk (inn (pur m) s) i).getD 0) = _
          rw [inn_of (lkp e2), e4]
          rfl
        rw [e]
        exact .int x
    | write y z v =>
      have hz := ha z (by simp [Op.args, Op.more])
      have hv := ha v (by simp [Op.args, Op.more])
      have hrw : H rw_ = some (.tup [.str "write", y, z, v]) := hrw
      refine ⟨_, rfl, _, _, _, _, rfl, rfl, SqT.of hrw, rfl, _, rfl, _, _, _, _, rfl, rfl, SqT.of hrw, rfl, _, _, rfl, ?_⟩
      refine ⟨_, rfl, rfl, _, rfl, sN (by decide +kernel) ?_⟩
      refine ⟨_, rfl, rfl, _, rfl, sN (by decide +kernel) ?_⟩
      refine ⟨_, rfl, rfl, _, rfl, sN (by decide +kernel) ?_⟩
      refine ⟨_, rfl, rfl, _, rfl, sN (by decide +kernel) ?_⟩
      refine ⟨_, rfl, rfl, _, rfl, sN (by decide +kernel) ?_⟩
      refine ⟨_, rfl, rfl, _, rfl, sY ?_⟩
      refine ⟨_, rfl, p, dx, _, rfl, hP.ins, no_held (by decide +kernel), _, rfl, _, rfl, _, _, _, _, rfl, rfl, SqT.of hrw, rfl, _, rfl, _, _, _, _, rfl, rfl, SqT.of hrw, rfl, ?_⟩

      have fo : ∀ {s a d}, lk m s = some (a, d) → fault (pur m) (.write (.str s) z v) = (plF d z).or (if isC v = true then none else er "value" .non) := fun e => inSp_ok e
      refine ⟨p, dx, hd, m, y, z, v, rfl, hP, hy.1, hz.1, hv.1, fun e => (bad _ _ (inSp_bad e)).2.2.1 rfl, fun s a d e1 e2 e3 => ?_, fun s a d i x e1 e2 e3 e4 e5 => ?_, fun s a d i x j e1 e2 e3 e4 e5 e6 H' kp P' => ?_⟩
      · subst e1
        exact (bad _ _ ((fo e2).trans (by rw [plF_bad e3]; rfl))).2.2.2.1 rfl
      · subst e1 e3
        exact (bad "value" .non ((fo e2).trans (by rw [plF_ok e4, e5]; rfl))).2.2.2.2.1 rfl
      · subst e1 e3 e5
        refine fin_ ((fo e2).trans (by rw [plF_ok e4, e6]; rfl)) _ _ _ P' ?_ (kp_one kp (fpt_mem e2)) (fun x hx => .inl (by rwa [fpt_pt hP e2] at hx)) .non
        show pur (pt m s (a, _)) = pt (pur m) s _
        rw [pur_pt, inn_of (lkp e2)]
    | map y b n =>
      have hb := ha b (by simp [Op.args, Op.more])
      have hn := ha n (by simp [Op.args, Op.more])
      have hrw : H rw_ = some (.tup [.str "map", y, b, n]) := hrw
      refine ⟨_, rfl, _, _, _, _, rfl, rfl, SqT.of hrw, rfl, _, rfl, _, _, _, _, rfl, rfl, SqT.of hrw, rfl, _, _, rfl, ?_⟩
      refine ⟨_, rfl, rfl, _, rfl, sN (by decide +kernel) ?_⟩
      refine ⟨_, rfl, rfl, _, rfl, sN (by decide +kernel) ?_⟩
      refine ⟨_, rfl, rfl, _, rfl, sN (by decide +kernel) ?_⟩
      refine ⟨_, rfl, rfl, _, rfl, sN (by decide +kernel) ?_⟩
      refine ⟨_, rfl, rfl, _, rfl, sN (by decide +kernel) ?_⟩
      refine ⟨_, rfl, rfl, _, rfl, sN (by decide +kernel) ?_⟩
      refine ⟨_, rfl, rfl, _, rfl, sY ?_⟩
      refine ⟨_, rfl, p, dx, _, rfl, hP.ins, no_held (by decide +kernel), _, rfl, _, rfl, _, _, _, _, rfl, rfl, SqT.of hrw, rfl, _, rfl, _, _, _, _, rfl, rfl, SqT.of hrw, rfl, ?_⟩

      have fo : ∀ {s a d}, lk m s = some (a, d) → fault (pur m) (.map (.str s) b n) = if isS b n = true then usF d b n else er "area" .non := fun e => inSp_ok e
      refine ⟨p, dx, hd, m, y, b, n, rfl, hP, hy.1, hb.1, hn.1, fun e => (bad _ _ (inSp_bad e)).2.2.1 rfl, fun s e1 e2 e3 => ?_, fun s a d i j x e1 e2 e3 e4 e5 e6 => ?_, fun s a d i j e1 e2 e3 e4 e5 e6 H' kp P' => ?_⟩
      · subst e1
        obtain ⟨x, hx⟩ := Option.isSome_iff_exists.mp e2
        exact (bad "area" .non ((fo (a := x.1) (d := x.2) hx).trans (if_neg (by rw [e3]; simp)))).2.2.2.2.2.1 rfl
      · subst e1 e3 e4
        exact (bad "used" (.int x) ((fo e2).trans ((if_pos e5).trans (usF_eq e6)))).2.2.2.2.2.2 rfl
      · subst e1 e3 e4
        refine fin_ ((fo e2).trans ((if_pos e5).trans (usF_0 e6))) _ _ _ P' ?_ (kp_one kp (fpt_mem e2)) (fun x hx => .inl (by rwa [fpt_pt hP e2] at hx)) .non
        show pur (pt m s (a, _)) = pt (pur m) s _
        rw [pur_pt, inn_of (lkp e2)]
    | unmap y b n =>
      have hb := ha b (by simp [Op.args, Op.more])
      have hn := ha n (by simp [Op.args, Op.more])
      have hrw : H rw_ = some (.tup [.str "unmap", y, b, n]) := hrw
      refine ⟨_, rfl, _, _, _, _, rfl, rfl, SqT.of hrw, rfl, _, rfl, _, _, _, _, rfl, rfl, SqT.of hrw, rfl, _, _, rfl, ?_⟩
      refine ⟨_, rfl, rfl, _, rfl, sN (by decide +kernel) ?_⟩
      refine ⟨_, rfl, rfl, _, rfl, sN (by decide +kernel) ?_⟩
      refine ⟨_, rfl, rfl, _, rfl, sN (by decide +kernel) ?_⟩
      refine ⟨_, rfl, rfl, _, rfl, sN (by decide +kernel) ?_⟩
      refine ⟨_, rfl, rfl, _, rfl, sN (by decide +kernel) ?_⟩
      refine ⟨_, rfl, rfl, _, rfl, sN (by decide +kernel) ?_⟩
      refine ⟨_, rfl, rfl, _, rfl, sN (by decide +kernel) ?_⟩
      refine ⟨_, rfl, rfl, _, rfl, sY ?_⟩
      refine ⟨_, rfl, p, dx, _, rfl, hP.ins, no_held (by decide +kernel), _, rfl, _, rfl, _, _, _, _, rfl, rfl, SqT.of hrw, rfl, _, rfl, _, _, _, _, rfl, rfl, SqT.of hrw, rfl, ?_⟩

      have fo : ∀ {s a d}, lk m s = some (a, d) → fault (pur m) (.unmap (.str s) b n) = if isS b n = true then none else er "area" .non := fun e => inSp_ok e
      refine ⟨p, dx, hd, m, y, b, n, rfl, hP, hy.1, hb.1, hn.1, fun e => (bad _ _ (inSp_bad e)).2.2.1 rfl, fun s e1 e2 e3 => ?_, fun s a d i j e1 e2 e3 e4 e5 H' kp P' => ?_⟩
      · subst e1
        obtain ⟨x, hx⟩ := Option.isSome_iff_exists.mp e2
        exact (bad "area" .non ((fo (a := x.1) (d := x.2) hx).trans (if_neg (by rw [e3]; simp)))).2.2.2.2.2.1 rfl
      · subst e1 e3 e4
        refine fin_ ((fo e2).trans (if_pos e5)) _ _ _ P' ?_ (kp_one kp (fpt_mem e2)) (fun x hx => .inl (by rwa [fpt_pt hP e2] at hx)) .non
        show pur (pt m s (a, _)) = pt (pur m) s _
        rw [pur_pt, inn_of (lkp e2)]
    | move y b n t =>
      have hb := ha b (by simp [Op.args, Op.more])
      have hn := ha n (by simp [Op.args, Op.more])
      have ht := ha t (by simp [Op.args, Op.more])
      have hrw : H rw_ = some (.tup [.str "move", y, b, n, t]) := hrw
      refine ⟨_, rfl, _, _, _, _, rfl, rfl, SqT.of hrw, rfl, _, rfl, _, _, _, _, rfl, rfl, SqT.of hrw, rfl, _, _, rfl, ?_⟩
      refine ⟨_, rfl, rfl, _, rfl, sN (by decide +kernel) ?_⟩
      refine ⟨_, rfl, rfl, _, rfl, sN (by decide +kernel) ?_⟩
      refine ⟨_, rfl, rfl, _, rfl, sN (by decide +kernel) ?_⟩
      refine ⟨_, rfl, rfl, _, rfl, sN (by decide +kernel) ?_⟩
      refine ⟨_, rfl, rfl, _, rfl, sN (by decide +kernel) ?_⟩
      refine ⟨_, rfl, rfl, _, rfl, sN (by decide +kernel) ?_⟩
      refine ⟨_, rfl, rfl, _, rfl, sN (by decide +kernel) ?_⟩
      refine ⟨_, rfl, rfl, _, rfl, sN (by decide +kernel) ?_⟩
      refine ⟨_, rfl, p, dx, _, rfl, hP.ins, no_held (by decide +kernel), _, rfl, _, rfl, _, _, _, _, rfl, rfl, SqT.of hrw, rfl, _, rfl, _, _, _, _, rfl, rfl, SqT.of hrw, rfl, _, rfl, _, _, _, _, rfl, rfl, SqT.of hrw, rfl, ?_⟩

      have fo : ∀ {s a d}, lk m s = some (a, d) → fault (pur m) (.move (.str s) b n t) = if isS b n = true ∧ isS t n = true then (laF d b n).or (usF d t n) else er "area" .non := fun e => inSp_ok e
      refine ⟨p, dx, hd, m, y, b, n, t, rfl, hP, hy.1, hb.1, hn.1, ht.1, fun e => (bad _ _ (inSp_bad e)).2.2.1 rfl, fun s e1 e2 e3 => ?_, fun s a d i j x e1 e2 e3 e4 e5 e5' e6 => ?_, fun s a d i j k x e1 e2 e3 e4 et e5 e5' e6 e7 => ?_, fun s a d i j k e1 e2 e3 e4 et e5 e5' e6 e7 H' kp P' => ?_⟩
      · subst e1
        obtain ⟨x, hx⟩ := Option.isSome_iff_exists.mp e2
        exact (bad "area" .non ((fo (a := x.1) (d := x.2) hx).trans (if_neg (fun z => by rcases e3 with q | q <;> simp [q] at z)))).2.2.2.2.2.1 rfl
      · subst e1 e3 e4
        exact (bad "place" (.int x) ((fo e2).trans ((if_pos ⟨e5, e5'⟩).trans (by rw [laF_eq e6]; rfl)))).2.2.2.1 rfl
      · subst e1 e3 e4 et
        exact (bad "used" (.int x) ((fo e2).trans ((if_pos ⟨e5, e5'⟩).trans (by rw [laF_0 e6, usF_eq e7]; rfl)))).2.2.2.2.2.2 rfl
      · subst e1 e3 e4 et
        refine fin_ ((fo e2).trans ((if_pos ⟨e5, e5'⟩).trans (by rw [laF_0 e6, usF_0 e7]; rfl))) _ _ _ P' ?_ (kp_one kp (fpt_mem e2)) (fun x hx => .inl (by rwa [fpt_pt hP e2] at hx)) .non
        show pur (pt m s (a, _)) = pt (pur m) s _
        rw [pur_pt, inn_of (lkp e2)]
end
end Bm
set_option maxRecDepth 100000
set_option maxHeartbeats 4000000
/-! what a call gives, or its error's word and attribute -/
namespace Bm
open PySem L2 L3 LamX Pm
/-- the classes in the law's order -/
def cl (c : Cs) : List Addr := [c.BN, c.T, c.S, c.L, c.V, c.B, c.U]
abbrev words : List Str := ["name", "taken", "space", "place", "value", "area", "used"]
/-- the errors' classes as they are asked -/
structure ErK (K : PySem.W.Frag) (mg : Str → Option Value) (c : Cs) (CM : Addr) : Prop where
  gBN : mg "BadName" = some (.ref c.BN)
  gT : mg "Taken" = some (.ref c.T)
  gS : mg "NoSpace" = some (.ref c.S)
  gL : mg "NoPlace" = some (.ref c.L)
  gV : mg "BadValue" = some (.ref c.V)
  gB : mg "BadArea" = some (.ref c.B)
  gU : mg "Used" = some (.ref c.U)
  gM : mg "MapError" = some (.ref CM)
  exc : ∀ D ∈ cl c, L2.ExcC K D
  em : ∀ D ∈ cl c, PySem.W.exmOne K (.ref D) (.ref CM) = some true
  val : ∀ D ∈ cl c, PySem.W.kitOne K (.ref D) (.type "ValueError") = some true
  kit : ∀ (i j : Nat) (D D' : Addr), (cl c)[i]? = some D → (cl c)[j]? = some D' → PySem.W.kitOne K (.ref D) (.ref D') = some (decide (i = j))
  xfT : XfC K c.T ∧ PySem.W.findIn K (.ref c.T) "name" = some none
  xfS : XfC K c.S ∧ PySem.W.findIn K (.ref c.S) "name" = some none
  xfL : XfC K c.L ∧ PySem.W.findIn K (.ref c.L) "place" = some none
  xfU : XfC K c.U ∧ PySem.W.findIn K (.ref c.U) "place" = some none
/-- an attribute of one of two classes -/
theorem pe_exfN {X : Cx} {c : Cs} {CM : Addr} {e : Expr} {te : TE} {pos : Pos} (Er : ErK X.K X.mg c CM) (he : PE X e te) (hb : attributeBase e "name" X.env (eval e X.env) = eval e X.env := by rfl) : PE X (.Attribute e "name" pos) (fun σ H Q => tExf c.T "name" te σ H Q ∨ tExf c.S "name" te σ H Q) where
  run pins s σ H Q I h := by
    rcases h with h | h
    · exact (pe_exf Er.xfT.1 Er.xfT.2 he hb).run pins s σ H Q I h
    · exact (pe_exf Er.xfS.1 Er.xfS.2 he hb).run pins s σ H Q I h
theorem pe_exfP {X : Cx} {c : Cs} {CM : Addr} {e : Expr} {te : TE} {pos : Pos} (Er : ErK X.K X.mg c CM) (he : PE X e te) (hb : attributeBase e "place" X.env (eval e X.env) = eval e X.env := by rfl) : PE X (.Attribute e "place" pos) (fun σ H Q => tExf c.L "place" te σ H Q ∨ tExf c.U "place" te σ H Q) where
  run pins s σ H Q I h := by
    rcases h with h | h
    · exact (pe_exf Er.xfL.1 Er.xfL.2 he hb).run pins s σ H Q I h
    · exact (pe_exf Er.xfU.1 Er.xfU.2 he hb).run pins s σ H Q I h
/-- what is wished of an exception of the lambda -/
def XTold (c : Cs) (Q : VK) : XK := fun cls d H =>
  (∃ (i : Nat) (w : Str) (D : Addr), cls = .ref D ∧ d = none ∧ (cl c)[i]? = some D ∧ words[i]? = some w ∧ (i = 0 ∨ i = 4 ∨ i = 5) ∧ ∀ H' t, Same H H' → H' t = some (.tup [.str w, .non]) → Q (.ref t) H') ∨
  (∃ (i : Nat) (w x : Str) (D dd : Addr) (y : V), cls = .ref D ∧ d = some dd ∧ H dd = some (.xd [(x, y)]) ∧ (cl c)[i]? = some D ∧ words[i]? = some w ∧ (((i = 1 ∨ i = 2) ∧ x = "name") ∨ ((i = 3 ∨ i = 6) ∧ x = "place")) ∧ ∀ H' t, Same H H' → H' t = some (.tup [.str w, y]) → Q (.ref t) H')
/-- what _law_told makes of a lambda's reading -/
def TTTold (c : Cs) : (XK → Hp → VK → Prop) → Hp → VK → Prop := fun tl H Q =>
  ∀ (H1 : Hp) (E' : XK) (Q' : VK), Same H H1 → (∀ v H', (∀ H'' l, Same H' H'' → H'' l = some (.lst [v]) → Q (.ref l) H'') → Q' v H') → (∀ cls d H', XTold c Q cls d H' → E' cls d H') → tl E' H1 Q'
theorem errE_told {c : Cs} {w : Str} {y : V} {H : Hp} {E : XK} {Q : VK} (hE : ∀ cls d H', XTold c Q cls d H' → E cls d H') (hw : w = "name" ∨ w = "value" ∨ w = "area" → y = .non) (k : ∀ H' t, Same H H' → H' t = some (.tup [.str w, y]) → Q (.ref t) H') : errE c w y H E := by
  have at_ : ∀ (D : Addr) (x : Str) (i : Nat), (cl c)[i]? = some D → words[i]? = some w → (((i = 1 ∨ i = 2) ∧ x = "name") ∨ ((i = 3 ∨ i = 6) ∧ x = "place")) → attrE D x y H E := fun D x i e1 e2 e3 H0 d s0 nd =>
    hE _ _ _ (.inr ⟨i, w, x, D, d, y, rfl, rfl, upd_same, e1, e2, e3, fun H' t s' e => k H' t (s0.trans ((sameNew nd).trans s')) e⟩)
  have pl : ∀ (D : Addr) (i : Nat) (H0 : Hp), Same H H0 → (cl c)[i]? = some D → words[i]? = some w → (i = 0 ∨ i = 4 ∨ i = 5) → y = .non → E (.ref D) none H0 := fun D i H0 s0 e1 e2 e3 e4 =>
    hE _ _ _ (.inl ⟨i, w, D, rfl, rfl, e1, e2, e3, fun H' t s' e => k H' t (s0.trans s') (by rw [e4]; exact e)⟩)
  refine ⟨fun e H0 s0 => ?_, fun e => ?_, fun e => ?_, fun e => ?_, fun e => ?_, fun e => ?_, fun e => ?_⟩
  · exact pl c.BN 0 H0 s0 rfl (by rw [e]; rfl) (.inl rfl) (hw (.inl e))
  · exact at_ c.T "name" 1 rfl (by rw [e]; rfl) (.inl ⟨.inl rfl, rfl⟩)
  · exact at_ c.S "name" 2 rfl (by rw [e]; rfl) (.inl ⟨.inr rfl, rfl⟩)
  · exact at_ c.L "place" 3 rfl (by rw [e]; rfl) (.inr ⟨.inl rfl, rfl⟩)
  · exact pl c.V 4 H (Same.refl _) rfl (by rw [e]; rfl) (.inr (.inl rfl)) (hw (.inr (.inl e)))
  · exact pl c.B 5 H (Same.refl _) rfl (by rw [e]; rfl) (.inr (.inr rfl)) (hw (.inr (.inr e)))
  · exact at_ c.U "place" 6 rfl (by rw [e]; rfl) (.inr ⟨.inr rfl, rfl⟩)
def marks (i : Nat) : List Bool := (List.range 7).map fun j => decide (i = j)
theorem marks_ok : ∀ i < 7, (marks i).count true = 1 ∧ (marks i)[i]? = some true ∧ ∀ m < i, (marks i)[m]? = some false := by decide
abbrev NT : List Str := ["_law_work", "_law_found", "_law_caught", "error", "_law_marks", "_law_word"]
theorem scTold : FnScope NT ["_law_work"] (defScope sTold) := ⟨rfl, rfl, rfl, by decide +kernel, rfl, by decide +kernel, by decide +kernel⟩
theorem told_gives {X : Cx} {g CM : Addr} {c : Cs} {cdg : Value} {q : Str} (isinstance_ : X.mg "isinstance" = none) (valueError_ : X.mg "ValueError" = none) (Er : ErK X.K X.mg c CM) :
    GivesTo X NT "_law_told" (defScope sTold) g cdg (defBody sTold) "_law_work" q (TTTold c) := by
  intro f c' s H Q tl act hc h
  refine ⟨_, pss_cons (ps_asg (pe_tup (pa_cons pe_non (pa_cons pe_non pa_nil))) (pg_tup (by rfl) (pgs_cons (pg_name (i := 1) scTold.nd rfl (Or.inl rfl)) (pgs_cons (pg_name (i := 2) scTold.nd rfl (Or.inl rfl)) pgs_nil))))
    (pss_cons (ps_try_trk (c := .ref CM) (i := 3) (ts := fun _ => tAsg (tVar 3) (gName 2))
        (tb := fun W => tAsg (fun σZ HZ Q => σZ[0]? = some (some (.ref f)) ∧ HZ c' = some (CodeO c' q) ∧ ∃ E : XK, (∀ cls d σ' H', E cls d H' → W cls d σ' H') ∧ tl E HZ Q) (gName 1))
        rfl rfl scTold.nd rfl rfl ⟨rfl, by decide, Or.inl Er.gM⟩
        (fun W pn xe tk _ => pss_one (ps_set (i := 1) scTold.nd rfl (Or.inl rfl) ⟨fun pins s1 τ G R I hx => (act W pn xe hx.2.2.choose _ _ tk hx.2.2.choose_spec.1).run pins s1 τ G R I ⟨hx.1, hx.2.1, hx.2.2.choose_spec.2⟩⟩))
        (fun a pn => pss_one (ps_set (i := 2) scTold.nd rfl (Or.inl rfl) (pv 3))))
    (pss_cons (ps_if (pt_cmpR op_isN (pv 2) pe_non (nomark _))
      (pss_one (ps_ret (pe_lst (pa_cons (pv 1) pa_nil))))
      pss_nil)
    (pss_cons (ps_set (i := 4) scTold.nd rfl (Or.inl rfl) (pe_lst (pa_cons (pe_callB (r := rIsV X.K) call_isV (by rfl) isinstance_ PyProof.Rows.boot_isinstance (pa_cons (pv 2) (pa_cons (pe_glob (v := .ref c.BN) rfl Er.gBN rfl) pa_nil))) (pa_cons (pe_callB (r := rIsV X.K) call_isV (by rfl) isinstance_ PyProof.Rows.boot_isinstance (pa_cons (pv 2) (pa_cons (pe_glob (v := .ref c.T) rfl Er.gT rfl) pa_nil))) (pa_cons (pe_callB (r := rIsV X.K) call_isV (by rfl) isinstance_ PyProof.Rows.boot_isinstance (pa_cons (pv 2) (pa_cons (pe_glob (v := .ref c.S) rfl Er.gS rfl) pa_nil))) pa_nil)))))
    (pss_cons (ps_set (i := 4) scTold.nd rfl (Or.inl rfl) (pe_op op_cat (pv 4) (pe_lst (pa_cons (pe_callB (r := rIsV X.K) call_isV (by rfl) isinstance_ PyProof.Rows.boot_isinstance (pa_cons (pv 2) (pa_cons (pe_glob (v := .ref c.L) rfl Er.gL rfl) pa_nil))) (pa_cons (pe_callB (r := rIsV X.K) call_isV (by rfl) isinstance_ PyProof.Rows.boot_isinstance (pa_cons (pv 2) (pa_cons (pe_glob (v := .ref c.V) rfl Er.gV rfl) pa_nil))) (pa_cons (pe_callB (r := rIsV X.K) call_isV (by rfl) isinstance_ PyProof.Rows.boot_isinstance (pa_cons (pv 2) (pa_cons (pe_glob (v := .ref c.B) rfl Er.gB rfl) pa_nil))) pa_nil))))))
    (pss_cons (ps_expr (pe_bm PySem.F.plainAttrs_list PySem.F.slot_list_append PySem.F.type_list_append mt_append (pv 4) (pa_cons (pe_callB (r := rIsV X.K) call_isV (by rfl) isinstance_ PyProof.Rows.boot_isinstance (pa_cons (pv 2) (pa_cons (pe_glob (v := .ref c.U) rfl Er.gU rfl) pa_nil))) pa_nil)))
    (pss_cons (ps_if (PW.pt (pw_or (pt_cmpR op_ne (pe_bm PySem.F.plainAttrs_list PySem.F.slot_list_count PySem.F.type_list_count mt_countB (pv 4) (pa_cons pe_bl pa_nil)) pe_int (nomark _)) (pw_or1 (pt_not (pt_val (pe_callB (r := rIsV X.K) call_isV (by rfl) isinstance_ PyProof.Rows.boot_isinstance (pa_cons (pv 2) (pa_cons (pe_bltn (v := .ty "ValueError") rfl valueError_ (by decide +kernel) rfl) pa_nil))))))))
      (pss_one (ps_ret (pe_tup (pa_cons pe_str (pa_cons pe_non pa_nil)))))
      pss_nil)
    (pss_cons (ps_set (i := 5) scTold.nd rfl (Or.inl rfl) (pe_ix ix_list (pe_lst (pa_cons pe_str (pa_cons pe_str (pa_cons pe_str (pa_cons pe_str (pa_cons pe_str (pa_cons pe_str (pa_cons pe_str pa_nil)))))))) (pe_bm PySem.F.plainAttrs_list PySem.F.slot_list_index PySem.F.type_list_index mt_index (pv 4) (pa_cons pe_bl pa_nil)) (fun _ _ => rfl)))
    (pss_cons (ps_if (pt_cmpR op_in_seq (pv 5) (pe_tup (pa_cons pe_str (pa_cons pe_str pa_nil))) (by rfl))
      (pss_one (ps_ret (pe_tup (pa_cons (pv 5) (pa_cons (pe_exfN Er (pv 2)) pa_nil)))))
      pss_nil)
    (pss_one (ps_ret (pe_tup (pa_cons (pv 5) (pa_cons (pe_ifExp (pt_cmpR op_in_seq (pv 5) (pe_tup (pa_cons pe_str (pa_cons pe_str pa_nil))) (by rfl)) (pe_exfP Er (pv 2)) pe_non) pa_nil))))))))))))), ?_⟩

  refine ⟨by show 2 ≤ sizeLine; decide, fun t nt => ?_⟩
  generalize eH1 : upd H t _ = H1
  have s1 : Same H H1 := by rw [← eH1]; exact sameNew nt
  have a1 : H1 t = some (HO.tup [V.non, V.non] : HO) := by rw [← eH1]; exact upd_same
  clear eH1
  refine ⟨t, _, rfl, SqT.of a1, rfl, _, _, rfl, _, _, rfl, rfl, ?_⟩
  refine ⟨rfl, s1 _ _ hc, XTold c Q, fun cls d σ' H' hE hl => ⟨?_, fun a na => ?_⟩, ?_⟩
  · rcases hE with ⟨i, w, D, rfl, _, e, _⟩ | ⟨i, w, x, D, dd, y, rfl, _, _, e, _⟩
    · exact Er.em D (List.mem_of_getElem? e)
    · exact Er.em D (List.mem_of_getElem? e)
  · obtain ⟨i, w, D, rfl, hi, hw, ty, fin⟩ : ∃ (i : Nat) (w : Str) (D : Addr), cls = .ref D ∧ (cl c)[i]? = some D ∧ words[i]? = some w ∧ (∀ H2, Same (upd H' a (ExV cls d a)) H2 → TyV X.K H2 (.ref a) (.ref D)) ∧
        (((i = 0 ∨ i = 4 ∨ i = 5) ∧ ∀ H2 t, Same H' H2 → H2 t = some (.tup [.str w, .non]) → Q (.ref t) H2) ∨
         (∃ x dd y, d = some dd ∧ H' dd = some (.xd [(x, y)]) ∧ (((i = 1 ∨ i = 2) ∧ x = ("name" : Str)) ∨ ((i = 3 ∨ i = 6) ∧ x = ("place" : Str))) ∧ ∀ H2 t, Same H' H2 → H2 t = some (.tup [.str w, y]) → Q (.ref t) H2)) := by
      rcases hE with ⟨i, w, D, rfl, rfl, e1, e2, e3, k⟩ | ⟨i, w, x, D, dd, y, rfl, rfl, hd, e1, e2, e3, k⟩
      · exact ⟨i, w, D, rfl, e1, e2, fun H2 s => .exc (s _ _ upd_same) (Er.exc D (List.mem_of_getElem? e1)), .inl ⟨e3, k⟩⟩
      · refine ⟨i, w, D, rfl, e1, e2, fun H2 s => .excd (fs := [(x, y)]) (s _ _ upd_same) (s _ _ (by rw [upd_ne (ne_of_none hd na)]; exact hd)) (Er.exc D (List.mem_of_getElem? e1)) ?_, .inr ⟨x, dd, y, rfl, hd, e3, k⟩⟩
        rcases e3 with ⟨_, rfl⟩ | ⟨_, rfl⟩
        · show ¬ ("__class__" : Str) ∈ [("name" : Str)]
          decide +kernel
        · show ¬ ("__class__" : Str) ∈ [("place" : Str)]
          decide +kernel
    have i7 : i < 7 := (List.getElem?_eq_some_iff.mp hi).1
    obtain ⟨cnt, at_, before⟩ := marks_ok i i7
    have kt : ∀ (j : Nat) (D' : Addr), (cl c)[j]? = some D' → PySem.W.kitOne X.K (.ref D) (.ref D') = some (decide (i = j)) := fun j D' e => Er.kit i j D D' hi e
    match σ', hl with
    | [v0, v1, v2, v3, v4, v5], _ =>
      refine ⟨_, rfl, _, rfl, rfl, _, rfl, iteF ?_⟩
      have sa := sameNew (o := ExV (.ref D) d a) na
      have ea : upd H' a (ExV (.ref D) d a) a = some (ExV (.ref D) d a) := upd_same
      generalize upd H' a (ExV (.ref D) d a) = H2 at ty sa ea ⊢
      have ty0 := ty H2 (Same.refl _)
      refine ⟨_, rfl, _, _, _, _, _, rfl, .own c.BN, ty0, kt 0 _ rfl, ?_⟩
      refine ⟨_, rfl, _, _, _, _, _, rfl, .own c.T, ty0, kt 1 _ rfl, ?_⟩
      refine ⟨_, rfl, _, _, _, _, _, rfl, .own c.S, ty0, kt 2 _ rfl, ?_⟩
      refine ⟨by show 3 ≤ sizeLine; decide, fun L1 nL1 => ?_⟩
      generalize eH3 : upd H2 L1 _ = H3
      have s3 : Same H2 H3 := by rw [← eH3]; exact sameNew nL1
      have a3 : H3 L1 = some (HO.lst [V.bl (decide (i = 0)), V.bl (decide (i = 1)), V.bl (decide (i = 2))] : HO) := by rw [← eH3]; exact upd_same
      clear eH3
      have ty3 := ty H3 s3
      refine ⟨_, rfl, _, rfl, _, _, _, _, _, rfl, .own c.L, ty3, kt 3 _ rfl, ?_⟩
      refine ⟨_, rfl, _, _, _, _, _, rfl, .own c.V, ty3, kt 4 _ rfl, ?_⟩
      refine ⟨_, rfl, _, _, _, _, _, rfl, .own c.B, ty3, kt 5 _ rfl, ?_⟩
      refine ⟨by show 3 ≤ sizeLine; decide, fun L2 nL2 => ?_⟩
      generalize eH4 : upd H3 L2 _ = H4
      have s4 : Same H3 H4 := by rw [← eH4]; exact sameNew nL2
      have a4 : H4 L2 = some (HO.lst [V.bl (decide (i = 3)), V.bl (decide (i = 4)), V.bl (decide (i = 5))] : HO) := by rw [← eH4]; exact upd_same
      clear eH4
      refine ⟨L1, L2, _, _, rfl, rfl, s4 _ _ a3, a4, by show 6 ≤ sizeLine; decide, fun R nR => ?_⟩
      have s24 := s3.trans s4
      refine ⟨_, rfl, .inl ⟨rfl, _, SqL.of upd_same⟩, _, rfl, _, _, _, _, _, rfl, .own c.U, ty _ (s24.trans (sameNew nR)), kt 6 _ rfl, R, _, _, rfl, rfl, upd_same, by show 6 < sizeLine; decide, ?_⟩
      generalize e5 : upd (upd H4 R _) R _ = H5
      have s5 : Same H4 H5 := by rw [← e5, upd_upd]; exact sameNew nR
      have a5 : H5 R = some (HO.lst ((marks i).map V.bl)) := by rw [← e5]; exact upd_same
      clear e5
      have s25 := s24.trans s5
      refine ⟨_, rfl, .inl ⟨rfl, _, SqL.of a5⟩, R, marks i, true, rfl, rfl, SqL.of a5, ?_⟩
      rw [cnt]
      refine ⟨rfl, _, rfl, iteF ?_⟩
      refine ⟨_, rfl, _, _, _, _, _, rfl, .ty _, ty H5 s25, Er.val D (List.mem_of_getElem? hi), _, rfl, iteF ?_⟩
      refine ⟨by show 7 ≤ sizeLine; decide, fun M nM => ?_⟩
      generalize eH6 : upd H5 M _ = H6
      have s6 : Same H5 H6 := by rw [← eH6]; exact sameNew nM
      have a6 : H6 M = some (HO.lst (words.map V.str) : HO) := by rw [← eH6]; exact upd_same
      clear eH6
      have look : ((marks i).map V.bl)[i]? = some (.bl true) := by rw [List.getElem?_map, at_]; rfl
      have early : ∀ (m : Nat) (z' : V), m < i → ((marks i).map V.bl)[m]? = some z' → eqV z' (.bl true) = false := fun m z' hm hz => by
        rw [List.getElem?_map, before m hm] at hz
        cases hz
        rfl
      have a56 := s6 _ _ a5
      have flats : ((marks i).map V.bl).all flatV = true := by
        rw [List.all_map]
        exact List.all_eq_true.mpr fun _ _ => rfl
      refine ⟨_, rfl, .inl ⟨rfl, _, SqL.of a56⟩, R, (marks i).map V.bl, .bl true, i, .bl true, rfl, rfl, SqL.of a56, rfl, flats, look, rfl, early, ?_⟩
      have word' : atI (words.map V.str) (i : Nat) = some (.str w) := atI_nat (by rw [List.getElem?_map, hw]; rfl)
      refine ⟨M, _, _, _, rfl, rfl, SqL.of a6, word', ?_⟩
      have s26 := s25.trans s6
      refine ⟨_, rfl, by show 2 ≤ sizeLine; decide, fun t7 n7 => ?_⟩
      generalize eH7 : upd H6 t7 _ = H7
      have s7 : Same H6 H7 := by rw [← eH7]; exact sameNew n7
      have a7 : H7 t7 = some (HO.tup [V.str "taken", V.str "space"] : HO) := by rw [← eH7]; exact upd_same
      clear eH7
      refine ⟨t7, _, rfl, .inr (SqT.of a7), rfl, rfl, _, rfl, ?_⟩
      have s27 := s26.trans s7
      have s07 := sa.trans s27
      have other : ∀ {b : Bool} {R1 : Hp → Prop}, inV (.str w) [V.str "place", V.str "used"] = b → (∀ t8 H8, Same H7 H8 → H8 t8 = some (.tup [V.str "place", V.str "used"]) → R1 H8) → ∀ t8, H7 t8 = none → R1 (upd H7 t8 (.tup [V.str "place", V.str "used"])) := fun _ f t8 n8 => f t8 _ (sameNew n8) upd_same
      rcases fin with ⟨hi3, k⟩ | ⟨x, dd, y, rfl, hd, hi3, k⟩
      · have w1 : inV (.str w) [V.str "taken", V.str "space"] = false ∧ inV (.str w) [V.str "place", V.str "used"] = false := by
          rcases hi3 with rfl | rfl | rfl <;> (cases hw; constructor <;> decide +kernel)
        refine bF w1.1 ⟨_, rfl, _, rfl, by show 2 ≤ sizeLine; decide, fun t8 n8 => ?_⟩
        generalize eH8 : upd H7 t8 _ = H8
        have s8 : Same H7 H8 := by rw [← eH8]; exact sameNew n8
        have a8 : H8 t8 = some (HO.tup [V.str "place", V.str "used"] : HO) := by rw [← eH8]; exact upd_same
        clear eH8
        refine ⟨t8, _, rfl, .inr (SqT.of a8), rfl, rfl, _, rfl, bF w1.2 ⟨by show 2 ≤ sizeLine; decide, fun tp np => k _ tp (s07.trans (s8.trans (sameNew np))) upd_same⟩⟩
      · rcases hi3 with ⟨hi3, rfl⟩ | ⟨hi3, rfl⟩
        · have w1 : inV (.str w) [V.str "taken", V.str "space"] = true := by
            rcases hi3 with rfl | rfl <;> (cases hw; decide +kernel)
          refine bT w1 ⟨_, rfl, ?_⟩
          have at1 : ∀ H8, Same H7 H8 → True := fun _ _ => trivial
          have hda : H7 dd = some (.xd [("name", y)]) := s07 _ _ hd
          have haa := s27 _ _ ea
          have body : 2 ≤ sizeLine ∧ ∀ tp, H7 tp = none → Q (.ref tp) (upd H7 tp (.tup [.str w, y])) := ⟨by decide, fun tp np => k _ tp (s07.trans (sameNew np)) upd_same⟩
          rcases hi3 with rfl | rfl
          · cases hi
            exact .inl ⟨_, rfl, a, dd, _, y, rfl, haa, hda, rfl, body⟩
          · cases hi
            exact .inr ⟨_, rfl, a, dd, _, y, rfl, haa, hda, rfl, body⟩
        · have w1 : inV (.str w) [V.str "taken", V.str "space"] = false ∧ inV (.str w) [V.str "place", V.str "used"] = true := by
            rcases hi3 with rfl | rfl <;> (cases hw; constructor <;> decide +kernel)
          refine bF w1.1 ⟨_, rfl, _, rfl, by show 2 ≤ sizeLine; decide, fun t8 n8 => ?_⟩
          generalize eH8 : upd H7 t8 _ = H8
          have s8 : Same H7 H8 := by rw [← eH8]; exact sameNew n8
          have a8 : H8 t8 = some (HO.tup [V.str "place", V.str "used"] : HO) := by rw [← eH8]; exact upd_same
          clear eH8
          have hda : H8 dd = some (.xd [("place", y)]) := s8 _ _ (s07 _ _ hd)
          have haa := s8 _ _ (s27 _ _ ea)
          have body : 2 ≤ sizeLine ∧ ∀ tp, H8 tp = none → Q (.ref tp) (upd H8 tp (.tup [.str w, y])) := ⟨by decide, fun tp np => k _ tp (s07.trans (s8.trans (sameNew np))) upd_same⟩
          refine ⟨t8, _, rfl, .inr (SqT.of a8), rfl, rfl, _, rfl, bT w1.2 ?_⟩
          rcases hi3 with rfl | rfl
          · cases hi
            exact .inl ⟨_, rfl, a, dd, _, y, rfl, haa, hda, rfl, body⟩
          · cases hi
            exact .inr ⟨_, rfl, a, dd, _, y, rfl, haa, hda, rfl, body⟩
  · refine h H1 _ _ s1 (fun v H' hv => ?_) (fun cls d H' hx => hx)
    exact ⟨_, rfl, rfl, _, rfl, iteT ⟨_, rfl, by show 1 ≤ sizeLine; decide, fun l nl => hv _ l (sameNew nl) upd_same⟩⟩
end Bm
set_option maxRecDepth 100000
set_option maxHeartbeats 4000000
/-! names that the law draws -/
namespace Bm
open PySem L2 L3 Pm
theorem flats_str (ts : List Str) : (ts.map V.str).all flatV = true := by
  rw [List.all_map]
  exact List.all_eq_true.mpr fun _ _ => rfl
/-- a short text of real signs -/
def TitleS (w : Str) : Prop := w.length ≤ 9 ∧ w.cps.all (· < 0x110000) = true
theorem nd_sub {α : Type} [DecidableEq α] : ∀ (l m : List α), l.Nodup → (∀ x ∈ l, x ∈ m) → l.length ≤ m.length
  | [], _, _, _ => Nat.zero_le _
  | a :: l, m, n, h => by
    rw [List.nodup_cons] at n
    have ih := nd_sub l (m.erase a) n.2 fun x hx => (List.mem_erase_of_ne (fun e => n.1 (by rw [← e]; exact hx))).mpr (h x (List.mem_cons_of_mem _ hx))
    have := List.length_erase_of_mem (h a List.mem_cons_self)
    have := List.length_pos_of_mem (h a List.mem_cons_self)
    rw [List.length_cons]
    omega
theorem inV_str (a : Str) (ts : List Str) : inV (.str a) (ts.map V.str) = decide (a ∈ ts) := by
  induction ts with
  | nil => simp [inV]
  | cons t ts ih =>
    have e : inV (.str a) (V.str t :: ts.map V.str) = (eqV (.str t) (.str a) || inV (.str a) (ts.map V.str)) := rfl
    rw [List.map_cons, e, ih, Bool.eq_iff_iff]
    simp only [eqV, Bool.or_eq_true, beq_iff_eq, decide_eq_true_eq, List.mem_cons]
    constructor
    · rintro (h | h)
      · exact .inl h.symm
      · exact .inr h
    · rintro (h | h)
      · exact .inl h.symm
      · exact .inr h
/-- one sign -/
abbrev sg (c : Nat) : Str := ⟨#[c]⟩
theorem sg_inj {a b : Nat} (h : sg a = sg b) : a = b := by
  have := congrArg (fun s : Str => s.cps.toList) h
  simpa using this
abbrev five : List Nat := ("qrstu" : Str).cps.toList
theorem five_free {ts : List Str} (h : ts.length ≤ 3) : ∃ c cs, (five.filter fun c => !inV (.str (sg c)) (ts.map V.str)) = c :: cs := by
  cases e : five.filter fun c => !inV (.str (sg c)) (ts.map V.str) with
  | cons c cs => exact ⟨c, cs, rfl⟩
  | nil =>
    exfalso
    rw [List.filter_eq_nil_iff] at e
    have sub : ∀ x ∈ five.map sg, x ∈ ts := fun x hx => by
      obtain ⟨c, hc, rfl⟩ := List.mem_map.mp hx
      have := e c hc
      rw [inV_str] at this
      simpa using this
    have nd : (five.map sg).Nodup := by decide +kernel
    have := nd_sub _ _ nd sub
    have l5 : (five.map sg).length = 5 := by decide +kernel
    omega
theorem join_sg : ∀ cs : List Nat, (Str.join "" (cs.map sg)).cps.toList = cs
  | [] => rfl
  | [c] => rfl
  | c :: d :: cs => by
    have ih := join_sg (d :: cs)
    show ((sg c).append "" |>.append (Str.join "" ((d :: cs).map sg))).cps.toList = _
    simp only [Str.append, Array.toList_append, ih]
    rfl
theorem title_join {cs : List Nat} (h : cs.length ≤ 8) (hc : ∀ c ∈ cs, c ∈ LET.cps.toList) : TitleS (Str.join "" (cs.map sg)) := by
  have e := join_sg cs
  constructor
  · show (Str.join "" (cs.map sg)).cps.size ≤ 9
    rw [← Array.length_toList, e]
    omega
  · rw [Array.all_eq_true']
    intro x hx
    have hx' : x ∈ cs := by rw [← e]; exact Array.mem_toList_iff.mpr hx
    have : ∀ c ∈ LET.cps.toList, decide (c < 0x110000) = true := by decide +kernel
    exact this x (hc x hx')
theorem title_sg {c : Nat} (h : c ∈ five) : TitleS (sg c) := by
  have : ∀ c ∈ five, c < 0x110000 := by decide +kernel
  have hc := this c h
  exact ⟨by show (1 : Nat) ≤ 9; decide, by simpa using hc⟩
theorem Dr.upd {d st L : Addr} {H : Hp} {o : HO} (D : Dr d st H) (h1 : L ≠ d) (h2 : L ≠ st) : Dr d st (upd H L o) := by
  obtain ⟨ms, sp, mx, hd, hs, h⟩ := D
  exact ⟨ms, sp, mx, by rw [upd_ne h1.symm]; exact hd, by rw [upd_ne h2.symm]; exact hs, h⟩
def spTitles : Sp := fun vs H Q _ => ∃ (d st : Addr), vs = [.ref d] ∧ Dr d st H ∧ ∀ (l : Addr) (ts : List Str) (H' : Hp), H l = none → H' l = some (.lst (ts.map V.str)) → ts.length = 4 → (∀ w ∈ ts, TitleS w) → Dr d st H' → Kp d st H H' → Q (.ref l) H'
section
variable {P : Program} {w : World} {K : PySem.W.Frag} {mg : Str → Option Value} {base : Heap}
theorem scTitles : FnScope ["_law_draw_here", "_law_found", "_law_turn", "_law_word", "_law_sign", "_law_one"] ["_law_draw_here"] (defScope sTitles) := ⟨rfl, rfl, rfl, by decide +kernel, rfl, by decide +kernel, by decide +kernel⟩
theorem ok_titles {f fP : Addr} {fd fdP : FuncData} (F : Fun K "_law_titles" "_law_titles" sTitles f fd) (range_ : mg "range" = none) (HD : Has P w K mg base CX0 1 "_law_draw" ["_law_draw_here", "_law_below"] spDraw)
    (GP : FnOk P w K mg base CX0 2 fP fdP ["_law_draw_here", "_law_some"] spPick) (GPS : FnOk P w K mg base CX0 2 fP fdP ["_law_draw_here", "_law_some"] spPickS) (mP : mg "_law_pick" = some (.ref fP)) (kP : PySem.W.keepIn K (.ref fP) = true) (bP : Binds K fdP ["_law_draw_here", "_law_some"] []) :
    FnOk P w K mg base CX0 3 f fd ["_law_draw_here"] spTitles := by
  obtain ⟨fD, fdD, GD, mD, kD, bD⟩ := HD
  refine F.ok scTitles (fun vs H Q E h => ?_) (fun cdv A outer s H vs Q E hr h => ?_)
  · obtain ⟨d, st, rfl, _⟩ := h
    rfl
  · obtain ⟨d, st, rfl, D, k⟩ := h
    have hr1 := hr.mono (show 1 ≤ 2 by decide)
    refine ⟨_, (pss_cons (ps_set (i := 1) scTitles.nd rfl (Or.inr rfl) (pe_lst pa_nil))
      (pss_cons (ps_for PassesOwn.never rfl (pi_range1 rfl range_ (pa_cons pe_int pa_nil)) (pg_name (i := 2) scTitles.nd rfl (Or.inl rfl))
        (pss_cons (ps_set (i := 3) scTitles.nd rfl (Or.inl rfl) (pe_call GP hr rfl mP kP bP .nil pass0 (pa_cons (pv 0) (pa_cons (pe_lst (pa_cons pe_str (pa_cons pe_str (pa_cons pe_str (pa_cons pe_str (pa_cons pe_str (pa_cons pe_str pa_nil))))))) pa_nil))))
          (pss_cons (ps_if (pt_cmpR op_eq (pe_call GD hr1 rfl mD kD bD .nil pass0 (pa_cons (pv 0) (pa_cons pe_int pa_nil))) pe_int (nomark _))
            (pss_one (ps_set (i := 3) scTitles.nd rfl (Or.inl rfl) (pe_join pe_str (pe_lc (own := [("_law_sign", 4)]) (g := gName 4) (tt := tYes) rfl scTitles.nd (pi_range1 rfl range_ (pa_cons (pe_op op_add pe_int (pe_call GD hr1 rfl mD kD bD .nil pass0 (pa_cons (pv 0) (pa_cons pe_int pa_nil)))) pa_nil)) (blkOk_by (own := [("_law_sign", 4)]) (N := ["_law_draw_here", "_law_found", "_law_turn", "_law_word", "_law_sign", "_law_one"]) (sc := defScope sTitles) (by decide +kernel)) (fun _ _ _ _ _ => (pg_name (i := 4) scTitles.nd rfl (Or.inl rfl))) (fun _ _ _ _ _ => pts_nil) (fun _ _ _ _ _ => (pe_call GPS hr rfl mP kP bP .nil pass0 (pa_cons (pv 0) (pa_cons pe_str pa_nil))))))))
            pss_nil)
          (pss_one (ps_expr (pe_bm PySem.F.plainAttrs_list PySem.F.slot_list_append PySem.F.type_list_append mt_append (pv 1) (pa_cons (pe_ifExp (pt_cmpR op_notIn_seq (pv 3) (pv 1) (by rfl)) (pv 3) (pe_ix ix_list (pe_lc (own := [("_law_one", 5)]) (g := gName 5) rfl scTitles.nd (pi_str pe_str) (blkOk_by (own := [("_law_one", 5)]) (N := ["_law_draw_here", "_law_found", "_law_turn", "_law_word", "_law_sign", "_law_one"]) (sc := defScope sTitles) (by decide +kernel)) (fun _ _ _ _ _ => (pg_name (i := 5) scTitles.nd rfl (Or.inl rfl))) (fun _ _ _ _ _ => pts_one (pt_cmpR (show OpR _ _ (rIn K true) from op_notIn_seq) (pv 5) (pv 1) (by rfl))) (fun _ _ _ _ _ => (pv 5))) pe_int (fun _ _ => rfl))) pa_nil)))))))
      (pss_one (ps_ret (pv 1))))), ?_⟩

    refine ⟨by decide, fun L nL => ?_⟩
    obtain ⟨Ld, Ls⟩ := D.ne (Same.refl _) nL
    refine ⟨4, rfl, by decide, by decide, for_range (lo := 0) (n := 4) (fun i σ G => (∃ v2 v3 v4 v5, σ = [some (.ref d), some (.ref L), v2, v3, v4, v5]) ∧ Dr d st G ∧ Kp d st H G ∧ ∃ ts : List Str, ts.length = i ∧ (∀ w ∈ ts, TitleS w) ∧ G L = some (.lst (ts.map V.str))) ⟨⟨_, _, _, _, rfl⟩, D.upd Ld Ls, Same.kp (sameNew nL), [], rfl, by simp, upd_same⟩ ?_ ?_⟩
    · rintro i σ G hi ⟨⟨v2, v3, v4, v5, rfl⟩, DG, KG, ts, hl, ht, hL⟩
      -- a word
      refine ⟨_, rfl, by show 6 ≤ sizeLine; decide, fun M nM => ?_⟩
      generalize eG1 : upd G M _ = G1
      have s1 : Same G G1 := by rw [← eG1]; exact sameNew nM
      have a1 : G1 M = some (HO.lst [V.str "a", V.str "b", V.str "map", V.str "begin", V.str "aa", V.str "zzzzzzzz"] : HO) := by rw [← eG1]; exact upd_same
      clear eG1
      have D1 := DG.same s1
      obtain ⟨Md, Ms⟩ := DG.ne (Same.refl _) nM
      refine ⟨d, st, M, _, rfl, D1, a1, Md, Ms, by show 0 < 6; decide, by show 6 < 1000000; decide, fun v G2 hv D2 K2 => ?_⟩
      obtain ⟨w0, rfl, hw0⟩ : ∃ w, v = .str w ∧ TitleS w := by
        simp only [List.mem_cons, List.not_mem_nil, or_false] at hv
        rcases hv with rfl | rfl | rfl | rfl | rfl | rfl <;> exact ⟨_, rfl, by decide +kernel, by decide +kernel⟩
      have L1 : G1 L = some (.lst (ts.map V.str)) := s1 _ _ hL
      have L2 : G2 L = some (.lst (ts.map V.str)) := K2 _ _ L1 Ld Ls
      have KG2 : Kp d st H G2 := (KG.trans (Same.kp s1)).trans K2
      -- perhaps another one
      refine ⟨_, rfl, d, st, _, rfl, D2, by decide, by decide, fun r G3 r0 r1 D3 K3 => ⟨rfl, _, rfl, ite2 (fun c => ?_) (fun c => ?_)⟩⟩
      · have L3 := K3 _ _ L2 Ld Ls
        have KG3 := KG2.trans K3
        refine ⟨⟨_, rfl⟩, _, rfl, d, st, _, rfl, D3, by decide, by decide, fun r2 G4 r20 r21 D4 K4 => ?_⟩
        have L4 := K4 _ _ L3 Ld Ls
        have KG4 := KG3.trans K4
        refine ⟨_, _, rfl, rfl, 1 + r2, rfl, by omega, by omega, fun J nJ => ?_⟩
        obtain ⟨Jd, Js⟩ := D4.ne (Same.refl _) nJ
        have JL : L ≠ J := fun e => by rw [← e, L4] at nJ; cases nJ
        have nJH : ∀ b o, H b = some o → b ≠ d → b ≠ st → b ≠ J := fun b o e n1 n2 => ne_of_none (KG4 b o e n1 n2) nJ
        refine lc_it walk_range (fun x G => Dr d st G ∧ Kp d st H G ∧ G L = some (.lst (ts.map V.str)) ∧ ∃ cs : List Nat, cs.length = x ∧ (∀ c ∈ cs, c ∈ LET.cps.toList) ∧ G J = some (.lst ((cs.map sg).map V.str))) ⟨D4.upd Jd Js, KG4.trans (Same.kp (sameNew nJ)), by rw [upd_ne JL]; exact L4, [], rfl, by simp, upd_same⟩ (fun _ _ _ _ => True.intro) (fun x y G G' hx hG hy => ?_) (fun G5 hG => ?_)
        · obtain ⟨DG', KG', LG', cs, hcl, hcs, hJ⟩ := hG
          obtain ⟨rfl, rfl⟩ := hy
          have x8 : x < 8 := by have : x < (1 + r2).toNat := hx; omega
          refine ⟨rfl, _, rfl, d, st, LET, rfl, DG', by decide +kernel, by decide +kernel, fun c G6 hc D6 K6 => ?_⟩
          have hJ6 := K6 _ _ hJ Jd Js
          refine ⟨_, hJ6, by rw [List.length_map, List.length_map, sizeLine_eq]; omega, D6.upd Jd Js, fun b o e n1 n2 => ?_, by rw [upd_ne JL]; exact K6 _ _ LG' Ld Ls, cs ++ [c], by rw [List.length_append, hcl]; rfl, fun c' hc' => ?_, ?_⟩
          · rw [upd_ne (nJH b o e n1 n2)]
            exact K6 _ _ (KG' b o e n1 n2) n1 n2
          · rcases List.mem_append.mp hc' with h' | h'
            · exact hcs c' h'
            · rw [List.mem_singleton] at h'
              exact h' ▸ hc
          · rw [upd_same, List.map_append, List.map_append]
            rfl
        · obtain ⟨D5, KG5, L5, cs, hcl, hcs, hJ⟩ := hG
          have x8 : cs.length ≤ 8 := by rw [hcl]; omega
          refine ⟨"", J, cs.map sg, rfl, rfl, .inl (SqL.of hJ), ?_, ?_⟩
          · have : ∀ cs : List Nat, ((cs.map sg).map (·.length)).sum = cs.length := fun cs => by
              induction cs with
              | nil => rfl
              | cons c cs ih =>
                rw [List.map_cons, List.map_cons, List.sum_cons, ih, List.length_cons]
                show 1 + cs.length = _
                omega
            rw [this, show ("" : Str).length = 0 from by decide +kernel]
            omega
          have hw1 : TitleS (Txt.join "" (cs.map sg)) := by
            rw [TL.join_eq]
            exact title_join x8 hcs
          generalize Txt.join "" (cs.map sg) = w1 at hw1 ⊢
          refine ⟨_, rfl, .inl ⟨rfl, _, SqL.of L5⟩, _, rfl, _, rfl, L, _, rfl, .inl (SqL.of L5), rfl, flats_str ts, _, rfl, ?_⟩
          have few : ts.length ≤ 3 := by omega
          have put : ∀ (w2 : Str) (G7 : Hp), TitleS w2 → Same G5 G7 → Dr d st (upd G7 L (.lst ((ts ++ [w2]).map V.str))) ∧ Kp d st H (upd G7 L (.lst ((ts ++ [w2]).map V.str))) ∧ ∃ ts' : List Str, ts'.length = i + 1 ∧ (∀ w ∈ ts', TitleS w) ∧ (upd G7 L (.lst ((ts ++ [w2]).map V.str))) L = some (.lst (ts'.map V.str)) := fun w2 G7 h2 s7 =>
            ⟨(D5.same s7).upd Ld Ls, fun b o e n1 n2 => by rw [upd_ne (ne_of_none e nL)]; exact s7 _ _ (KG5 b o e n1 n2), ts ++ [w2], by rw [List.length_append, hl]; rfl, fun w hw => by
              rcases List.mem_append.mp hw with h' | h'
              · exact ht w h'
              · rw [List.mem_singleton] at h'
                exact h' ▸ h2, upd_same⟩
          have size : (ts.map V.str).length < sizeLine := by rw [List.length_map, sizeLine_eq]; omega
          show if (!inV (.str w1) (ts.map V.str)) = true then _ else _
          cases hin : inV (.str w1) (ts.map V.str) with
          | false =>
            refine iteT ⟨_, rfl, L, _, _, rfl, rfl, L5, size, ⟨_, _, _, _, rfl⟩, ?_⟩
            have := put w1 G5 hw1 (Same.refl _)
            rw [List.map_append] at this
            exact this
          | true =>
            refine iteF ⟨_, rfl, fun D7 nD7 => ?_⟩
            refine lc_it walk_str (fun x G => Same G5 G ∧ G D7 = some (.lst (((five.take x).filter fun c => !inV (.str (sg c)) (ts.map V.str)).map fun c => V.str (sg c)))) ⟨sameNew nD7, upd_same⟩ (fun _ _ _ _ => True.intro) (fun x y G G' hx hG hy => ?_) (fun G7 hG => ?_)
            · obtain ⟨s2, h2⟩ := hG
              obtain ⟨rfl, c, hc, rfl⟩ := hy
              have tk : five.take (x + 1) = five.take x ++ [c] := by
                rw [List.take_succ, Array.getElem?_toList, hc]
                rfl
              refine ⟨rfl, _, rfl, _, rfl, L, _, rfl, .inl (SqL.of (s2 _ _ L5)), rfl, flats_str ts, _, rfl, ?_⟩
              show if (!inV (.str (sg c)) (ts.map V.str)) = true then _ else _
              cases lc : inV (.str (sg c)) (ts.map V.str) with
              | true => exact iteF ⟨s2, by rw [tk, List.filter_append]; simpa [lc] using h2⟩
              | false =>
                refine iteT ⟨_, rfl, _, h2, ?_, fun b o e => ?_, ?_⟩
                · have a1 := List.length_filter_le (fun c => !inV (.str (sg c)) (ts.map V.str)) (five.take x)
                  have a2 := List.length_take_le' x five
                  have a3 : five.length = 5 := by decide +kernel
                  rw [List.length_map, sizeLine_eq]
                  omega
                · rw [upd_ne (ne_of_none e nD7)]
                  exact s2 b o e
                · rw [upd_same, tk, List.filter_append, List.map_append]
                  simp [lc]
            · obtain ⟨s2, h2⟩ := hG
              rw [← Array.length_toList, List.take_length] at h2
              obtain ⟨c, cs', e5⟩ := five_free few
              have cm : c ∈ five := by
                have : c ∈ five.filter fun c => !inV (.str (sg c)) (ts.map V.str) := by rw [e5]; exact List.mem_cons_self
                exact (List.mem_filter.mp this).1
              have h2' : G7 D7 = some (.lst ((c :: cs').map fun c => V.str (sg c))) := by rw [← e5]; exact h2
              refine ⟨D7, _, _, _, rfl, rfl, SqL.of h2', (show atI _ ((0 : Nat) : Int) = some _ from atI_nat rfl), L, _, _, rfl, rfl, s2 _ _ L5, size, ⟨_, _, _, _, rfl⟩, ?_⟩
              have := put (sg c) G7 (title_sg cm) s2
              rw [List.map_append] at this
              exact this

      · have L3 := K3 _ _ L2 Ld Ls
        have KG3 := KG2.trans K3
        refine ⟨_, rfl, .inl ⟨rfl, _, SqL.of L3⟩, _, rfl, _, rfl, L, _, rfl, .inl (SqL.of L3), rfl, flats_str ts, _, rfl, ?_⟩
        have few : ts.length ≤ 3 := by omega
        have put : ∀ (w2 : Str) (G7 : Hp), TitleS w2 → Same G3 G7 → Dr d st (upd G7 L (.lst ((ts ++ [w2]).map V.str))) ∧ Kp d st H (upd G7 L (.lst ((ts ++ [w2]).map V.str))) ∧ ∃ ts' : List Str, ts'.length = i + 1 ∧ (∀ w ∈ ts', TitleS w) ∧ (upd G7 L (.lst ((ts ++ [w2]).map V.str))) L = some (.lst (ts'.map V.str)) := fun w2 G7 h2 s7 =>
          ⟨(D3.same s7).upd Ld Ls, fun b o e n1 n2 => by rw [upd_ne (ne_of_none e nL)]; exact s7 _ _ (KG3 b o e n1 n2), ts ++ [w2], by rw [List.length_append, hl]; rfl, fun w hw => by
            rcases List.mem_append.mp hw with h' | h'
            · exact ht w h'
            · rw [List.mem_singleton] at h'
              exact h' ▸ h2, upd_same⟩
        have size : (ts.map V.str).length < sizeLine := by rw [List.length_map, sizeLine_eq]; omega
        show if (!inV (.str w0) (ts.map V.str)) = true then _ else _
        cases hin : inV (.str w0) (ts.map V.str) with
        | false =>
          refine iteT ⟨_, rfl, L, _, _, rfl, rfl, L3, size, ⟨_, _, _, _, rfl⟩, ?_⟩
          have := put w0 G3 hw0 (Same.refl _)
          rw [List.map_append] at this
          exact this
        | true =>
          refine iteF ⟨_, rfl, fun D7 nD7 => ?_⟩
          refine lc_it walk_str (fun x G => Same G3 G ∧ G D7 = some (.lst (((five.take x).filter fun c => !inV (.str (sg c)) (ts.map V.str)).map fun c => V.str (sg c)))) ⟨sameNew nD7, upd_same⟩ (fun _ _ _ _ => True.intro) (fun x y G G' hx hG hy => ?_) (fun G7 hG => ?_)
          · obtain ⟨s2, h2⟩ := hG
            obtain ⟨rfl, c, hc, rfl⟩ := hy
            have tk : five.take (x + 1) = five.take x ++ [c] := by
              rw [List.take_succ, Array.getElem?_toList, hc]
              rfl
            refine ⟨rfl, _, rfl, _, rfl, L, _, rfl, .inl (SqL.of (s2 _ _ L3)), rfl, flats_str ts, _, rfl, ?_⟩
            show if (!inV (.str (sg c)) (ts.map V.str)) = true then _ else _
            cases lc : inV (.str (sg c)) (ts.map V.str) with
            | true => exact iteF ⟨s2, by rw [tk, List.filter_append]; simpa [lc] using h2⟩
            | false =>
              refine iteT ⟨_, rfl, _, h2, ?_, fun b o e => ?_, ?_⟩
              · have a1 := List.length_filter_le (fun c => !inV (.str (sg c)) (ts.map V.str)) (five.take x)
                have a2 := List.length_take_le' x five
                have a3 : five.length = 5 := by decide +kernel
                rw [List.length_map, sizeLine_eq]
                omega
              · rw [upd_ne (ne_of_none e nD7)]
                exact s2 b o e
              · rw [upd_same, tk, List.filter_append, List.map_append]
                simp [lc]
          · obtain ⟨s2, h2⟩ := hG
            rw [← Array.length_toList, List.take_length] at h2
            obtain ⟨c, cs', e5⟩ := five_free few
            have cm : c ∈ five := by
              have : c ∈ five.filter fun c => !inV (.str (sg c)) (ts.map V.str) := by rw [e5]; exact List.mem_cons_self
              exact (List.mem_filter.mp this).1
            have h2' : G7 D7 = some (.lst ((c :: cs').map fun c => V.str (sg c))) := by rw [← e5]; exact h2
            refine ⟨D7, _, _, _, rfl, rfl, SqL.of h2', (show atI _ ((0 : Nat) : Int) = some _ from atI_nat rfl), L, _, _, rfl, rfl, s2 _ _ L3, size, ⟨_, _, _, _, rfl⟩, ?_⟩
            have := put (sg c) G7 (title_sg cm) s2
            rw [List.map_append] at this
            exact this

    · rintro σ G ⟨⟨v2, v3, v4, v5, rfl⟩, DG, KG, ts, hl, ht, hL⟩
      exact ⟨_, rfl, k L ts G nL hL hl ht DG KG⟩
end
end Bm
set_option maxRecDepth 100000
set_option maxHeartbeats 4000000
/-! an operation that the law draws -/
namespace Bm
open PySem L2 L3 Pm
theorem tcs {v : V} {t : TA} {σ : L2.St} {H : Hp} {Q : List V → Hp → Prop} (h : t σ H fun vs H' => Q (v :: vs) H') : tCons (tC v) t σ H Q := h
theorem tns {σ : L2.St} {H : Hp} {Q : List V → Hp → Prop} (h : Q [] H) : tNil σ H Q := h
/-- parts that the law draws: a text or an int -/
def ArgG (GS : Str → Prop) (v : V) : Prop := (∃ w, v = .str w ∧ GS w) ∨ ∃ i : Int, v = .int i ∧ i.natAbs < 2 ^ 60
abbrev Arg (v : V) : Prop := ArgG TitleS v
theorem MoA.kp {d st md : Addr} {H H' : Hp} {m : Sp3} (A : MoA H md m) (D : Dr d st H) (k : Kp d st H H') : MoA H' md m := by
  have off : ∀ {a : Addr} {o : HO}, H a = some o → (∀ xs, o ≠ .lst xs) → H' a = some o := fun {a o} e n => by
    obtain ⟨ms, sp, mx, hd, hs, _⟩ := id D
    refine k a o e (fun z => ?_) (fun z => ?_)
    · rw [z, hd] at e
      exact n _ (Option.some.inj e).symm
    · rw [z, hs] at e
      exact n _ (Option.some.inj e).symm
  exact ⟨off A.held (fun _ z => by cases z), fun x hx => off (A.inner x hx) (fun _ z => by cases z), A.nodN, A.nodA, A.ok⟩
def spRow : Sp := fun vs H Q _ => ∃ (GS : Str → Prop) (d st tl md : Addr) (ts : List Str) (m : Sp3), vs = [.ref d, .ref tl, .ref md] ∧ Dr d st H ∧ tl ≠ d ∧ tl ≠ st ∧ H tl = some (.lst (ts.map V.str)) ∧ ts.length = 4 ∧ (∀ w ∈ ts, GS w) ∧ MoA H md m ∧ m.length < 100000 ∧ (∀ e ∈ m, GS e.1) ∧
  ∀ (t : Addr) (o : Op) (H' : Hp), H t = none → H' t = some (.tup o.row) → (∀ v ∈ o.args, ArgG GS v) → Dr d st H' → Kp d st H H' → Q (.ref t) H'
abbrev eleven : List Str := ["map", "write", "move", "fork", "read", "write", "unmap", "places", "map", "drop", "add"]
abbrev eight : List Str := ["map", "write", "move", "fork", "read", "unmap", "places", "drop"]
section
variable {P : Program} {w : World} {K : PySem.W.Frag} {mg : Str → Option Value} {base : Heap}
theorem scRow : FnScope ["_law_draw_here", "_law_titles_here", "_law_model", "_law_word", "_law_title", "_law_here", "_law_spot", "_law_size", "_law_value", "_law_goal"] ["_law_draw_here", "_law_titles_here", "_law_model"] (defScope sRow) := ⟨rfl, rfl, rfl, by decide +kernel, rfl, by decide +kernel, by decide +kernel⟩
theorem ok_row {f : Addr} {fd : FuncData} (F : Fun K "_law_row" "_law_row" sRow f fd) (sorted_ : mg "sorted" = none) (max_ : mg "max" = none) (HD : Has P w K mg base CX0 1 "_law_draw" ["_law_draw_here", "_law_below"] spDraw) (HP : Has P w K mg base CX0 2 "_law_pick" ["_law_draw_here", "_law_some"] spPick) :
    FnOk P w K mg base CX0 3 f fd ["_law_draw_here", "_law_titles_here", "_law_model"] spRow := by
  obtain ⟨fD, fdD, GD, mD, kD, bD⟩ := HD
  obtain ⟨fP, fdP, GP, mP, kP, bP⟩ := HP
  refine F.ok scRow (fun vs H Q E h => ?_) (fun cdv A outer s H vs Q E hr h => ?_)
  · obtain ⟨GS, d, st, tl, md, ts, m, rfl, _⟩ := h
    rfl
  · obtain ⟨GS, d, st, tl, md, ts, m, rfl, D, tld, tls, htl, hts, ht, hM, hl, hn, k⟩ := h
    have hr1 := hr.mono (show 1 ≤ 2 by decide)
    have hu := hu_of hr
    have fin0 : ∀ (t : Addr) (o : Op) (G : Hp) (H' : Hp), Kp d st H G → Dr d st G → G t = none → (∀ v ∈ o.args, ArgG GS v) → H' = upd G t (.tup o.row) → Q (.ref t) H' := fun t o G H' kp D' nt ha e => by
      subst e
      have nH : H t = none := by
        cases q : H t with
        | none => rfl
        | some u =>
          obtain ⟨n1, n2⟩ := D'.ne (Same.refl _) nt
          rw [kp t u q n1 n2] at nt
          cases nt
      exact k t o _ nH upd_same ha (D'.same (sameNew nt)) (kp.trans (Same.kp (sameNew nt)))
    have fin_ : ∀ (t : Addr) (o : Op) (G : Hp), Kp d st H G → Dr d st G → G t = none → (∀ v ∈ o.args, ArgG GS v) → Q (.ref t) (upd G t (.tup o.row)) := fun t o G kp D' nt ha => fin0 t o G _ kp D' nt ha rfl
    have tl_ : ∀ G, Kp d st H G → G tl = some (.lst (ts.map V.str)) := fun G kp => kp _ _ htl tld tls
    -- from the size on
    obtain ⟨t3, h3, r3⟩ : ∃ t3, PSs (cxOf CX0 P w K mg base ["_law_draw_here", "_law_titles_here", "_law_model", "_law_word", "_law_title", "_law_here", "_law_spot", "_law_size", "_law_value", "_law_goal"] "_law_row" (defScope sRow) f cdv A outer s H E).nox ((defBody sRow).drop 5) t3 ∧
        ∀ (w1 w2 : Str) (lh : Addr) (sp : Int) (G : Hp), w1 ∈ eight → GS w2 → Kp d st H G → Dr d st G → 0 ≤ sp → sp < 10000 →
          t3 { nx := fun _ H' => Q .non H', rt := Q } [some (.ref d), some (.ref tl), some (.ref md), some (.str w1), some (.str w2), some (.ref lh), some (.int sp), none, none, none] G := by
      refine ⟨_, (pss_cons (ps_set (i := 7) scRow.nd rfl (Or.inl rfl) (pe_op op_add pe_int (pe_call GD hr1 rfl mD kD bD .nil pass0 (pa_cons (pv 0) (pa_cons pe_int pa_nil)))))
      (pss_cons (ps_if (pt_cmpR op_in_seq (pv 3) (pe_tup (pa_cons pe_str (pa_cons pe_str pa_nil))) (by rfl))
        (pss_one (ps_ret (pe_tup (pa_cons (pv 3) (pa_cons (pv 4) pa_nil)))))
        pss_nil)
      (pss_cons (ps_if (pt_cmpR op_eq (pv 3) pe_str (nomark _))
        (pss_one (ps_ret (pe_tup (pa_cons (pv 3) (pa_cons (pv 4) (pa_cons (pe_call GP hr rfl mP kP bP .nil pass0 (pa_cons (pv 0) (pa_cons (pv 1) pa_nil))) pa_nil))))))
        pss_nil)
      (pss_cons (ps_if (pt_cmpR op_in_seq (pv 3) (pe_tup (pa_cons pe_str (pa_cons pe_str pa_nil))) (by rfl))
        (pss_cons (ps_set (i := 8) scRow.nd rfl (Or.inl rfl) (pe_call GP hr rfl mP kP bP .nil pass0 (pa_cons (pv 0) (pa_cons (pe_lst (pa_cons pe_int (pa_cons pe_int (pa_cons pe_int (pa_cons pe_int (pa_cons (pe_call GD hr1 rfl mD kD bD .nil pass0 (pa_cons (pv 0) (pa_cons pe_int pa_nil))) pa_nil)))))) pa_nil))))
          (pss_one (ps_ret (pe_ifExp (pt_cmpR op_eq (pv 3) pe_str (nomark _)) (pe_tup (pa_cons (pv 3) (pa_cons (pv 4) (pa_cons (pv 6) pa_nil)))) (pe_tup (pa_cons (pv 3) (pa_cons (pv 4) (pa_cons (pv 6) (pa_cons (pv 8) pa_nil)))))))))
        pss_nil)
      (pss_cons (ps_if (pt_cmpR op_eq (pv 3) pe_str (nomark _))
        (pss_cons (ps_set (i := 9) scRow.nd rfl (Or.inl rfl) (pe_call GP hr rfl mP kP bP .nil pass0 (pa_cons (pv 0) (pa_cons (pe_lst (pa_cons (pe_op op_add (pv 6) (pv 7)) (pa_cons (pe_op op_add (pv 6) pe_int) (pa_cons (pe_call GD hr1 rfl mD kD bD .nil pass0 (pa_cons (pv 0) (pa_cons pe_int pa_nil))) (pa_cons (pe_op op_sub pe_int (pv 7)) (pa_cons (pe_callB (call_max2 rfl) (by rfl) max_ (by decide +kernel) (pa_cons pe_int (pa_cons (pe_op op_sub (pv 6) (pv 7)) pa_nil))) pa_nil)))))) pa_nil))))
          (pss_one (ps_ret (pe_tup (pa_cons (pv 3) (pa_cons (pv 4) (pa_cons (pv 6) (pa_cons (pv 7) (pa_cons (pv 9) pa_nil)))))))))
        pss_nil)
      (pss_one (ps_ret (pe_tup (pa_cons (pv 3) (pa_cons (pv 4) (pa_cons (pv 6) (pa_cons (pv 7) pa_nil)))))))))))), ?_⟩

      intro w1 w2 lh sp G hw1 hw2 K0 D0 sp0 sp1
      refine ⟨_, rfl, d, st, _, rfl, D0, by decide, by decide, fun r2 H2 r20 r21 D2 K2 => ⟨_, _, rfl, rfl, ?_⟩⟩
      have K2' := K0.trans K2
      have hsp : sp.natAbs < 2 ^ 60 := by omega
      have hsz : (1 + r2).natAbs < 2 ^ 60 := by omega
      have D3 := D2
      have K3 := K2'
      generalize H2 = G3 at D3 K3 ⊢
      simp only [eight, List.mem_cons, List.not_mem_nil, or_false] at hw1
      rcases hw1 with rfl | rfl | rfl | rfl | rfl | rfl | rfl | rfl
      · -- map
        refine ⟨_, rfl, by show 2 ≤ sizeLine; decide, fun t1 n1 => ?_⟩
        generalize eG3_1 : upd G3 t1 _ = G3_1
        have s1 : Same G3 G3_1 := by rw [← eG3_1]; exact sameNew n1
        have a1 : G3_1 t1 = some (HO.tup [V.str "drop", V.str "places"] : HO) := by rw [← eG3_1]; exact upd_same
        clear eG3_1
        refine ⟨t1, _, rfl, .inr (SqT.of a1), rfl, rfl, _, rfl, bF (by decide +kernel) ?_⟩
        have D4 := D3.same s1
        have K4 := K3.trans (Same.kp s1)
        refine ⟨_, rfl, rfl, _, rfl, sN (by decide +kernel) ?_⟩
        refine ⟨_, rfl, by show 2 ≤ sizeLine; decide, fun t2 n2 => ?_⟩
        generalize eG3_2 : upd G3_1 t2 _ = G3_2
        have s2 : Same G3_1 G3_2 := by rw [← eG3_2]; exact sameNew n2
        have a2 : G3_2 t2 = some (HO.tup [V.str "read", V.str "write"] : HO) := by rw [← eG3_2]; exact upd_same
        clear eG3_2
        refine ⟨t2, _, rfl, .inr (SqT.of a2), rfl, rfl, _, rfl, bF (by decide +kernel) ?_⟩
        have D5 := D4.same s2
        have K5 := K4.trans (Same.kp s2)
        refine ⟨_, rfl, rfl, _, rfl, sN (by decide +kernel) ?_⟩
        exact ⟨_, rfl, _, rfl, _, rfl, _, rfl, by show 4 ≤ sizeLine; decide, fun t nt => fin_ t (.map (.str w2) (.int sp) (.int (1 + r2))) _ K5 D5 nt (fun u hu => by
          simp only [Op.args, Op.title, Op.more, List.mem_cons, List.not_mem_nil, or_false] at hu
          rcases hu with rfl | rfl | rfl
          · exact .inl ⟨_, rfl, hw2⟩
          · exact .inr ⟨_, rfl, hsp⟩
          · exact .inr ⟨_, rfl, hsz⟩)⟩
      · -- write
        refine ⟨_, rfl, by show 2 ≤ sizeLine; decide, fun t1 n1 => ?_⟩
        generalize eG3_1 : upd G3 t1 _ = G3_1
        have s1 : Same G3 G3_1 := by rw [← eG3_1]; exact sameNew n1
        have a1 : G3_1 t1 = some (HO.tup [V.str "drop", V.str "places"] : HO) := by rw [← eG3_1]; exact upd_same
        clear eG3_1
        refine ⟨t1, _, rfl, .inr (SqT.of a1), rfl, rfl, _, rfl, bF (by decide +kernel) ?_⟩
        have D4 := D3.same s1
        have K4 := K3.trans (Same.kp s1)
        refine ⟨_, rfl, rfl, _, rfl, sN (by decide +kernel) ?_⟩
        refine ⟨_, rfl, by show 2 ≤ sizeLine; decide, fun t2 n2 => ?_⟩
        generalize eG3_2 : upd G3_1 t2 _ = G3_2
        have s2 : Same G3_1 G3_2 := by rw [← eG3_2]; exact sameNew n2
        have a2 : G3_2 t2 = some (HO.tup [V.str "read", V.str "write"] : HO) := by rw [← eG3_2]; exact upd_same
        clear eG3_2
        refine ⟨t2, _, rfl, .inr (SqT.of a2), rfl, rfl, _, rfl, bT (by decide +kernel) ?_⟩
        have D5 := D4.same s2
        have K5 := K4.trans (Same.kp s2)
        refine ⟨_, rfl, _, rfl, d, st, _, rfl, D5, by decide, by decide, fun r6 G6 r60 r61 D6 K6 => ⟨by show 5 ≤ sizeLine; decide, fun M7 n7 => ?_⟩⟩
        generalize eG7 : upd G6 M7 _ = G7
        have s7 : Same G6 G7 := by rw [← eG7]; exact sameNew n7
        have a7 : G7 M7 = some (HO.lst [V.int 0, V.int 1, V.int 1000000, V.int 7, V.int r6] : HO) := by rw [← eG7]; exact upd_same
        clear eG7
        obtain ⟨m7d, m7s⟩ := D6.ne (Same.refl _) n7
        refine ⟨d, st, M7, _, rfl, D6.same s7, a7, m7d, m7s, by show 0 < 5; decide, by show 5 < 1000000; decide, fun v G8 hv D8 K8 => ?_⟩
        have K08 := K5.trans (K6.trans ((Same.kp s7).trans K8))
        obtain ⟨x8, rfl, hx8⟩ : ∃ i, v = .int i ∧ i.natAbs < 2 ^ 60 := by
          simp only [List.mem_cons, List.not_mem_nil, or_false] at hv
          rcases hv with rfl | rfl | rfl | rfl | rfl <;> exact ⟨_, rfl, by omega⟩
        refine ⟨_, rfl, rfl, _, rfl, sN (by decide +kernel) ?_⟩
        exact ⟨_, rfl, _, rfl, _, rfl, _, rfl, by show 4 ≤ sizeLine; decide, fun t nt => fin_ t (.write (.str w2) (.int sp) (.int x8)) _ K08 D8 nt (fun u hu => by
          simp only [Op.args, Op.title, Op.more, List.mem_cons, List.not_mem_nil, or_false] at hu
          rcases hu with rfl | rfl | rfl
          · exact .inl ⟨_, rfl, hw2⟩
          · exact .inr ⟨_, rfl, hsp⟩
          · exact .inr ⟨_, rfl, hx8⟩)⟩
      · -- move
        refine ⟨_, rfl, by show 2 ≤ sizeLine; decide, fun t1 n1 => ?_⟩
        generalize eG3_1 : upd G3 t1 _ = G3_1
        have s1 : Same G3 G3_1 := by rw [← eG3_1]; exact sameNew n1
        have a1 : G3_1 t1 = some (HO.tup [V.str "drop", V.str "places"] : HO) := by rw [← eG3_1]; exact upd_same
        clear eG3_1
        refine ⟨t1, _, rfl, .inr (SqT.of a1), rfl, rfl, _, rfl, bF (by decide +kernel) ?_⟩
        have D4 := D3.same s1
        have K4 := K3.trans (Same.kp s1)
        refine ⟨_, rfl, rfl, _, rfl, sN (by decide +kernel) ?_⟩
        refine ⟨_, rfl, by show 2 ≤ sizeLine; decide, fun t2 n2 => ?_⟩
        generalize eG3_2 : upd G3_1 t2 _ = G3_2
        have s2 : Same G3_1 G3_2 := by rw [← eG3_2]; exact sameNew n2
        have a2 : G3_2 t2 = some (HO.tup [V.str "read", V.str "write"] : HO) := by rw [← eG3_2]; exact upd_same
        clear eG3_2
        refine ⟨t2, _, rfl, .inr (SqT.of a2), rfl, rfl, _, rfl, bF (by decide +kernel) ?_⟩
        have D5 := D4.same s2
        have K5 := K4.trans (Same.kp s2)
        refine ⟨_, rfl, rfl, _, rfl, sY ?_⟩
        refine ⟨_, rfl, _, rfl, _, rfl, _, _, rfl, rfl, _, rfl, _, _, rfl, rfl, _, rfl, d, st, _, rfl, D5, by decide, by decide, fun r6 G6 r60 r61 D6 K6 => ⟨_, rfl, _, _, rfl, rfl, _, rfl, _, rfl, _, _, rfl, rfl, _, _, rfl, by show 5 ≤ sizeLine; decide, fun M7 n7 => ?_⟩⟩
        generalize eG7 : upd G6 M7 _ = G7
        have s7 : Same G6 G7 := by rw [← eG7]; exact sameNew n7
        have a7 : G7 M7 = some (HO.lst [V.int (sp + (1 + r2)), V.int (sp + 1), V.int r6, V.int (10000 - (1 + r2)), V.int (if sp - (1 + r2) > 0 then sp - (1 + r2) else 0)] : HO) := by rw [← eG7]; exact upd_same
        clear eG7
        obtain ⟨m7d, m7s⟩ := D6.ne (Same.refl _) n7
        refine ⟨d, st, M7, _, rfl, D6.same s7, a7, m7d, m7s, by show 0 < 5; decide, by show 5 < 1000000; decide, fun v G8 hv D8 K8 => ?_⟩
        have K08 := K5.trans (K6.trans ((Same.kp s7).trans K8))
        obtain ⟨x8, rfl, hx8⟩ : ∃ i, v = .int i ∧ i.natAbs < 2 ^ 60 := by
          simp only [List.mem_cons, List.not_mem_nil, or_false] at hv
          rcases hv with rfl | rfl | rfl | rfl | rfl
          · exact ⟨_, rfl, by omega⟩
          · exact ⟨_, rfl, by omega⟩
          · exact ⟨_, rfl, by omega⟩
          · exact ⟨_, rfl, by omega⟩
          · refine ⟨_, rfl, ?_⟩
            split <;> omega
        exact ⟨_, rfl, _, rfl, _, rfl, _, rfl, _, rfl, by show 5 ≤ sizeLine; decide, fun t nt => fin_ t (.move (.str w2) (.int sp) (.int (1 + r2)) (.int x8)) _ K08 D8 nt (fun u hu => by
          simp only [Op.args, Op.title, Op.more, List.mem_cons, List.not_mem_nil, or_false] at hu
          rcases hu with rfl | rfl | rfl | rfl
          · exact .inl ⟨_, rfl, hw2⟩
          · exact .inr ⟨_, rfl, hsp⟩
          · exact .inr ⟨_, rfl, hsz⟩
          · exact .inr ⟨_, rfl, hx8⟩)⟩
      · -- fork
        refine ⟨_, rfl, by show 2 ≤ sizeLine; decide, fun t1 n1 => ?_⟩
        generalize eG3_1 : upd G3 t1 _ = G3_1
        have s1 : Same G3 G3_1 := by rw [← eG3_1]; exact sameNew n1
        have a1 : G3_1 t1 = some (HO.tup [V.str "drop", V.str "places"] : HO) := by rw [← eG3_1]; exact upd_same
        clear eG3_1
        refine ⟨t1, _, rfl, .inr (SqT.of a1), rfl, rfl, _, rfl, bF (by decide +kernel) ?_⟩
        have D4 := D3.same s1
        have K4 := K3.trans (Same.kp s1)
        refine ⟨_, rfl, rfl, _, rfl, sY ?_⟩
        refine ⟨_, rfl, _, rfl, _, rfl, _, rfl, d, st, tl, _, rfl, D4, tl_ _ K4, tld, tls, by rw [List.length_map, hts]; decide, by rw [List.length_map, hts]; decide, fun v G5 hv D5 K5 => ⟨by show 3 ≤ sizeLine; decide, fun t nt => fin_ t (.fork (.str w2) v) _ (K4.trans K5) D5 nt (fun u hu => ?_)⟩⟩
        simp only [Op.args, Op.title, Op.more, List.mem_cons, List.not_mem_nil, or_false] at hu
        rcases hu with rfl | rfl
        · exact .inl ⟨_, rfl, hw2⟩
        · obtain ⟨z, hz, rfl⟩ := List.mem_map.mp hv
          exact .inl ⟨_, rfl, ht z hz⟩
      · -- read
        refine ⟨_, rfl, by show 2 ≤ sizeLine; decide, fun t1 n1 => ?_⟩
        generalize eG3_1 : upd G3 t1 _ = G3_1
        have s1 : Same G3 G3_1 := by rw [← eG3_1]; exact sameNew n1
        have a1 : G3_1 t1 = some (HO.tup [V.str "drop", V.str "places"] : HO) := by rw [← eG3_1]; exact upd_same
        clear eG3_1
        refine ⟨t1, _, rfl, .inr (SqT.of a1), rfl, rfl, _, rfl, bF (by decide +kernel) ?_⟩
        have D4 := D3.same s1
        have K4 := K3.trans (Same.kp s1)
        refine ⟨_, rfl, rfl, _, rfl, sN (by decide +kernel) ?_⟩
        refine ⟨_, rfl, by show 2 ≤ sizeLine; decide, fun t2 n2 => ?_⟩
        generalize eG3_2 : upd G3_1 t2 _ = G3_2
        have s2 : Same G3_1 G3_2 := by rw [← eG3_2]; exact sameNew n2
        have a2 : G3_2 t2 = some (HO.tup [V.str "read", V.str "write"] : HO) := by rw [← eG3_2]; exact upd_same
        clear eG3_2
        refine ⟨t2, _, rfl, .inr (SqT.of a2), rfl, rfl, _, rfl, bT (by decide +kernel) ?_⟩
        have D5 := D4.same s2
        have K5 := K4.trans (Same.kp s2)
        refine ⟨_, rfl, _, rfl, d, st, _, rfl, D5, by decide, by decide, fun r6 G6 r60 r61 D6 K6 => ⟨by show 5 ≤ sizeLine; decide, fun M7 n7 => ?_⟩⟩
        generalize eG7 : upd G6 M7 _ = G7
        have s7 : Same G6 G7 := by rw [← eG7]; exact sameNew n7
        have a7 : G7 M7 = some (HO.lst [V.int 0, V.int 1, V.int 1000000, V.int 7, V.int r6] : HO) := by rw [← eG7]; exact upd_same
        clear eG7
        obtain ⟨m7d, m7s⟩ := D6.ne (Same.refl _) n7
        refine ⟨d, st, M7, _, rfl, D6.same s7, a7, m7d, m7s, by show 0 < 5; decide, by show 5 < 1000000; decide, fun v G8 hv D8 K8 => ?_⟩
        have K08 := K5.trans (K6.trans ((Same.kp s7).trans K8))
        obtain ⟨x8, rfl, hx8⟩ : ∃ i, v = .int i ∧ i.natAbs < 2 ^ 60 := by
          simp only [List.mem_cons, List.not_mem_nil, or_false] at hv
          rcases hv with rfl | rfl | rfl | rfl | rfl <;> exact ⟨_, rfl, by omega⟩
        refine ⟨_, rfl, rfl, _, rfl, sY ?_⟩
        exact ⟨_, rfl, _, rfl, _, rfl, by show 3 ≤ sizeLine; decide, fun t nt => fin_ t (.read (.str w2) (.int sp)) _ K08 D8 nt (fun u hu => by
          simp only [Op.args, Op.title, Op.more, List.mem_cons, List.not_mem_nil, or_false] at hu
          rcases hu with rfl | rfl
          · exact .inl ⟨_, rfl, hw2⟩
          · exact .inr ⟨_, rfl, hsp⟩)⟩
      · -- unmap
        refine ⟨_, rfl, by show 2 ≤ sizeLine; decide, fun t1 n1 => ?_⟩
        generalize eG3_1 : upd G3 t1 _ = G3_1
        have s1 : Same G3 G3_1 := by rw [← eG3_1]; exact sameNew n1
        have a1 : G3_1 t1 = some (HO.tup [V.str "drop", V.str "places"] : HO) := by rw [← eG3_1]; exact upd_same
        clear eG3_1
        refine ⟨t1, _, rfl, .inr (SqT.of a1), rfl, rfl, _, rfl, bF (by decide +kernel) ?_⟩
        have D4 := D3.same s1
        have K4 := K3.trans (Same.kp s1)
        refine ⟨_, rfl, rfl, _, rfl, sN (by decide +kernel) ?_⟩
        refine ⟨_, rfl, by show 2 ≤ sizeLine; decide, fun t2 n2 => ?_⟩
        generalize eG3_2 : upd G3_1 t2 _ = G3_2
        have s2 : Same G3_1 G3_2 := by rw [← eG3_2]; exact sameNew n2
        have a2 : G3_2 t2 = some (HO.tup [V.str "read", V.str "write"] : HO) := by rw [← eG3_2]; exact upd_same
        clear eG3_2
        refine ⟨t2, _, rfl, .inr (SqT.of a2), rfl, rfl, _, rfl, bF (by decide +kernel) ?_⟩
        have D5 := D4.same s2
        have K5 := K4.trans (Same.kp s2)
        refine ⟨_, rfl, rfl, _, rfl, sN (by decide +kernel) ?_⟩
        exact ⟨_, rfl, _, rfl, _, rfl, _, rfl, by show 4 ≤ sizeLine; decide, fun t nt => fin_ t (.unmap (.str w2) (.int sp) (.int (1 + r2))) _ K5 D5 nt (fun u hu => by
          simp only [Op.args, Op.title, Op.more, List.mem_cons, List.not_mem_nil, or_false] at hu
          rcases hu with rfl | rfl | rfl
          · exact .inl ⟨_, rfl, hw2⟩
          · exact .inr ⟨_, rfl, hsp⟩
          · exact .inr ⟨_, rfl, hsz⟩)⟩
      · -- places
        refine ⟨_, rfl, by show 2 ≤ sizeLine; decide, fun t1 n1 => ?_⟩
        generalize eG3_1 : upd G3 t1 _ = G3_1
        have s1 : Same G3 G3_1 := by rw [← eG3_1]; exact sameNew n1
        have a1 : G3_1 t1 = some (HO.tup [V.str "drop", V.str "places"] : HO) := by rw [← eG3_1]; exact upd_same
        clear eG3_1
        refine ⟨t1, _, rfl, .inr (SqT.of a1), rfl, rfl, _, rfl, bT (by decide +kernel) ?_⟩
        have D4 := D3.same s1
        have K4 := K3.trans (Same.kp s1)
        exact ⟨_, rfl, _, rfl, by show 2 ≤ sizeLine; decide, fun t nt => fin_ t (.places (.str w2)) _ K4 D4 nt (fun v hv => by simp only [Op.args, Op.title, Op.more, List.mem_cons, List.not_mem_nil, or_false] at hv; subst hv; exact .inl ⟨_, rfl, hw2⟩)⟩
      · -- drop
        refine ⟨_, rfl, by show 2 ≤ sizeLine; decide, fun t1 n1 => ?_⟩
        generalize eG3_1 : upd G3 t1 _ = G3_1
        have s1 : Same G3 G3_1 := by rw [← eG3_1]; exact sameNew n1
        have a1 : G3_1 t1 = some (HO.tup [V.str "drop", V.str "places"] : HO) := by rw [← eG3_1]; exact upd_same
        clear eG3_1
        refine ⟨t1, _, rfl, .inr (SqT.of a1), rfl, rfl, _, rfl, bT (by decide +kernel) ?_⟩
        have D4 := D3.same s1
        have K4 := K3.trans (Same.kp s1)
        exact ⟨_, rfl, _, rfl, by show 2 ≤ sizeLine; decide, fun t nt => fin_ t (.drop (.str w2)) _ K4 D4 nt (fun v hv => by simp only [Op.args, Op.title, Op.more, List.mem_cons, List.not_mem_nil, or_false] at hv; subst hv; exact .inl ⟨_, rfl, hw2⟩)⟩

    -- from the spot on
    obtain ⟨t2, h2, r2⟩ : ∃ t2, PSs (cxOf CX0 P w K mg base ["_law_draw_here", "_law_titles_here", "_law_model", "_law_word", "_law_title", "_law_here", "_law_spot", "_law_size", "_law_value", "_law_goal"] "_law_row" (defScope sRow) f cdv A outer s H E).nox ((defBody sRow).drop 4) t2 ∧
        ∀ (w1 w2 : Str) (lh : Addr) (xs : List Int) (G : Hp), w1 ∈ eight → GS w2 → Kp d st H G → Dr d st G → G lh = some (.lst (xs.map V.int)) → lh ≠ d → lh ≠ st → xs.length ≤ 10000 → (∀ x ∈ xs, 0 ≤ x ∧ x < 10000) →
          t2 { nx := fun _ H' => Q .non H', rt := Q } [some (.ref d), some (.ref tl), some (.ref md), some (.str w1), some (.str w2), some (.ref lh), none, none, none, none] G := by
      refine ⟨_, (pss_cons (ps_set (i := 6) scRow.nd rfl (Or.inl rfl) (pe_call GP hr rfl mP kP bP .nil pass0 (pa_cons (pv 0) (pa_cons (pe_op op_cat (pe_orT (pv 5) (pe_one (pe_lst (pa_cons pe_int pa_nil)))) (pe_lst (pa_cons (pe_call GD hr1 rfl mD kD bD .nil pass0 (pa_cons (pv 0) (pa_cons pe_int pa_nil))) (pa_cons (pe_op op_add pe_int (pe_call GD hr1 rfl mD kD bD .nil pass0 (pa_cons (pv 0) (pa_cons pe_int pa_nil)))) pa_nil)))) pa_nil)))) h3), ?_⟩
      intro w1 w2 lh xs G hw1 hw2 K0 D0 hlh lhd lhs hxl hx
      refine ⟨_, rfl, _, rfl, _, .inl ⟨_, SqL.of hlh, rfl⟩, ?_⟩
      cases xs with
      | nil =>
        refine iteF ⟨by show 1 ≤ sizeLine; decide, fun ly nly => ?_⟩
        generalize eG1 : upd G ly _ = G1
        have s1 : Same G G1 := by rw [← eG1]; exact sameNew nly
        have a1 : G1 ly = some (HO.lst ([(0 : Int)].map V.int) : HO) := by rw [← eG1]; exact upd_same
        clear eG1
        obtain ⟨lyd, lys⟩ := D0.ne (Same.refl _) nly
        have K1 := K0.trans (Same.kp s1)
        have D1 := D0.same s1
        have hy : ∀ x ∈ [(0 : Int)], 0 ≤ x ∧ x < 10000 := fun x hx => by rw [List.mem_singleton] at hx; subst hx; decide
        refine ⟨_, rfl, d, st, _, rfl, D1, by decide, by decide, fun r5 G5 r50 r51 D5 K5 => ⟨_, rfl, d, st, _, rfl, D5, by decide, by decide, fun r6 G6 r60 r61 D6 K6 => ⟨_, _, rfl, rfl, by show 2 ≤ sizeLine; decide, fun M7 n7 => ?_⟩⟩⟩
        generalize eG7 : upd G6 M7 _ = G7
        have s7 : Same G6 G7 := by rw [← eG7]; exact sameNew n7
        have a7 : G7 M7 = some (HO.lst [V.int r5, V.int (9990 + r6)] : HO) := by rw [← eG7]; exact upd_same
        clear eG7
        have D7 := D6.same s7
        have K7 : Kp d st G1 G7 := (K5.trans K6).trans (Same.kp s7)
        have posy : 0 < ([0] : List Int).length := by decide
        have leny : ([0] : List Int).length ≤ 10000 := by decide
        refine ⟨ly, M7, _, _, rfl, rfl, K7 _ _ a1 lyd lys, a7, by show (List.map V.int [0]).length + 2 ≤ sizeLine; rw [List.length_map, sizeLine_eq]; omega, fun R8 n8 => ?_⟩
        generalize eG8 : upd G7 R8 _ = G8
        have s8 : Same G7 G8 := by rw [← eG8]; exact sameNew n8
        have a8 : G8 R8 = some (HO.lst (([0] : List Int).map V.int ++ [V.int r5, V.int (9990 + r6)]) : HO) := by rw [← eG8]; exact upd_same
        clear eG8
        obtain ⟨r8d, r8s⟩ := D7.ne (Same.refl _) n8
        refine ⟨d, st, R8, _, rfl, D7.same s8, a8, r8d, r8s, by rw [List.length_append]; show 0 < _ + 2; omega, by rw [List.length_append, List.length_map]; show _ + 2 < 1000000; omega, fun v G9 hv D9 K9 => ?_⟩
        obtain ⟨sp, rfl, q0, q1⟩ : ∃ sp : Int, v = .int sp ∧ 0 ≤ sp ∧ sp < 10000 := by
          rcases List.mem_append.mp hv with h' | h'
          · obtain ⟨z, hz, rfl⟩ := List.mem_map.mp h'
            exact ⟨z, rfl, hy z hz⟩
          · simp only [List.mem_cons, List.not_mem_nil, or_false] at h'
            rcases h' with rfl | rfl
            · exact ⟨_, rfl, by omega, by omega⟩
            · exact ⟨_, rfl, by omega, by omega⟩
        exact r3 w1 w2 lh sp G9 hw1 hw2 ((K1.trans K7).trans ((Same.kp s8).trans K9)) D9 q0 q1

      | cons x0 xs =>
        refine iteT ?_
        refine ⟨_, rfl, d, st, _, rfl, D0, by decide, by decide, fun r5 G5 r50 r51 D5 K5 => ⟨_, rfl, d, st, _, rfl, D5, by decide, by decide, fun r6 G6 r60 r61 D6 K6 => ⟨_, _, rfl, rfl, by show 2 ≤ sizeLine; decide, fun M7 n7 => ?_⟩⟩⟩
        generalize eG7 : upd G6 M7 _ = G7
        have s7 : Same G6 G7 := by rw [← eG7]; exact sameNew n7
        have a7 : G7 M7 = some (HO.lst [V.int r5, V.int (9990 + r6)] : HO) := by rw [← eG7]; exact upd_same
        clear eG7
        have D7 := D6.same s7
        have K7 : Kp d st G G7 := (K5.trans K6).trans (Same.kp s7)
        have posy : 0 < ((x0 :: xs) : List Int).length := by simp
        have leny : ((x0 :: xs) : List Int).length ≤ 10000 := hxl
        refine ⟨lh, M7, _, _, rfl, rfl, K7 _ _ hlh lhd lhs, a7, by show (List.map V.int (x0 :: xs)).length + 2 ≤ sizeLine; rw [List.length_map, sizeLine_eq]; omega, fun R8 n8 => ?_⟩
        generalize eG8 : upd G7 R8 _ = G8
        have s8 : Same G7 G8 := by rw [← eG8]; exact sameNew n8
        have a8 : G8 R8 = some (HO.lst (((x0 :: xs) : List Int).map V.int ++ [V.int r5, V.int (9990 + r6)]) : HO) := by rw [← eG8]; exact upd_same
        clear eG8
        obtain ⟨r8d, r8s⟩ := D7.ne (Same.refl _) n8
        refine ⟨d, st, R8, _, rfl, D7.same s8, a8, r8d, r8s, by rw [List.length_append]; show 0 < _ + 2; omega, by rw [List.length_append, List.length_map]; show _ + 2 < 1000000; omega, fun v G9 hv D9 K9 => ?_⟩
        obtain ⟨sp, rfl, q0, q1⟩ : ∃ sp : Int, v = .int sp ∧ 0 ≤ sp ∧ sp < 10000 := by
          rcases List.mem_append.mp hv with h' | h'
          · obtain ⟨z, hz, rfl⟩ := List.mem_map.mp h'
            exact ⟨z, rfl, hx z hz⟩
          · simp only [List.mem_cons, List.not_mem_nil, or_false] at h'
            rcases h' with rfl | rfl
            · exact ⟨_, rfl, by omega, by omega⟩
            · exact ⟨_, rfl, by omega, by omega⟩
        exact r3 w1 w2 lh sp G9 hw1 hw2 ((K0.trans K7).trans ((Same.kp s8).trans K9)) D9 q0 q1

    refine ⟨_, (pss_cons (ps_set (i := 3) scRow.nd rfl (Or.inl rfl) (pe_call GP hr rfl mP kP bP .nil pass0 (pa_cons (pv 0) (pa_cons (pe_lst (pa_cons pe_str (pa_cons pe_str (pa_cons pe_str (pa_cons pe_str (pa_cons pe_str (pa_cons pe_str (pa_cons pe_str (pa_cons pe_str (pa_cons pe_str (pa_cons pe_str (pa_cons pe_str pa_nil)))))))))))) pa_nil))))
    (pss_cons (ps_set (i := 4) scRow.nd rfl (Or.inl rfl) (pe_ifExp (pt_cmpR (op_neE (Nat.lt_of_succ_lt hu)) (pv 2) pe_dnewK (nomark _)) (pe_call GP hr rfl mP kP bP .nil pass0 (pa_cons (pv 0) (pa_cons (pe_op op_cat (pv 1) (pe_op op_rep (pe_callB (r := rSrtD P w) (call_srtD rfl) (by rfl) sorted_ (by decide +kernel) (pa_cons (pv 2) pa_nil)) pe_int)) pa_nil))) (pe_ix ix_list (pv 1) pe_int (fun _ _ => rfl))))
    (pss_cons (ps_if (PW.pt (pw_or (pt_cmpR op_eq (pv 3) pe_str (nomark _)) (pw_or1 (pt_cmpR (op_eqE (Nat.lt_of_succ_lt hu)) (pv 2) pe_dnewK (nomark _)))))
      (pss_one (ps_ret (pe_tup (pa_cons pe_str (pa_cons (pv 4) pa_nil)))))
      pss_nil)
    (pss_cons (ps_set (i := 5) scRow.nd rfl (Or.inl rfl) (pe_ifExp (pt_cmp (pc_din hu (pv 4) (pv 2))) (pe_callB (r := rSrtD P w) (call_srtD rfl) (by rfl) sorted_ (by decide +kernel) (pa_cons (pe_dget hu (pv 2) (pv 4) (fun _ _ => rfl)) pa_nil)) (pe_lst pa_nil))) h2)))), ?_⟩

    -- the word
    refine ⟨_, rfl, by show 11 ≤ sizeLine; decide, fun M1 n1 => ?_⟩
    generalize eH1 : upd H M1 _ = H1
    have s1 : Same H H1 := by rw [← eH1]; exact sameNew n1
    have a1 : H1 M1 = some (HO.lst (eleven.map V.str) : HO) := by rw [← eH1]; exact upd_same
    clear eH1
    obtain ⟨m1d, m1s⟩ := D.ne (Same.refl _) n1
    refine ⟨d, st, M1, _, rfl, D.same s1, a1, m1d, m1s, by show 0 < 11; decide, by show 11 < 1000000; decide, fun v H2 hv D2 K2 => ?_⟩
    obtain ⟨w1, hw1, rfl⟩ := List.mem_map.mp hv
    have K02 : Kp d st H H2 := (Same.kp s1).trans K2
    have M2 := MoA.kp hM D K02
    -- the title
    refine ⟨_, rfl, fun e1 ne1 => ?_⟩
    generalize eH3 : upd H2 e1 _ = H3
    have s3 : Same H2 H3 := by rw [← eH3]; exact sameNew ne1
    have a3 : H3 e1 = some (HO.dK [] : HO) := by rw [← eH3]; exact upd_same
    clear eH3
    refine ⟨md, e1, hK m, rfl, rfl, .inl (s3 _ _ M2.held), .inl a3, _, rfl, ?_⟩
    show if (!(hK m).isEmpty) = true then _ else _
    have D3 := D2.same s3
    have K03 := K02.trans (Same.kp s3)
    have M3 := M2.same s3
    have keys : (hK m).map (·.1) = (m.map (·.1)).map Sum.inr := by unfold hK kv; rw [List.map_map, List.map_map]; rfl
    -- "add"
    have addy : ∀ (w2 : Str) (G : Hp), GS w2 → Kp d st H G → Dr d st G → 2 ≤ sizeLine ∧ ∀ t, G t = none → Q (.ref t) (upd G t (.tup [.str "add", .str w2])) := fun w2 G hw kp D' => ⟨by decide, fun t nt => fin_ t (.add (.str w2)) G kp D' nt (fun v hv => by
      simp only [Op.args, Op.title, Op.more, List.mem_cons, List.not_mem_nil, or_false] at hv
      subst hv
      exact .inl ⟨_, rfl, hw⟩)⟩
    cases hm : m with
    | nil =>
      rw [hm] at hM M3
      refine iteF ?_
      have t0 : 0 < ts.length := by omega
      have at0 : atI (ts.map V.str) ((0 : Nat) : Int) = some (.str ts[0]) := atI_nat (by rw [List.getElem?_map, List.getElem?_eq_getElem t0]; rfl)
      refine ⟨_, rfl, _, _, _, _, rfl, rfl, SqL.of (tl_ _ K03), at0, ?_⟩
      have hw2 := ht _ (List.getElem_mem t0)
      generalize ts[0] = w2 at hw2 ⊢
      by_cases c : w1 = "add"
      · subst c
        refine ⟨_, rfl, rfl, _, rfl, sY (iteT ⟨_, rfl, addy w2 H3 hw2 K03 D3⟩)⟩
      · refine ⟨_, rfl, rfl, _, rfl, sN (beq_eq_false_iff_ne.mpr c) ?_⟩
        refine ⟨_, rfl, fun e2 ne2 => ?_⟩
        generalize eH4 : upd H3 e2 _ = H4
        have s4 : Same H3 H4 := by rw [← eH4]; exact sameNew ne2
        have a4 : H4 e2 = some (HO.dK [] : HO) := by rw [← eH4]; exact upd_same
        clear eH4
        refine ⟨md, e2, [], rfl, rfl, .inl (s4 _ _ M3.held), .inl a4, _, rfl, ?_⟩
        exact iteT ⟨_, rfl, addy w2 H4 hw2 (K03.trans (Same.kp s4)) (D3.same s4)⟩
    | cons e0 m' =>
      rw [← hm]
      have ne0 : (hK m).isEmpty = false := by rw [hm]; rfl
      rw [ne0]
      refine iteT ?_
      refine ⟨_, rfl, _, rfl, _, rfl, tns (srt_strs (ks := m.map (·.1)) (.inl M3.held) keys fun zs l4 hp hs n4 => ?_)⟩
      generalize eH4 : upd H3 l4 _ = H4
      have s4 : Same H3 H4 := by rw [← eH4]; exact sameNew n4
      have a4 : H4 l4 = some (HO.lst (zs.map V.str) : HO) := by rw [← eH4]; exact upd_same
      clear eH4
      have zl : zs.length = m.length := by rw [hp.length_eq, List.length_map]
      refine ⟨l4, 3, _, rfl, rfl, a4, by decide, by decide, by rw [List.length_map, zl, sizeLine_eq]; show _ * 3 ≤ _; omega, fun l5 n5 => ?_⟩
      generalize eH5 : upd H4 l5 _ = H5
      have s5 : Same H4 H5 := by rw [← eH5]; exact sameNew n5
      have a5 : H5 l5 = some (HO.lst (List.replicate (3 : Int).toNat (zs.map V.str)).flatten : HO) := by rw [← eH5]; exact upd_same
      clear eH5
      have K05 := K03.trans (Same.kp (s4.trans s5))
      have D5 := D3.same (s4.trans s5)
      have fl : (List.replicate (3 : Int).toNat (zs.map V.str)).flatten.length = 3 * m.length := by
        show (zs.map V.str ++ (zs.map V.str ++ (zs.map V.str ++ []))).length = _
        simp [zl]
        omega
      refine ⟨tl, l5, _, _, rfl, rfl, tl_ _ K05, a5, by rw [fl, List.length_map, hts, sizeLine_eq]; omega, fun l6 n6 => ?_⟩
      generalize eH6 : upd H5 l6 _ = H6
      have s6 : Same H5 H6 := by rw [← eH6]; exact sameNew n6
      have a6 : H6 l6 = some (HO.lst (ts.map V.str ++ (List.replicate (3 : Int).toNat (zs.map V.str)).flatten) : HO) := by rw [← eH6]; exact upd_same
      clear eH6
      obtain ⟨l6d, l6s⟩ := D5.ne (Same.refl _) n6
      refine ⟨d, st, l6, _, rfl, D5.same s6, a6, l6d, l6s, by rw [List.length_append, fl, List.length_map, hts]; omega, by rw [List.length_append, fl, List.length_map, hts]; omega, fun v H7 hv D7 K7 => ?_⟩
      obtain ⟨w2, rfl, hw2⟩ : ∃ w, v = .str w ∧ GS w := by
        rcases List.mem_append.mp hv with h' | h'
        · obtain ⟨z, hz, rfl⟩ := List.mem_map.mp h'
          exact ⟨z, rfl, ht z hz⟩
        · obtain ⟨l, hl', h''⟩ := List.mem_flatten.mp h'
          rw [List.eq_of_mem_replicate hl'] at h''
          obtain ⟨z, hz, rfl⟩ := List.mem_map.mp h''
          obtain ⟨e, he, rfl⟩ := List.mem_map.mp (hp.mem_iff.mp hz)
          exact ⟨_, rfl, hn e he⟩
      have K07 := K05.trans ((Same.kp s6).trans K7)
      have M7 := MoA.kp hM D K07
      by_cases c : w1 = "add"
      · subst c
        refine ⟨_, rfl, rfl, _, rfl, sY (iteT ⟨_, rfl, addy w2 H7 hw2 K07 D7⟩)⟩
      · refine ⟨_, rfl, rfl, _, rfl, sN (beq_eq_false_iff_ne.mpr c) ?_⟩
        have w8 : w1 ∈ eight := by
          have z : ∀ x ∈ eleven, x = "add" ∨ x ∈ eight := by decide +kernel
          exact (z w1 hw1).resolve_left c
        refine ⟨_, rfl, fun e2 ne2 => ?_⟩
        generalize eH8 : upd H7 e2 _ = H8
        have s8 : Same H7 H8 := by rw [← eH8]; exact sameNew ne2
        have a8 : H8 e2 = some (HO.dK [] : HO) := by rw [← eH8]; exact upd_same
        clear eH8
        refine ⟨md, e2, hK m, rfl, rfl, .inl (s8 _ _ M7.held), .inl a8, _, rfl, ?_⟩
        show if (hK m).isEmpty = true then _ else _
        rw [ne0]
        refine iteF ?_
        have K08 := K07.trans (Same.kp s8)
        have D8 := D7.same s8
        have M8 := M7.same s8
        refine ⟨_, rfl, _, rfl, md, _, rfl, DGet.k (k := Sum.inr w2) M8.held, _, rfl, ?_⟩
        rw [hK_val]
        cases q : lk m w2 with
        | none =>
          refine iteF ⟨by decide, fun l9 n9 => ?_⟩
          generalize eH9 : upd H8 l9 _ = H9
          have s9 : Same H8 H9 := by rw [← eH9]; exact sameNew n9
          have a9 : H9 l9 = some (HO.lst (([] : List Int).map V.int) : HO) := by rw [← eH9]; exact upd_same
          clear eH9
          obtain ⟨l9d, l9s⟩ := D8.ne (Same.refl _) n9
          exact r2 w1 w2 l9 [] H9 w8 hw2 (K08.trans (Same.kp s9)) (D8.same s9) a9 l9d l9s (by simp) (by simp)
        | some x =>
          have hK2 := DGet.k (k := Sum.inr w2) M8.held
          rw [hK_val, q] at hK2
          have hd := M8.at (show lk m w2 = some (x.1, x.2) from q)
          refine iteT ⟨_, rfl, _, rfl, md, .ref x.1, rfl, hK2, tns (srt_ints (ks := x.2.map (·.1)) (.inl hd.1) (by unfold dI kv; rw [List.map_map, List.map_map]; rfl) fun ys l9 h1 h2' n9 => ?_)⟩
          generalize eH9 : upd H8 l9 _ = H9
          have s9 : Same H8 H9 := by rw [← eH9]; exact sameNew n9
          have a9 : H9 l9 = some (HO.lst (ys.map V.int) : HO) := by rw [← eH9]; exact upd_same
          clear eH9
          obtain ⟨l9d, l9s⟩ := D8.ne (Same.refl _) n9
          refine r2 w1 w2 l9 ys H9 w8 hw2 (K08.trans (Same.kp s9)) (D8.same s9) a9 l9d l9s ?_ fun z hz => hd.2.2 z (h1.mem_iff.mp hz)
          have := hd.2.few
          rw [h1.length_eq, List.length_map]
          exact this
end
end Bm
set_option maxRecDepth 100000
set_option maxHeartbeats 4000000
/-! an operation with a part exchanged -/
namespace Bm
open PySem L2 L3 Pm
theorem exchange (o : Op) (s : Nat) (v : V) (h1 : 1 ≤ s) (hs : s < o.row.length) : ∃ o' : Op, o'.row = (o.row.take s ++ [v]) ++ o.row.drop (s + 1) ∧ ∀ u ∈ o'.args, u ∈ o.args ∨ u = v := by
  cases o with
  | add a1 =>
    have hs2 : s < 2 := hs
    have : s = 1 := by omega
    rcases this with rfl
    · exact ⟨.add v, rfl, fun u hu => by simp only [Op.args, Op.title, Op.more, List.mem_cons, List.not_mem_nil, or_false] at hu ⊢; exact .inr hu⟩
  | drop a1 =>
    have hs2 : s < 2 := hs
    have : s = 1 := by omega
    rcases this with rfl
    · exact ⟨.drop v, rfl, fun u hu => by simp only [Op.args, Op.title, Op.more, List.mem_cons, List.not_mem_nil, or_false] at hu ⊢; exact .inr hu⟩
  | places a1 =>
    have hs2 : s < 2 := hs
    have : s = 1 := by omega
    rcases this with rfl
    · exact ⟨.places v, rfl, fun u hu => by simp only [Op.args, Op.title, Op.more, List.mem_cons, List.not_mem_nil, or_false] at hu ⊢; exact .inr hu⟩
  | fork a1 a2 =>
    have hs2 : s < 3 := hs
    have : s = 1 ∨ s = 2 := by omega
    rcases this with rfl | rfl
    · exact ⟨.fork v a2, rfl, fun u hu => by simp only [Op.args, Op.title, Op.more, List.mem_cons, List.not_mem_nil, or_false] at hu ⊢; rcases hu with rfl | rfl <;> simp⟩
    · exact ⟨.fork a1 v, rfl, fun u hu => by simp only [Op.args, Op.title, Op.more, List.mem_cons, List.not_mem_nil, or_false] at hu ⊢; rcases hu with rfl | rfl <;> simp⟩
  | read a1 a2 =>
    have hs2 : s < 3 := hs
    have : s = 1 ∨ s = 2 := by omega
    rcases this with rfl | rfl
    · exact ⟨.read v a2, rfl, fun u hu => by simp only [Op.args, Op.title, Op.more, List.mem_cons, List.not_mem_nil, or_false] at hu ⊢; rcases hu with rfl | rfl <;> simp⟩
    · exact ⟨.read a1 v, rfl, fun u hu => by simp only [Op.args, Op.title, Op.more, List.mem_cons, List.not_mem_nil, or_false] at hu ⊢; rcases hu with rfl | rfl <;> simp⟩
  | write a1 a2 a3 =>
    have hs2 : s < 4 := hs
    have : s = 1 ∨ s = 2 ∨ s = 3 := by omega
    rcases this with rfl | rfl | rfl
    · exact ⟨.write v a2 a3, rfl, fun u hu => by simp only [Op.args, Op.title, Op.more, List.mem_cons, List.not_mem_nil, or_false] at hu ⊢; rcases hu with rfl | rfl | rfl <;> simp⟩
    · exact ⟨.write a1 v a3, rfl, fun u hu => by simp only [Op.args, Op.title, Op.more, List.mem_cons, List.not_mem_nil, or_false] at hu ⊢; rcases hu with rfl | rfl | rfl <;> simp⟩
    · exact ⟨.write a1 a2 v, rfl, fun u hu => by simp only [Op.args, Op.title, Op.more, List.mem_cons, List.not_mem_nil, or_false] at hu ⊢; rcases hu with rfl | rfl | rfl <;> simp⟩
  | map a1 a2 a3 =>
    have hs2 : s < 4 := hs
    have : s = 1 ∨ s = 2 ∨ s = 3 := by omega
    rcases this with rfl | rfl | rfl
    · exact ⟨.map v a2 a3, rfl, fun u hu => by simp only [Op.args, Op.title, Op.more, List.mem_cons, List.not_mem_nil, or_false] at hu ⊢; rcases hu with rfl | rfl | rfl <;> simp⟩
    · exact ⟨.map a1 v a3, rfl, fun u hu => by simp only [Op.args, Op.title, Op.more, List.mem_cons, List.not_mem_nil, or_false] at hu ⊢; rcases hu with rfl | rfl | rfl <;> simp⟩
    · exact ⟨.map a1 a2 v, rfl, fun u hu => by simp only [Op.args, Op.title, Op.more, List.mem_cons, List.not_mem_nil, or_false] at hu ⊢; rcases hu with rfl | rfl | rfl <;> simp⟩
  | unmap a1 a2 a3 =>
    have hs2 : s < 4 := hs
    have : s = 1 ∨ s = 2 ∨ s = 3 := by omega
    rcases this with rfl | rfl | rfl
    · exact ⟨.unmap v a2 a3, rfl, fun u hu => by simp only [Op.args, Op.title, Op.more, List.mem_cons, List.not_mem_nil, or_false] at hu ⊢; rcases hu with rfl | rfl | rfl <;> simp⟩
    · exact ⟨.unmap a1 v a3, rfl, fun u hu => by simp only [Op.args, Op.title, Op.more, List.mem_cons, List.not_mem_nil, or_false] at hu ⊢; rcases hu with rfl | rfl | rfl <;> simp⟩
    · exact ⟨.unmap a1 a2 v, rfl, fun u hu => by simp only [Op.args, Op.title, Op.more, List.mem_cons, List.not_mem_nil, or_false] at hu ⊢; rcases hu with rfl | rfl | rfl <;> simp⟩
  | move a1 a2 a3 a4 =>
    have hs2 : s < 5 := hs
    have : s = 1 ∨ s = 2 ∨ s = 3 ∨ s = 4 := by omega
    rcases this with rfl | rfl | rfl | rfl
    · exact ⟨.move v a2 a3 a4, rfl, fun u hu => by simp only [Op.args, Op.title, Op.more, List.mem_cons, List.not_mem_nil, or_false] at hu ⊢; rcases hu with rfl | rfl | rfl | rfl <;> simp⟩
    · exact ⟨.move a1 v a3 a4, rfl, fun u hu => by simp only [Op.args, Op.title, Op.more, List.mem_cons, List.not_mem_nil, or_false] at hu ⊢; rcases hu with rfl | rfl | rfl | rfl <;> simp⟩
    · exact ⟨.move a1 a2 v a4, rfl, fun u hu => by simp only [Op.args, Op.title, Op.more, List.mem_cons, List.not_mem_nil, or_false] at hu ⊢; rcases hu with rfl | rfl | rfl | rfl <;> simp⟩
    · exact ⟨.move a1 a2 a3 v, rfl, fun u hu => by simp only [Op.args, Op.title, Op.more, List.mem_cons, List.not_mem_nil, or_false] at hu ⊢; rcases hu with rfl | rfl | rfl | rfl <;> simp⟩

theorem row_len (o : Op) : 2 ≤ o.row.length ∧ o.row.length ≤ 5 := by
  cases o <;> exact ⟨by show 2 ≤ _ + 1; simp [Op.args, Op.more], by show _ + 1 ≤ 5; simp [Op.args, Op.more]⟩
theorem cut_take {xs : List V} {s : Nat} (h : s ≤ xs.length) : cutV xs none (some (s : Int)) = xs.take s := by
  unfold cutV
  rw [HT.sIx_none, HT.sIx_nat, Nat.min_eq_left h]
  simp
theorem cut_drop {xs : List V} {s : Nat} : cutV xs (some (s : Int)) none = xs.drop s := by
  unfold cutV
  rw [HT.sIx_none, HT.sIx_nat]
  by_cases h : s ≤ xs.length
  · rw [Nat.min_eq_left h, ← List.length_drop, List.take_length]
  · rw [Nat.min_eq_right (by omega), List.drop_eq_nil_of_le (Nat.le_refl _), List.drop_eq_nil_of_le (by omega)]
    simp
/-- any value, new since H -/
def Odd (H H' : Hp) (v : V) : Prop := (∃ p, ThV H' v p ∧ Fits p) ∧ Short v ∧ ∀ a, v = .ref a → H a = none
theorem Odd.kp {d st : Addr} {H H1 H2 : Hp} {v : V} (h : Odd H H1 v) (D : Dr d st H) (k : Kp d st H1 H2) : Odd H H2 v := by
  obtain ⟨⟨p, h1, h2⟩, h3, h4⟩ := h
  obtain ⟨ms, sp, mx, hd, hs, _⟩ := D
  exact ⟨⟨p, h1.mono fun a o e ha _ => k a o ha (fun z => by have := h4 a e; rw [z, hd] at this; cases this) (fun z => by have := h4 a e; rw [z, hs] at this; cases this), h2⟩, h3, h4⟩
theorem none_back {d st a : Addr} {H G : Hp} (kp : Kp d st H G) (D : Dr d st G) (na : G a = none) : H a = none := by
  cases q : H a with
  | none => rfl
  | some u =>
    obtain ⟨n1, n2⟩ := D.ne (Same.refl _) na
    rw [kp a u q n1 n2] at na
    cases na
def spBent : Sp := fun vs H Q _ => ∃ (d st rw_ : Addr) (o : Op), vs = [.ref d, .ref rw_] ∧ Dr d st H ∧ H rw_ = some (.tup o.row) ∧
  ∀ (t : Addr) (o' : Op) (H' : Hp), H t = none → H' t = some (.tup o'.row) → (∀ v ∈ o'.args, v ∈ o.args ∨ Odd H H' v) → Dr d st H' → Kp d st H H' → Q (.ref t) H'
section
variable {P : Program} {w : World} {K : PySem.W.Frag} {mg : Str → Option Value} {base : Heap}
theorem scBent : FnScope ["_law_draw_here", "_law_row_here", "_law_spot", "_law_odd_here"] ["_law_draw_here", "_law_row_here"] (defScope sBent) := ⟨rfl, rfl, rfl, by decide +kernel, rfl, by decide +kernel, by decide +kernel⟩
theorem ok_bent {f : Addr} {fd : FuncData} (F : Fun K "_law_bent" "_law_bent" sBent f fd) (len_ : mg "len" = none) (HD : Has P w K mg base CX0 1 "_law_draw" ["_law_draw_here", "_law_below"] spDraw) (HP : Has P w K mg base CX0 2 "_law_pick" ["_law_draw_here", "_law_some"] spPick) (HT : Has P w K mg base CX0 3 "_law_thing" ["_law_draw_here"] spThing) :
    FnOk P w K mg base CX0 4 f fd ["_law_draw_here", "_law_row_here"] spBent := by
  obtain ⟨fD, fdD, GD, mD, kD, bD⟩ := HD
  obtain ⟨fP, fdP, GP, mP, kP, bP⟩ := HP
  obtain ⟨fT, fdT, GT, mT, kT, bT⟩ := HT
  refine F.ok scBent (fun vs H Q E h => ?_) (fun cdv A outer s H vs Q E hr h => ?_)
  · obtain ⟨d, st, rw_, o, rfl, _⟩ := h
    rfl
  · obtain ⟨d, st, rw_, o, rfl, D, hrw, k⟩ := h
    have hr1 := hr.mono (show 1 ≤ 3 by decide)
    have hr2 := hr.mono (show 2 ≤ 3 by decide)
    refine ⟨_, (pss_cons (ps_set (i := 2) scBent.nd rfl (Or.inl rfl) (pe_op op_add pe_int (pe_call GD hr1 rfl mD kD bD .nil pass0 (pa_cons (pv 0) (pa_cons (pe_op op_sub (pe_callB call_len_seq (by rfl) len_ PySem.boot_len (pa_cons (pv 1) pa_nil)) pe_int) pa_nil)))))
      (pss_cons (ps_set (i := 3) scBent.nd rfl (Or.inl rfl) (pe_call GP hr2 rfl mP kP bP .nil pass0 (pa_cons (pv 0) (pa_cons (pe_lst (pa_cons (pe_call GT hr rfl mT kT bT .nil pass0 (pa_cons (pv 0) pa_nil)) (pa_cons (pe_call GT hr rfl mT kT bT .nil pass0 (pa_cons (pv 0) pa_nil)) (pa_cons pe_str (pa_cons pe_str (pa_cons pe_int pa_nil)))))) pa_nil))))
      (pss_one (ps_ret (pe_op op_catT (pe_op op_catT (pe_slice sl_tup (pv 1) po_none (po_some (pv 2))) (pe_tup (pa_cons (pv 3) pa_nil))) (pe_slice sl_tup (pv 1) (po_some (pe_op op_add (pv 2) pe_int)) po_none)))))), ?_⟩

    obtain ⟨l2, l5⟩ := row_len o
    refine ⟨_, rfl, _, rfl, _, _, rfl, .inr (SqT.of hrw), _, _, rfl, rfl, d, st, _, rfl, D, by omega, by omega, fun r H1 r0 r1 D1 K1 => ⟨_, _, rfl, rfl, ?_⟩⟩
    obtain ⟨sp, hsp⟩ : ∃ sp : Nat, 1 + r = (sp : Int) := ⟨(1 + r).toNat, by omega⟩
    have sp1 : 1 ≤ sp := by omega
    have sp2 : sp < o.row.length := by omega
    -- any value
    refine ⟨_, rfl, _, rfl, d, st, rfl, D1, fun v1 p1 H2 t1 f1 sh1 nw1 D2 K2 => ⟨_, rfl, d, st, rfl, D2, fun v2 p2 H3 t2 f2 sh2 nw2 D3 K3 => ⟨by show 5 ≤ sizeLine; decide, fun M4 n4 => ?_⟩⟩⟩
    have o1 : Odd H H2 v1 := ⟨⟨p1, t1, f1⟩, sh1, fun a e => none_back K1 D1 (nw1 a e)⟩
    have o2 : Odd H H3 v2 := ⟨⟨p2, t2, f2⟩, sh2, fun a e => none_back (K1.trans K2) D2 (nw2 a e)⟩
    generalize eH4 : upd H3 M4 _ = H4
    have s4 : Same H3 H4 := by rw [← eH4]; exact sameNew n4
    have a4 : H4 M4 = some (HO.lst [v1, v2, V.str "A", V.str "abcdefghi", V.int 1000001] : HO) := by rw [← eH4]; exact upd_same
    clear eH4
    obtain ⟨m4d, m4s⟩ := D3.ne (Same.refl _) n4
    refine ⟨d, st, M4, _, rfl, D3.same s4, a4, m4d, m4s, by show 0 < 5; decide, by show 5 < 1000000; decide, fun v H5 hv D5 K5 => ?_⟩
    have ov : Odd H H5 v := by
      simp only [List.mem_cons, List.not_mem_nil, or_false] at hv
      rcases hv with rfl | rfl | rfl | rfl | rfl
      · exact ((o1.kp D K3).kp D (Same.kp s4)).kp D K5
      · exact (o2.kp D (Same.kp s4)).kp D K5
      · exact ⟨⟨_, .str _, ⟨by decide +kernel, by decide +kernel, fun i z => by cases z⟩⟩, fun x e => by cases e; exact ⟨by decide +kernel, by decide +kernel⟩, fun a e => by cases e⟩
      · exact ⟨⟨_, .str _, ⟨by decide +kernel, by decide +kernel, fun i z => by cases z⟩⟩, fun x e => by cases e; exact ⟨by decide +kernel, by decide +kernel⟩, fun a e => by cases e⟩
      · exact ⟨⟨_, .int _, fits_small (by decide)⟩, fun x e => (by cases e), fun a e => (by cases e)⟩
    have K05 : Kp d st H H5 := ((K1.trans K2).trans K3).trans ((Same.kp s4).trans K5)
    obtain ⟨n1, n2⟩ : rw_ ≠ d ∧ rw_ ≠ st := by
      obtain ⟨ms, sp, mx, hd, hs, _⟩ := id D
      exact ⟨fun z => (by rw [z, hd] at hrw; cases hrw), fun z => (by rw [z, hs] at hrw; cases hrw)⟩
    have hr5 := K05 _ _ hrw n1 n2
    -- the row's first parts
    refine ⟨_, rfl, _, rfl, _, rfl, _, _, rfl, SqT.of hr5, ?_, fun p6 n6 => ?_⟩
    · rintro ⟨_, z⟩
      have z' : HT.sIx o.row.length o.row.length (some (1 + r)) = o.row.length := z
      rw [hsp, HT.sIx_nat] at z'
      omega
    have e6 : cutV o.row none (some (1 + r)) = o.row.take sp := by rw [hsp, cut_take (by omega)]
    generalize eH6 : upd H5 p6 _ = H6
    have s6 : Same H5 H6 := by rw [← eH6]; exact sameNew n6
    have a6 : H6 p6 = some (HO.tup (cutV o.row none (some (1 + r))) : HO) := by rw [← eH6]; exact upd_same
    clear eH6
    rw [e6] at a6
    refine ⟨_, rfl, by show 1 ≤ sizeLine; decide, fun p7 n7 => ?_⟩
    generalize eH7 : upd H6 p7 _ = H7
    have s7 : Same H6 H7 := by rw [← eH7]; exact sameNew n7
    have a7 : H7 p7 = some (HO.tup [v] : HO) := by rw [← eH7]; exact upd_same
    clear eH7
    have tl : (o.row.take sp).length = sp := by rw [List.length_take]; omega
    refine ⟨p6, p7, _, _, rfl, rfl, SqT.of (s7 _ _ a6), SqT.of a7, fun z => ?_, ?_, fun z => (by cases z), fun _ p8 n8 => ?_⟩
    · rw [z] at tl
      have : (0 : Nat) = sp := tl
      omega
    · rw [tl, sizeLine_eq]
      show sp + 1 ≤ _
      omega
    generalize eH8 : upd H7 p8 _ = H8
    have s8 : Same H7 H8 := by rw [← eH8]; exact sameNew n8
    have a8 : H8 p8 = some (HO.tup (o.row.take sp ++ [v]) : HO) := by rw [← eH8]; exact upd_same
    clear eH8
    have hr8 := s8 _ _ (s7 _ _ (s6 _ _ hr5))
    -- the others
    refine ⟨_, rfl, _, rfl, _, _, rfl, rfl, _, rfl, _, _, rfl, SqT.of hr8, ?_, fun p9 n9 => ?_⟩
    · rintro ⟨z, _⟩
      have z' : HT.sIx o.row.length 0 (some (1 + r + 1)) = 0 := z
      rw [hsp, show ((sp : Int) + 1) = ((sp + 1 : Nat) : Int) by omega, HT.sIx_nat] at z'
      omega
    have e9 : cutV o.row (some (1 + r + 1)) none = o.row.drop (sp + 1) := by rw [hsp, show ((sp : Int) + 1) = ((sp + 1 : Nat) : Int) by omega, cut_drop]
    generalize eH9 : upd H8 p9 _ = H9
    have s9 : Same H8 H9 := by rw [← eH9]; exact sameNew n9
    have a9 : H9 p9 = some (HO.tup (cutV o.row (some (1 + r + 1)) none) : HO) := by rw [← eH9]; exact upd_same
    clear eH9
    rw [e9] at a9
    have S59 := (s6.trans (s7.trans s8)).trans s9
    have D9 := D5.same S59
    have K09 := K05.trans (Same.kp S59)
    have al : (o.row.take sp ++ [v]).length = sp + 1 := by rw [List.length_append, tl]; rfl
    have fin : ∀ (t : Addr) (G : Hp), H t = none → Same H9 G → G t = some (.tup ((o.row.take sp ++ [v]) ++ o.row.drop (sp + 1))) → Q (.ref t) G := fun t G nt sG e => by
      obtain ⟨o', eo, ho⟩ := exchange o sp v sp1 sp2
      refine k t o' G nt (by rw [eo]; exact e) (fun u hu => ?_) (D9.same sG) (K09.trans (Same.kp sG))
      rcases ho u hu with q | rfl
      · exact .inl q
      · exact .inr ((ov.kp D (Same.kp S59)).kp D (Same.kp sG))
    refine ⟨p8, p9, _, _, rfl, rfl, SqT.of (s9 _ _ a8), SqT.of a9, fun z => ?_, ?_, fun z => ?_, fun _ p10 n10 => ?_⟩
    · have := congrArg List.length z
      rw [al] at this
      cases this
    · rw [al, List.length_drop, sizeLine_eq]
      omega
    · have a8' := s9 _ _ a8
      refine fin p8 H9 (none_back (K05.trans (Same.kp (s6.trans s7))) (D5.same (s6.trans s7)) n8) (Same.refl _) ?_
      rw [z, List.append_nil]
      exact a8'
    · exact fin p10 _ (none_back K09 D9 n10) (sameNew n10) upd_same
end
end Bm
set_option maxRecDepth 100000
set_option maxHeartbeats 4000000
/-! whether the memory is as the model tells -/
namespace Bm
open PySem L2 L3 Pm
/-- contents are contents -/
def Ct (d : Pl) : Prop := ∀ c x, lk d c = some x → 0 ≤ x ∧ x ≤ 1000000
def CtM (M : Mem) : Prop := ∀ s d, lk M s = some d → Ct d
def NaM (M : Mem) : Prop := ∀ s, (lk M s).isSome = true → TitleS s
theorem lk_mem_pur {m : Sp3} {e : Str × Addr × Pl} (n : (m.map (·.1)).Nodup) (h : e ∈ m) : lk (pur m) e.1 = some e.2.2 := by
  rw [pur_lk, lk_of_mem n h]
  rfl
theorem names_pur {m m' : Sp3} (h : pur m = pur m') : m.map (·.1) = m'.map (·.1) := by
  have := congrArg (List.map (·.1)) h
  unfold pur at this
  rwa [List.map_map, List.map_map] at this
theorem dp_strs {K : PySem.W.Frag} {H : Hp} : ∀ ns : List Str, DpAll K H (ns.map V.str) (ns.map PyData.str)
  | [] => .nil
  | n :: ns => .cons (.str n) (dp_strs ns)
theorem shaped_strs {ns : List Str} (h : ∀ n ∈ ns, TitleS n) : SeqAt.shaped (.list (ns.map PyData.str)) = true := by
  have : PyData.canLayAll0 (ns.map PyData.str) = true ∧ PyData.depthAll (ns.map PyData.str) = 0 := by
    induction ns with
    | nil => exact ⟨rfl, rfl⟩
    | cons n ns ih =>
      obtain ⟨a, b⟩ := ih fun x hx => h x (List.mem_cons_of_mem _ hx)
      have c : PyData.strOk n = true := (h n List.mem_cons_self).2
      simp [PyData.canLayAll0, PyData.canLay0, PyData.depthAll, PyData.depth, a, b, c]
  simp [SeqAt.shaped, PyData.canLay0, PyData.depth, this.1, this.2]
theorem eqv_same {d : PyData} (h : SeqAt.shaped d = true) : PyData.eqv d d = true := SeqAt.eqv_refl d (SeqAt.canLay_of_shaped h)
section
variable {C p dx hd : Addr} {H : Hp} {m : Sp3} {R : VK} {E : XK} {s : Str} {CS CL a : Addr} {d : Pl} {i x : Int}
theorem read_ok (A : PlA C H p dx hd m) (y : lk m s = some (a, d)) (h2 : lk d i = some x) (K : R (.int x) H) : spRead C CS CL [.ref p, .str s, .int i] H R E := by
  refine ⟨p, dx, hd, m, _, _, rfl, A, .str s, .int i, fun e => ?_, fun s' a d' e e3 e4 => ?_, fun s' a d' i' x e e3 e4 e5 => ?_⟩
  · have := e s rfl; rw [y] at this; cases this
  · cases e; rw [y] at e3; cases e3; have := e4 i rfl; rw [h2] at this; cases this
  · cases e; cases e4; rw [y] at e3; cases e3; rw [h2] at e5; cases e5; exact K
theorem places_ok (A : PlA C H p dx hd m) (y : lk m s = some (a, d)) (K : ∀ (ys : List Int) l, ys.Perm (d.map (·.1)) → ys.Pairwise (· ≤ ·) → H l = none → R (.ref l) (upd H l (.lst (ys.map V.int)))) : spPlaces C CS [.ref p, .str s] H R E := by
  refine ⟨p, dx, hd, m, _, rfl, A, .str s, fun e => ?_, fun s' a d' e e3 => ?_⟩
  · have := e s rfl; rw [y] at this; cases this
  · cases e; rw [y] at e3; cases e3; exact K
end
def spSame (C : Addr) : Sp := fun vs H Q _ => ∃ (p md dx hd : Addr) (m mm : Sp3), vs = [.ref p, .ref md] ∧ PlA C H p dx hd m ∧ MoA H md mm ∧ pur m = pur mm ∧ (∀ a ∈ fpt hd m, a ∉ fpt md mm) ∧ CtM (pur m) ∧ NaM (pur m) ∧ ∀ H', Same H H' → Q (.bl true) H'
section
variable {P : Program} {w : World} {K : PySem.W.Frag} {mg : Str → Option Value} {base : Heap}
theorem scSame : FnScope ["_law_memory", "_law_model", "_law_title", "_law_inside", "_law_spot"] ["_law_memory", "_law_model"] (defScope sSame) := ⟨rfl, rfl, rfl, by decide +kernel, rfl, by decide +kernel, by decide +kernel⟩
theorem ok_same {f C : Addr} {c : Cs} {oc kV doc pm cdv ct : Value} {od an : Option Addr} {osl : Array (Option Value)} (lk0 : K.lookup f = some ⟨oc, od, .func (PySem.W.fnOf "_law_same" "_law_same" (defArgs sSame) (defBody sSame) (defScope sSame) .none kV doc pm an cdv ct), osl⟩) (hcd : PySem.W.codeIn K cdv "_law_same" = true)
    (sorted_ : mg "sorted" = none) (repr_ : mg "repr" = none) (R : PlK P w K mg base C c) (HSp : HasM P w K mg base CX0 1 C "spaces" ["self"] (spSpaces C)) :
    FnG P w K mg base CX0 6 f (PySem.W.fnOf "_law_same" "_law_same" (defArgs sSame) (defBody sSame) (defScope sSame) .none kV doc pm an cdv ct) ["_law_memory", "_law_model"] (spSame C) := by
  have TP := R.tp
  obtain ⟨fspaces, fdspaces, mmspaces, Gspaces, bspaces⟩ := HSp
  obtain ⟨fplaces, fdplaces, mmplaces, Gplaces, bplaces⟩ := R.places_
  obtain ⟨fread, fdread, mmread, Gread, bread⟩ := R.read_
  refine fn_g lk0 hcd scSame (fun vs H Q E h => ?_) fun A0 outer s0 H vs Q E gd hr h => ?_
  · obtain ⟨p, md, dx, hd, m, mm, rfl, _⟩ := h
    rfl
  · obtain ⟨p, md, dx, hd, m, mm, rfl, hP, hM, ep, dj, hC, hN, k⟩ := h
    have hr1 := hr.mono (show 1 ≤ 5 by decide)
    have hr4 := hr.mono (show 4 ≤ 5 by decide)
    have hu := hu_of hr
    suffices hh : ∃ t, PSs (cxOf CX0 P w K mg base ["_law_memory", "_law_model", "_law_title", "_law_inside", "_law_spot"] "_law_same" (defScope sSame) f cdv A0 outer s0 H E).nox (defBody sSame) t ∧ t { nx := fun _ H' => Q .non H', rt := Q } (start ["_law_memory", "_law_model", "_law_title", "_law_inside", "_law_spot"] [.ref p, .ref md]) H by
      obtain ⟨t, h1, h2⟩ := hh
      exact ⟨t, h1.nox, h2⟩
    refine ⟨_, (pss_cons (ps_if (pt_cmpR (op_neD hr.units) (pe_meth0 (pv 0) TP.cl mmspaces Gspaces hr1 bspaces .nil pass0) (pe_callB (r := rSrtD P w) (call_srtD rfl) (by rfl) sorted_ (by decide +kernel) (pa_cons (pv 1) pa_nil)) (nomark _))
        (pss_one (ps_ret pe_bl))
        pss_nil)
      (pss_cons (ps_lock (ps_for PassesOwn.never rfl (pi_keys (pv 1)) (pg_name (i := 2) scSame.nd rfl (Or.inr rfl))
        (pss_cons (ps_set (i := 3) scSame.nd rfl (Or.inr rfl) (pe_dget hu (pv 1) (pv 2) (fun _ _ => rfl)))
          (pss_cons (ps_if (pt_cmpR (op_neD hr.units) (pe_meth (pv 0) TP.cl mmplaces Gplaces hr4 bplaces .nil passL (pa_cons (pv 2) pa_nil)) (pe_callB (r := rSrtD P w) (call_srtD rfl) (by rfl) sorted_ (by decide +kernel) (pa_cons (pv 3) pa_nil)) (nomark _))
            (pss_one (ps_ret pe_bl))
            pss_nil)
          (pss_one (ps_if (pt_cmpR (op_neD hr.units) (pe_lock (pe_lc (own := [("_law_spot", 4)]) (g := gName 4) rfl scSame.nd (pi_keys (pv 3)) (blkOk_by (own := [("_law_spot", 4)]) (N := ["_law_memory", "_law_model", "_law_title", "_law_inside", "_law_spot"]) (sc := defScope sSame) (by decide +kernel)) (fun _ _ _ _ _ => (pg_name (i := 4) scSame.nd rfl (Or.inl rfl))) (fun _ _ _ _ _ => pts_one (pt_cmpR op_ne (pe_callB (r := rReprD) (call_reprD gd hr) (by rfl) repr_ PyProof.Rows.boot_repr (pa_cons (pe_meth (pv 0) TP.cl mmread Gread hr bread .nil passL (pa_cons (pv 2) (pa_cons (pv 4) pa_nil))) pa_nil)) (pe_callB (r := rReprD) (call_reprD gd hr) (by rfl) repr_ PyProof.Rows.boot_repr (pa_cons (pe_dget hu (pv 3) (pv 4) (fun _ _ => rfl)) pa_nil)) (nomark _))) (fun _ _ _ _ _ => (pv 4)))) (pe_lst pa_nil) (nomark _))
            (pss_one (ps_ret pe_bl))
            pss_nil))))))
      (pss_one (ps_ret pe_bl)))), ?_⟩

    -- the spaces
    refine ⟨_, rfl, p, dx, _, rfl, hP.ins, no_held (by decide +kernel), tns ⟨p, dx, hd, m, rfl, hP, fun ys l1 hp hs n1 => ?_⟩⟩
    generalize eH1 : upd H l1 _ = H1
    have s1 : Same H H1 := by rw [← eH1]; exact sameNew n1
    have a1 : H1 l1 = some (HO.lst (ys.map V.str) : HO) := by rw [← eH1]; exact upd_same
    clear eH1
    have M1 := hM.same s1
    refine ⟨_, rfl, tns (srt_strs (ks := mm.map (·.1)) (.inl M1.held) (by unfold hK kv; rw [List.map_map, List.map_map]; rfl) fun zs l2 hp2 hs2 n2 => ?_)⟩
    generalize eH2 : upd H1 l2 _ = H2
    have s2 : Same H1 H2 := by rw [← eH2]; exact sameNew n2
    have a2 : H2 l2 = some (HO.lst (zs.map V.str) : HO) := by rw [← eH2]; exact upd_same
    clear eH2
    obtain rfl : ys = zs := sortedS_one ((hp.trans (by rw [names_pur ep])).trans hp2.symm) hs hs2
    have nm : ∀ n ∈ ys, TitleS n := fun n hn => by
      obtain ⟨e, he, rfl⟩ := List.mem_map.mp (hp.mem_iff.mp hn)
      exact hN _ (by rw [lk_mem_pur hP.nodN he]; rfl)
    refine ⟨.list (ys.map .str), .list (ys.map .str), .lst (SqL.of (s2 _ _ a1)) (dp_strs ys), .lst (SqL.of a2) (dp_strs ys), shaped_strs nm, shaped_strs nm, ?_⟩
    rw [eqv_same (shaped_strs nm)]
    refine ⟨_, rfl, iteF ?_⟩
    have s02 := s1.trans s2
    have M2 := hM.same s02
    have P2 := hP.same s02
    -- each space
    have pmd : p ≠ md := fun z => by
      have := M2.held
      rw [← z, P2.ins] at this
      cases this
    refine ⟨md, .dK (hK mm), M2.held, trivial, fun od => ?_⟩
    refine ⟨_, rfl, md, od, rfl, .inl ⟨hK mm, upd_same, for_it walk_keys (fun i σ G => (∃ v2 v3 v4, σ = [some (.ref p), some (.ref md), v2, v3, v4]) ∧ Same (upd H2 md (.frz od (.dK (hK mm)))) G) ⟨⟨_, _, _, rfl⟩, Same.refl _⟩ (fun i σ G _ h => h.2 _ _ upd_same) ?_ ?_⟩⟩
    · rintro i x σ G0 G hi ⟨⟨v2, v3, v4, rfl⟩, sG⟩ ⟨rfl, kk, vv, hk, rfl⟩
      obtain ⟨e, he, hkv⟩ : ∃ e, mm[i]? = some e ∧ (Sum.inr e.1, V.ref e.2.1) = (kk, vv) := by
        unfold hK kv at hk
        rw [List.getElem?_map] at hk
        obtain ⟨e, h1, h2⟩ := Option.map_eq_some_iff.mp hk
        exact ⟨e, h1, h2⟩
      cases hkv
      have em := List.mem_of_getElem? he
      obtain ⟨s, a, d⟩ := e
      have q1 : lk mm s = some (a, d) := lk_of_mem hM.nodN em
      have q0 : lk (pur m) s = some d := by rw [ep, pur_lk, q1]; rfl
      obtain ⟨a', y⟩ := lkm q0
      have ct := hC s d q0
      have kG : Keeps [md] H2 G := fun b o e n => sG b o (by rw [upd_ne (fun z => n (by rw [z]; exact List.mem_singleton.mpr rfl))]; exact e)
      have PG : PlA C G p dx hd m := P2.keep kG (by rw [List.mem_singleton]; exact pmd) (fun b hb z => by rw [List.mem_singleton] at z; exact dj b hb (by rw [z]; exact List.mem_cons_self))
      have fr := sG _ _ upd_same
      have am : a ≠ md := fun z => (List.nodup_cons.mp hM.nodA).1 (by rw [← z]; exact List.mem_map.mpr ⟨_, em, rfl⟩)
      have ha : G a = some (.dK (dI d)) := kG _ _ (M2.inner _ em) (by rw [List.mem_singleton]; exact am)
      refine ⟨_, rfl, _, rfl, md, .ref a, rfl, .inl ⟨hK mm, Sum.inr s, .inr ⟨od, fr⟩, rfl, by rw [hK_val, q1]; rfl⟩, ?_⟩
      -- its places
      refine ⟨_, rfl, p, dx, _, rfl, PG.ins, no_held (by decide +kernel), _, rfl, tns (places_ok PG y fun ys l3 h1 h2 n3 => ?_)⟩
      generalize eG1 : upd G l3 _ = G1
      have s3 : Same G G1 := by rw [← eG1]; exact sameNew n3
      have a3 : G1 l3 = some (HO.lst (ys.map V.int) : HO) := by rw [← eG1]; exact upd_same
      clear eG1
      refine ⟨_, rfl, tns (srt_ints (ks := d.map (·.1)) (.inl (s3 _ _ ha)) (by unfold dI kv; rw [List.map_map, List.map_map]; rfl) fun zs l4 h3 h4 n4 => ?_)⟩
      generalize eG2 : upd G1 l4 _ = G2
      have s4 : Same G1 G2 := by rw [← eG2]; exact sameNew n4
      have a4 : G2 l4 = some (HO.lst (zs.map V.int) : HO) := by rw [← eG2]; exact upd_same
      clear eG2
      obtain rfl : ys = zs := PySem.W.ksm_same (h1.trans h3.symm) h2 h4
      refine ⟨.list (ys.map .int), .list (ys.map .int), .lst (SqL.of (s4 _ _ a3)) (dp_ints ys), .lst (SqL.of a4) (dp_ints ys), PySem.W.ke_shaped_ints ys, PySem.W.ke_shaped_ints ys, ?_⟩
      rw [eqv_same (PySem.W.ke_shaped_ints ys)]
      refine ⟨_, rfl, iteF ?_⟩
      have s34 := s3.trans s4
      have PG2 := PG.same s34
      have ha2 := s34 _ _ ha
      -- its contents
      refine ⟨a, .dK (dI d), ha2, trivial, fun oa => ?_⟩
      refine ⟨_, rfl, a, oa, rfl, .inl ⟨dI d, upd_same, fun D nD => ?_⟩⟩
      refine lc_it walk_keys (fun j F => Same (upd G2 a (.frz oa (.dK (dI d)))) F ∧ F D = some (.lst [])) ⟨sameNew nD, upd_same⟩ (fun j F _ h => h.1 _ _ upd_same) (fun j z F F' hj hF hy => ?_) (fun F hF => ?_)
      · obtain ⟨sF, hD⟩ := hF
        obtain ⟨rfl, kc, vc, hkc, rfl⟩ := hy
        obtain ⟨u, hu', hkv⟩ : ∃ u, d[j]? = some u ∧ (Sum.inl u.1, V.int u.2) = (kc, vc) := by
          unfold dI kv at hkc
          rw [List.getElem?_map] at hkc
          obtain ⟨u, h1, h2⟩ := Option.map_eq_some_iff.mp hkc
          exact ⟨u, h1, h2⟩
        cases hkv
        obtain ⟨c, x⟩ := u
        have hx : lk d c = some x := lk_of_mem (hM.ok _ em).1 (List.mem_of_getElem? hu')
        obtain ⟨x0, x1⟩ := ct c x hx
        have kF : Keeps [a] G2 F' := fun b o e n => sF b o (by rw [upd_ne (fun z => n (by rw [z]; exact List.mem_singleton.mpr rfl))]; exact e)
        have PF : PlA C F' p dx hd m := PG2.keep kF (fun z => by
          rw [List.mem_singleton] at z
          have := PG2.ins
          rw [z, ha2] at this
          cases this) (fun b hb z => by
          rw [List.mem_singleton] at z
          exact dj b hb (by rw [z]; exact List.mem_cons_of_mem _ (List.mem_map.mpr ⟨_, em, rfl⟩)))
        have fa := sF _ _ upd_same
        have shw : (PyData.int x).showable = true := by
          have := log_small (i := x) (by omega)
          simpa [PyData.showable] using this
        have len_ : (PyData.int x).shown.length ≤ sizeLine := by
          have := (fits_small (i := x) (by omega)).2.1
          rw [sizeLine_eq]
          omega
        refine ⟨rfl, _, rfl, p, dx, _, rfl, PF.ins, no_held (by decide +kernel), _, rfl, _, rfl, tns (read_ok PF y hx (tns ⟨.int x, .int x, rfl, .th (.int x), shw, Nat.zero_le 9, len_, ?_⟩))⟩
        refine ⟨_, rfl, _, rfl, a, .int x, rfl, .inl ⟨dI d, Sum.inl c, .inr ⟨oa, fa⟩, rfl, by rw [dI_val, hx]; rfl⟩, tns ⟨.int x, .int x, rfl, .th (.int x), shw, Nat.zero_le 9, len_, rfl, _, rfl, nY ⟨sF, hD⟩⟩⟩
      · obtain ⟨sF, hD⟩ := hF
        have Da : D ≠ a := fun z => by rw [z, upd_same] at nD; cases nD
        have sEnd : Same (upd H2 md (.frz od (.dK (hK mm)))) (upd F a (.dK (dI d))) := fun b o e => by
          have e1 := s34 _ _ (sG _ _ e)
          by_cases z : b = a
          · rw [z, upd_same]
            rw [z, ha2] at e1
            exact e1
          · rw [upd_ne z]
            exact sF _ _ (by rw [upd_ne z]; exact e1)
        refine ⟨sF _ _ upd_same, by decide, fun l5 n5 => ?_⟩
        have hD2 : (upd F a (.dK (dI d))) D = some (.lst []) := by rw [upd_ne Da]; exact hD
        have s5 := sameNew (o := HO.lst []) n5
        have a5 : (upd (upd F a (.dK (dI d))) l5 (.lst [])) l5 = some (.lst []) := upd_same
        refine ⟨.list [], .list [], .lst (SqL.of (s5 _ _ hD2)) .nil, .lst (SqL.of a5) .nil, rfl, rfl, ?_⟩
        rw [eqv_nil]
        exact ⟨_, rfl, iteF ⟨⟨_, _, _, rfl⟩, sEnd.trans s5⟩⟩
    · rintro σ G ⟨⟨v2, v3, v4, rfl⟩, sG⟩
      refine ⟨sG _ _ upd_same, k _ fun b o e => ?_⟩
      have e2 := s02 _ _ e
      by_cases z : b = md
      · rw [z, upd_same]
        rw [z, M2.held] at e2
        exact e2
      · rw [upd_ne z]
        exact sG _ _ (by rw [upd_ne z]; exact e2)
end
end Bm
set_option maxRecDepth 100000
set_option maxHeartbeats 4000000
/-! what stays right from operation to operation -/
namespace Bm
open PySem L2 L3 Pm
theorem nameS_title {s : Str} (h : nameS s = true) : TitleS s := by
  unfold nameS at h
  simp only [Bool.and_eq_true, decide_eq_true_eq, List.all_eq_true] at h
  refine ⟨by omega, ?_⟩
  rw [Array.all_eq_true']
  intro x hx
  have := h.2.2 x (Array.mem_toList_iff.mpr hx)
  have z : ∀ c ∈ LET.cps.toList, decide (c < 0x110000) = true := by decide +kernel
  exact z x (of_decide_eq_true this)
theorem Ct.pt {d : Pl} {i v : Int} (h : Ct d) (h0 : 0 ≤ v) (h1 : v ≤ 1000000) : Ct (pt d i v) := fun c x e => by
  rw [lk_pt] at e
  by_cases q : c = i
  · rw [if_pos q] at e
    cases e
    exact ⟨h0, h1⟩
  · rw [if_neg q] at e
    exact h c x e
theorem Ct.dr {d : Pl} {i : Int} (h : Ct d) : Ct (dr d i) := fun c x e => by
  rw [lk_dr] at e
  by_cases q : c = i
  · rw [if_pos q] at e; cases e
  · rw [if_neg q] at e
    exact h c x e
theorem Ct.mapP {d : Pl} {b : Int} {n : Nat} (h : Ct d) : Ct (mapP d b n) := fun c x e => by
  rw [lk_mapP] at e
  by_cases q : b ≤ c ∧ c < b + n
  · rw [if_pos q] at e
    cases e
    exact ⟨by decide, by decide⟩
  · rw [if_neg q] at e
    exact h c x e
theorem Ct.unmapP {d : Pl} {b : Int} : ∀ {n : Nat}, Ct d → Ct (unmapP d b n)
  | 0, h => h
  | n + 1, h => (Ct.unmapP (n := n) h).dr
theorem Ct.moveP {d : Pl} {b to : Int} : ∀ {n : Nat}, Ct d → Ct (moveP d b to n)
  | 0, h => h
  | n + 1, h => by
    have ih := Ct.moveP (n := n) (b := b) (to := to) h
    have z : 0 ≤ (lk (Pm.moveP d b to n) (b + (n : Int))).getD 0 ∧ (lk (Pm.moveP d b to n) (b + (n : Int))).getD 0 ≤ 1000000 := by
      cases e : lk (Pm.moveP d b to n) (b + (n : Int)) with
      | none => exact ⟨by decide, by decide⟩
      | some x => exact ih _ _ e
    exact ih.dr.pt z.1 z.2
theorem CtM.put {M : Mem} {s : Str} {d' : Pl} (h : CtM M) (hd : Ct d') : CtM (pt M s d') := fun s' d e => by
  rw [lk_pt] at e
  by_cases q : s' = s
  · rw [if_pos q] at e; cases e; exact hd
  · rw [if_neg q] at e; exact h s' d e
theorem NaM.put {M : Mem} {s : Str} {d' : Pl} (h : NaM M) (hs : (lk M s).isSome = true) : NaM (pt M s d') := fun s' e => by
  rw [lk_pt] at e
  by_cases q : s' = s
  · exact q ▸ h s hs
  · rw [if_neg q] at e; exact h s' e
theorem CtM.app {M : Mem} {s : Str} {d' : Pl} (h : CtM M) (hd : Ct d') : CtM (M ++ [(s, d')]) := fun s' d e => by
  rw [lk_app] at e
  cases q : lk M s' with
  | some x => rw [q] at e; cases e; exact h s' _ q
  | none =>
    rw [q] at e
    by_cases z : s = s'
    · have e' : (some d' : Option Pl) = some d := by simpa [z] using e
      cases e'; exact hd
    · simp [z] at e
theorem NaM.app {M : Mem} {s : Str} {d' : Pl} (h : NaM M) (hs : TitleS s) : NaM (M ++ [(s, d')]) := fun s' e => by
  rw [lk_app] at e
  cases q : lk M s' with
  | some x => exact h s' (by rw [q]; rfl)
  | none =>
    rw [q] at e
    by_cases z : s = s'
    · exact z ▸ hs
    · simp [z] at e
theorem good_done {M : Mem} {o : Op} (f : fault M o = none) (hC : CtM M) (hN : NaM M) : CtM (done M o) ∧ NaM (done M o) ∧ (done M o).length ≤ M.length + 1 := by
  have can := can_of f
  cases can with
  | @add s hs hn => exact ⟨hC.app (fun c x e => by cases e), hN.app (nameS_title hs), by show (M ++ [(s, [])]).length ≤ _; simp⟩
  | @drop s d h =>
    refine ⟨fun s' d' e => ?_, fun s' e => ?_, Nat.le_succ_of_le (length_dr M s)⟩
    · have e : lk (dr M s) s' = some d' := e
      rw [lk_dr] at e
      by_cases q : s' = s
      · rw [if_pos q] at e; cases e
      · rw [if_neg q] at e; exact hC s' d' e
    · have e : (lk (dr M s) s').isSome = true := e
      rw [lk_dr] at e
      by_cases q : s' = s
      · rw [if_pos q] at e; cases e
      · rw [if_neg q] at e; exact hN s' e
  | @places s d h => exact ⟨hC, hN, Nat.le_succ _⟩
  | @fork s c d h hc hn => exact ⟨hC.app (by rw [inn_of h]; exact hC s d h), hN.app (nameS_title hc), by show (M ++ [(c, _)]).length ≤ _; simp⟩
  | @read s d i x h hi => exact ⟨hC, hN, Nat.le_succ _⟩
  | @write s d i x j h hi hc =>
    have hj : 0 ≤ j ∧ j ≤ 1000000 := by simpa [isC] using hc
    exact ⟨hC.put (by rw [inn_of h]; exact (hC s d h).pt hj.1 hj.2), hN.put (by rw [h]; rfl), length_pt _ _ _⟩
  | @map s d i j h hS n => exact ⟨hC.put (by rw [inn_of h]; exact (hC s d h).mapP), hN.put (by rw [h]; rfl), length_pt _ _ _⟩
  | @unmap s d i j h hS => exact ⟨hC.put (by rw [inn_of h]; exact (hC s d h).unmapP), hN.put (by rw [h]; rfl), length_pt _ _ _⟩
  | @move s d i j k h hS hS2 l n => exact ⟨hC.put (by rw [inn_of h]; exact (hC s d h).moveP), hN.put (by rw [h]; rfl), length_pt _ _ _⟩
theorem used_in {d : Pl} {b : Int} {x : Int} : ∀ {n : Nat}, used d b n = some x → b ≤ x ∧ x < b + n
  | 0, h => by cases h
  | n + 1, h => by
    have h' : (match used d b n with | some i => some i | none => if (lk d (b + (n : Int))).isSome = true then some (b + (n : Int)) else none) = some x := h
    cases q : used d b n with
    | some y => rw [q] at h'; cases h'; have := used_in q; omega
    | none =>
      rw [q] at h'
      by_cases z : (lk d (b + (n : Int))).isSome = true
      · have : (some (b + (n : Int)) : Option Int) = some x := by simpa [z] using h'
        cases this
        omega
      · simp [z] at h'
theorem lacks_in {d : Pl} {b : Int} {x : Int} : ∀ {n : Nat}, lacks d b n = some x → b ≤ x ∧ x < b + n
  | 0, h => by cases h
  | n + 1, h => by
    have h' : (match lacks d b n with | some i => some i | none => if (lk d (b + (n : Int))).isSome = true then none else some (b + (n : Int))) = some x := h
    cases q : lacks d b n with
    | some y => rw [q] at h'; cases h'; have := lacks_in q; omega
    | none =>
      rw [q] at h'
      by_cases z : (lk d (b + (n : Int))).isSome = true
      · simp [z] at h'
      · have : (some (b + (n : Int)) : Option Int) = some x := by simpa [z] using h'
        cases this
        omega
instance (w : Str) : Decidable (TitleS w) := inferInstanceAs (Decidable (_ ∧ _))
/-- an error's attribute -/
def AttrIs (o : Op) (w : Str) (y : V) : Prop := (w = "name" ∨ w = "value" ∨ w = "area" → y = .non) ∧ TitleS w ∧ (y ∈ o.args ∨ y = .non ∨ ∃ x : Int, y = .int x ∧ x.natAbs < 2 ^ 60)
theorem newF_attr {M : Mem} {z : V} {w : Str} {y : V} {o : Op} (hz : z ∈ o.args) (h : newF M z = er w y) : AttrIs o w y := by
  cases e : nameB z with
  | false =>
    rw [newF_bad e] at h
    cases h
    exact ⟨fun _ => rfl, by decide +kernel, .inr (.inl rfl)⟩
  | true =>
    cases z with
    | str c =>
      have h' : (if nameS c = true then (if (lk M c).isSome = true then er "taken" (.str c) else none) else er "name" .non) = er w y := h
      rw [if_pos (show nameS c = true from e)] at h'
      by_cases q : (lk M c).isSome = true
      · rw [if_pos q] at h'
        cases h'
        exact ⟨fun z => by rcases z with z | z | z <;> exact absurd z (by decide +kernel), by decide +kernel, .inl hz⟩
      · rw [if_neg q] at h'; cases h'
    | _ => cases e
theorem inSp_attr {M : Mem} {o : Op} {f : Pl → Err} {w : Str} {y : V} (h : inSp M o.title f = er w y) (hf : ∀ d, f d = er w y → AttrIs o w y) : AttrIs o w y := by
  have sp : er "space" o.title = er w y → AttrIs o w y := fun e => by
    cases e
    exact ⟨fun z => by rcases z with z | z | z <;> exact absurd z (by decide +kernel), by decide +kernel, .inl List.mem_cons_self⟩
  unfold inSp at h
  cases q : o.title with
  | str s =>
    rw [q] at h sp
    have h' : (match lk M s with | none => er "space" (.str s) | some d => f d) = er w y := h
    cases e : lk M s with
    | none => rw [e] at h'; exact sp h'
    | some d => rw [e] at h'; exact hf d h'
  | _ => rw [q] at h sp; exact sp h
theorem plF_attr {d : Pl} {z : V} {w : Str} {y : V} {o : Op} (hz : z ∈ o.args) (h : plF d z = er w y) : AttrIs o w y := by
  have : plF d z = er "place" z := by
    cases z with
    | int i =>
      have h' : (if (lk d i).isSome = true then none else er "place" (.int i)) = er w y := h
      cases q : lk d i with
      | none => exact plF_bad fun j e => by cases e; exact q
      | some x => rw [q] at h'; cases h'
    | _ => rfl
  rw [this] at h
  cases h
  exact ⟨fun z => by rcases z with z | z | z <;> exact absurd z (by decide +kernel), by decide +kernel, .inl hz⟩
theorem area_attr {w : Str} {y : V} {o : Op} (h : er "area" .non = er w y) : AttrIs o w y := by
  cases h
  exact ⟨fun _ => rfl, by decide +kernel, .inr (.inl rfl)⟩
theorem int_attr {w : Str} {x : Int} {o : Op} (hw : w = "used" ∨ w = "place") (h0 : 0 ≤ x) (h1 : x < 10000) : AttrIs o w (.int x) :=
  ⟨fun z => by rcases hw with rfl | rfl <;> rcases z with z | z | z <;> exact absurd z (by decide +kernel), by rcases hw with rfl | rfl <;> decide +kernel, .inr (.inr ⟨x, rfl, by omega⟩)⟩
theorem usF_attr {d : Pl} {i j : Int} {w : Str} {y : V} {o : Op} (hS : isS (.int i) (.int j) = true) (h : usF d (.int i) (.int j) = er w y) : AttrIs o w y := by
  obtain ⟨i0, j1, ij⟩ := isS_iff.mp hS
  cases q : used d i j.toNat with
  | none => rw [usF_0 q] at h; cases h
  | some x =>
    rw [usF_eq q] at h
    cases h
    have := used_in q
    exact int_attr (.inl rfl) (by omega) (by omega)
theorem laF_attr {d : Pl} {i j : Int} {w : Str} {y : V} {o : Op} (hS : isS (.int i) (.int j) = true) (h : laF d (.int i) (.int j) = er w y) : AttrIs o w y := by
  obtain ⟨i0, j1, ij⟩ := isS_iff.mp hS
  cases q : lacks d i j.toNat with
  | none => rw [laF_0 q] at h; cases h
  | some x =>
    rw [laF_eq q] at h
    cases h
    have := lacks_in q
    exact int_attr (.inr rfl) (by omega) (by omega)
theorem or_er {a b : Err} {w : Str} {y : V} (h : a.or b = er w y) : a = er w y ∨ (a = none ∧ b = er w y) := by
  cases a with
  | none => exact .inr ⟨rfl, h⟩
  | some x => exact .inl h
theorem fault_attr {M : Mem} {o : Op} {w : Str} {y : V} (h : fault M o = er w y) : AttrIs o w y := by
  cases o with
  | add y => exact newF_attr List.mem_cons_self h
  | drop y => exact inSp_attr h fun d e => by cases e
  | places y => exact inSp_attr h fun d e => by cases e
  | fork y z => exact inSp_attr h fun d e => newF_attr (by simp [Op.args, Op.more]) e
  | read y z => exact inSp_attr h fun d e => plF_attr (by simp [Op.args, Op.more]) e
  | write y z v =>
    refine inSp_attr h fun d e => ?_
    rcases or_er e with e | ⟨_, e⟩
    · exact plF_attr (by simp [Op.args, Op.more]) e
    · cases q : isC v with
      | true => rw [q] at e; cases e
      | false =>
        rw [q] at e
        cases e
        exact ⟨fun _ => rfl, by decide +kernel, .inr (.inl rfl)⟩
  | map y b n =>
    refine inSp_attr h fun d e => ?_
    by_cases q : isS b n = true
    · rw [if_pos q] at e
      obtain ⟨i, j, rfl, rfl⟩ := isS_ints q
      exact usF_attr q e
    · rw [if_neg q] at e
      exact area_attr e
  | unmap y b n =>
    refine inSp_attr h fun d e => ?_
    by_cases q : isS b n = true
    · rw [if_pos q] at e; cases e
    · rw [if_neg q] at e
      exact area_attr e
  | move y b n t =>
    refine inSp_attr h fun d e => ?_
    by_cases q : isS b n = true ∧ isS t n = true
    · rw [if_pos q] at e
      obtain ⟨i, j, rfl, rfl⟩ := isS_ints q.1
      obtain ⟨k, j', rfl, ej⟩ := isS_ints q.2
      cases ej
      rcases or_er e with e | ⟨_, e⟩
      · exact laF_attr q.1 e
      · exact usF_attr q.2 e
    · rw [if_neg q] at e
      exact area_attr e
/-- a part as data -/
def PartV (H : Hp) (v : V) : Prop := (∃ p, ThV H v p ∧ Fits p) ∧ Short v
theorem fits_title {w : Str} (h : TitleS w) : Fits (.str w) := by
  refine ⟨rfl, ?_, fun i z => by cases z⟩
  have : (reprText w).length ≤ 10 * w.length + 2 := StrLaws.reprText_len w fun c hc => by
    have := h.2
    rw [Array.all_eq_true'] at this
    have := this c (Array.mem_toList_iff.mp hc)
    have : c < 0x110000 := by simpa using this
    omega
  have := h.1
  show (reprText w).length ≤ 10000
  omega
theorem Arg.part {H : Hp} {v : V} (h : Arg v) : PartV H v := by
  rcases h with ⟨w, rfl, hw⟩ | ⟨i, rfl, hi⟩
  · exact ⟨⟨_, .str w, fits_title hw⟩, fun x e => by cases e; exact ⟨by have := hw.1; omega, hw.2⟩⟩
  · exact ⟨⟨_, .int i, fits_small (by omega)⟩, fun x e => by cases e⟩
end Bm
set_option maxRecDepth 100000
set_option maxHeartbeats 4000000
/-! == of two dicts of dicts, alike or not -/
namespace Pm
open PySem L2 L3
def eqD (d d' : Pl) : Bool := d.length == d'.length && d.all fun p => match lk d' p.1 with
  | some x => p.2 == x
  | none => false
def eqM (M M' : Bm.Mem) : Bool := M.length == M'.length && M.all fun p => match lk M' p.1 with
  | some d => eqD p.2 d
  | none => false
theorem hitsI {P : Program} {w : World} {A : Around} {s : Shared} {d' : Pl} {vb : List (Key × Value)} (rb : KV (dI d') vb) : ∀ {d : Pl} {va : List (Key × Value)}, KV (dI d) va →
    PySem.W.KeqHitsP P w A s vb va (d.all fun p => match lk d' p.1 with | some x => p.2 == x | none => false)
  | [], va, ra => by
    have ra : KV [] va := ra
    unfold KV at ra
    cases ra
    exact .nil
  | p :: d, va, ra => by
    have ra : KV ((Sum.inl p.1, V.int p.2) :: dI d) va := ra
    unfold KV at ra
    cases ra with
    | @cons _ q _ qs h t =>
      obtain ⟨h1, h2⟩ := h
      obtain ⟨key, v⟩ := q
      have h1 : (Sum.inl p.1 : Key) = key := h1
      subst h1
      have ih := hitsI (P := P) (w := w) (A := A) (s := s) rb (d := d) (va := qs) t
      have rr := rb.val (Sum.inl p.1)
      rw [dI_val] at rr
      rw [List.all_cons]
      cases e : lk d' p.1 with
      | none =>
        rw [e] at rr
        have z : valueAt vb (Sum.inl p.1) = none := by
          cases q : valueAt vb (Sum.inl p.1) with
          | none => rfl
          | some y => rw [q] at rr; exact absurd rr (fun z => by cases z)
        show PySem.W.KeqHitsP P w A s vb _ (false && _)
        rw [Bool.false_and]
        exact .miss z
      | some x =>
        rw [e] at rr
        obtain ⟨y, hy, ry⟩ := rr.some_of
        obtain ⟨t1, rfl⟩ : ∃ t, v = .int p.2 t := h2
        obtain ⟨t2, rfl⟩ : ∃ t, y = .int x t := ry
        exact .hit hy (SeqAt.EqAt.int_int p.2 t1 x t2).eqP ih
theorem hitsM {X : Cx} {pins : List (Addr × Obj)} {σ : L2.St} {H : Hp} {s : Shared} (I : Inv X pins σ H s) {A : Around} (hu : A.units < cLine) {m' : Sp3} (in' : ∀ e ∈ m', H e.2.1 = some (.dK (dI e.2.2))) {vb : List (Key × Value)} (rb : KV (hK m') vb) : ∀ {m : Sp3} {va : List (Key × Value)}, (∀ e ∈ m, H e.2.1 = some (.dK (dI e.2.2))) → (∀ e ∈ m, ∀ e' ∈ m', e.2.1 ≠ e'.2.1) → KV (hK m) va →
    PySem.W.KeqHitsP X.prog X.w A s vb va ((pur m).all fun p => match lk (pur m') p.1 with | some d => eqD p.2 d | none => false)
  | [], va, _, _, ra => by
    have ra : KV [] va := ra
    unfold KV at ra
    cases ra
    exact .nil
  | p :: m, va, in_, dj, ra => by
    have ra : KV ((Sum.inr p.1, V.ref p.2.1) :: hK m) va := ra
    unfold KV at ra
    cases ra with
    | @cons _ q _ qs h t =>
      obtain ⟨h1, h2⟩ := h
      obtain ⟨key, v⟩ := q
      have h1 : (Sum.inr p.1 : Key) = key := h1
      subst h1
      have ih := hitsM I hu in' rb (m := m) (va := qs) (fun e he => in_ e (List.mem_cons_of_mem _ he)) (fun e he => dj e (List.mem_cons_of_mem _ he)) t
      have rr := rb.val (Sum.inr p.1)
      rw [hK_val] at rr
      show PySem.W.KeqHitsP X.prog X.w A s vb _ (((p.1, p.2.2) :: pur m).all _)
      rw [List.all_cons]
      rw [pur_lk] at *
      cases e : lk m' p.1 with
      | none =>
        rw [e] at rr
        have z : valueAt vb (Sum.inr p.1) = none := by
          cases q : valueAt vb (Sum.inr p.1) with
          | none => rfl
          | some y => rw [q] at rr; exact absurd rr (fun z => by cases z)
        show PySem.W.KeqHitsP X.prog X.w A s vb _ (false && _)
        rw [Bool.false_and]
        exact .miss z
      | some x =>
        rw [e] at rr
        obtain ⟨y, hy, ry⟩ := rr.some_of
        have h2 : v = .ref p.2.1 := h2
        have ry : y = .ref x.1 := ry
        subst h2
        subst ry
        have hx := lk_mem e
        have ne : p.2.1 ≠ x.1 := dj p List.mem_cons_self _ hx
        obtain ⟨_, ya, va', ra', da'⟩ := (show ObjOk X.prog X.w H s.heap _ (.dK _) from I.hok _ _ (in_ p List.mem_cons_self))
        obtain ⟨_, yb, vb', rb', db'⟩ := (show ObjOk X.prog X.w H s.heap _ (.dK _) from I.hok _ _ (in' _ hx))
        refine .hit hy (SeqAt.eqP_refs ne fun E Q q => ?_) ih
        refine PySem.W.rcP_dicts (knd := mixKind X.prog X.w) ya yb da' db' hu (fun _ => hitsI rb' ra') E Q ?_
        have l1 : va'.length = p.2.2.length := by rw [← ra'.length]; exact dI_length _
        have l2 : vb'.length = x.2.length := by rw [← rb'.length]; exact dI_length _
        rw [l1, l2]
        exact q
/-- == of two dicts of dicts -/
def rDD : R2 := fun x y H Q => ∃ (a b : Addr) (m m' : Sp3), x = .ref a ∧ y = .ref b ∧ H a = some (.dK (hK m)) ∧ H b = some (.dK (hK m')) ∧ (∀ e ∈ m, H e.2.1 = some (.dK (dI e.2.2))) ∧ (∀ e ∈ m', H e.2.1 = some (.dK (dI e.2.2))) ∧ (∀ e ∈ m, ∀ e' ∈ m', e.2.1 ≠ e'.2.1) ∧ Q (.bl (eqM (pur m) (pur m'))) H
theorem op_eqDD {X : Cx} (hu : X.A.units + 64 < cLine) : OpR X (compareOp .Eq) rDD := by
  intro pins s σ H x y v u Q I rx ry h
  obtain ⟨a, b, m, m', rfl, rfl, ha, hb, in_, in', dj, q⟩ := h
  obtain rfl : v = .ref a := rx
  obtain rfl : u = .ref b := ry
  obtain ⟨_, ya, va, ra, da⟩ := (show ObjOk X.prog X.w H s.heap a (.dK _) from I.hok _ _ ha)
  obtain ⟨_, yb, vb, rb, db⟩ := (show ObjOk X.prog X.w H s.heap b (.dK _) from I.hok _ _ hb)
  refine PySem.W.rcP_dicts (knd := mixKind X.prog X.w) ya yb da db (by omega) (fun _ => hitsM I (by show X.A.units + 1 < cLine; omega) in' rb in_ dj ra) _ _ ⟨.bl _, H, I, ?_, q⟩
  have l1 : va.length = (pur m).length := by rw [← ra.length]; unfold pur hK; rw [kv_length, List.length_map]
  have l2 : vb.length = (pur m').length := by rw [← rb.length]; unfold pur hK; rw [kv_length, List.length_map]
  rw [l1, l2]
  rfl
end Pm
set_option maxRecDepth 100000
set_option maxHeartbeats 4000000
/-! Plain.copy -/
namespace Bm
open PySem L2 L3 Pm
-- ['self', 'found', 'space']
abbrev sCopy : Stmt := inClass (top 23) 15
theorem mk_plain {C x dx : Addr} {H : Hp} {R : VK} {E : XK} (nx : H x = none) (ndx : H dx = none) (ne : dx ≠ x) (K : ∀ hd H', Same H H' → H hd = none → PlA C H' x dx hd [] → R .non H') : spPI C [.ref x] (upd (upd H dx (.own x)) x (.ins C dx [])) R E := by
  refine ⟨x, dx, rfl, upd_same, fun hd H' nh kp P' => K hd H' (fun b o e => ?_) ?_ P'⟩
  · have h1 := ne_of_none e nx
    refine kp b o ?_ fun z => h1 (List.mem_singleton.mp z)
    rw [upd_ne h1, upd_ne (ne_of_none e ndx)]
    exact e
  · have h1 : hd ≠ x := fun z => by rw [z, upd_same] at nh; cases nh
    rw [upd_ne h1] at nh
    have h2 : hd ≠ dx := fun z => by rw [z, upd_same] at nh; cases nh
    rwa [upd_ne h2] at nh
theorem take_none {M : Mem} (nd : (M.map (·.1)).Nodup) {r : Nat} {s : Str} {d : Pl} (h : M[r]? = some (s, d)) : lk (M.take r) s = none := by
  rw [lk_none]
  intro z
  obtain ⟨hlt, hv⟩ := List.getElem?_eq_some_iff.mp h
  have e2 : M.drop r = (s, d) :: M.drop (r + 1) := by rw [List.drop_eq_getElem_cons hlt, hv]
  rw [← List.take_append_drop r M, e2, List.map_append, List.nodup_append] at nd
  exact nd.2.2 s z s (by simp) rfl
def spCopy (C : Addr) : Sp := fun vs H Q _ => ∃ (p dx hd : Addr) (m : Sp3), vs = [.ref p] ∧ PlA C H p dx hd m ∧ m.length < 100000 ∧
  ∀ (q dq hq : Addr) (mq : Sp3) (H' : Hp), H q = none → Same H H' → PlA C H' q dq hq mq → pur mq = pur m → (∀ a ∈ fpt hq mq, H a = none) → Q (.ref q) H'
section
variable {P : Program} {w : World} {K : PySem.W.Frag} {mg : Str → Option Value} {base : Heap}
theorem scCopy : FnScope ["self", "found", "space"] ["self"] (defScope sCopy) := ⟨rfl, rfl, rfl, by decide +kernel, rfl, by decide +kernel, by decide +kernel⟩
theorem ok_copy {f C : Addr} {fd : FuncData} (F : Fun K "copy" "Plain.copy" sCopy f fd) (TP : PlT K C) (dict_ : mg "dict" = none) (mC : mg "Plain" = some (.ref C)) (HI : ∃ fI fdI, Mk K C fI ∧ FnOk P w K mg base CX0 1 fI fdI ["self"] (spPI C) ∧ Binds K fdI ["self"] []) :
    FnOk P w K mg base CX0 3 f fd ["self"] (spCopy C) := by
  obtain ⟨fI, fdI, MI, GI, bI⟩ := HI
  refine F.ok scCopy (fun vs H Q E h => ?_) (fun cdv A outer s H vs Q E hr h => ?_)
  · obtain ⟨p, dx, hd, m, rfl, _⟩ := h
    rfl
  · obtain ⟨p, dx, hd, m, rfl, hP, lm, k⟩ := h
    have hu := hu_of hr
    refine ⟨_, (pss_cons (ps_set (i := 1) scCopy.nd rfl (Or.inl rfl) (pe_make0 MI GI (hr.mono (by decide)) rfl mC bI .nil pass0))
      (pss_cons (ps_fld (pv 1) (pe_lock (pe_dc (own := [("space", 2)]) (g := gName 2) (tt := tYes) rfl scCopy.nd (pi_keys (pe_fld (pv 0) rfl)) (blkOk_by (own := [("space", 2)]) (N := ["self", "found", "space"]) (sc := defScope sCopy) (by decide +kernel)) (fun _ _ _ _ _ => (pg_name (i := 2) scCopy.nd rfl (Or.inl rfl))) (fun _ _ _ _ _ => pts_nil) (fun _ _ _ _ _ => (pv 2)) (fun _ _ _ _ _ => (pe_callTy call_dictD (by rfl) dict_ (by decide +kernel) (pa_cons (pe_dget hu (show PE _ _ (tFld K (tVar 0) "held") from pe_fld (pv 0) rfl) (pv 2) (fun _ _ => rfl)) pa_nil))))) rfl)
      (pss_one (ps_ret (pv 1))))), ?_⟩

    refine fun q dq nq ndq neq => mk_plain nq ndq neq fun h0 H1 s1 nh0 Q1 => ⟨rfl, ?_⟩
    have P1 := hP.same s1
    have phd : p ≠ hd := fun z => by
      have := P1.held
      rw [← z, P1.ins] at this
      cases this
    refine ⟨hd, .dK (hK m), P1.held, trivial, fun od => ?_⟩
    have insF : (upd H1 hd (.frz od (.dK (hK m)))) p = some (.ins C dx [("held", .ref hd)]) := by rw [upd_ne phd]; exact P1.ins
    refine ⟨_, rfl, p, C, dx, _, _, rfl, insF, TP.cl, TP.nH, rfl, hd, od, rfl, .inl ⟨hK m, upd_same, fun D nD => ?_⟩⟩
    have Dhd : D ≠ hd := fun z => by rw [z, upd_same] at nD; cases nD
    have nD1 : H1 D = none := by rwa [upd_ne Dhd] at nD
    refine dc_it walk_keys (fun r G => Same (upd H1 hd (.frz od (.dK (hK m)))) G ∧ ∃ mr : Sp3, MoA G D mr ∧ pur mr = (pur m).take r ∧ ∀ a ∈ fpt D mr, H1 a = none)
      ⟨sameNew nD, [], ⟨upd_same, (fun e he => by cases he), List.nodup_nil, (by simp), (fun e he => by cases he)⟩, rfl, fun a h => (by
        have e : a = D := by simpa [fpt] using h
        rw [e]; exact nD1)⟩ (fun r G _ h => h.1 _ _ upd_same) (fun r x G G' hr hS hy => ?_) (fun G hS => ?_)
    · obtain ⟨sG, mr, B, ep, hn⟩ := hS
      obtain ⟨rfl, kk, vv, hk, rfl⟩ := hy
      obtain ⟨e, he, hkv⟩ : ∃ e, m[r]? = some e ∧ (Sum.inr e.1, V.ref e.2.1) = (kk, vv) := by
        unfold hK kv at hk
        rw [List.getElem?_map] at hk
        obtain ⟨e, h1, h2⟩ := Option.map_eq_some_iff.mp hk
        exact ⟨e, h1, h2⟩
      cases hkv
      have em := List.mem_of_getElem? he
      obtain ⟨s, a, d⟩ := e
      have y : lk m s = some (a, d) := lk_of_mem hP.nodN em
      have pr : (pur m)[r]? = some (s, d) := by unfold pur; rw [List.getElem?_map, he]; rfl
      have fr := sG _ _ upd_same
      have ahd : a ≠ hd := hP.ne_hd y
      have ha : G' a = some (.dK (dI d)) := sG _ _ (by rw [upd_ne ahd]; exact (P1.at y).1)
      have l0 : lk mr s = none := by
        have := take_none (by unfold pur; rw [List.map_map]; exact hP.nodN) pr
        rw [← ep, pur_lk] at this
        simpa using this
      have lr : mr.length ≤ m.length := by
        have := congrArg List.length ep
        unfold pur at this
        rw [List.length_map, List.length_take, List.length_map] at this
        omega
      refine ⟨rfl, _, rfl, _, rfl, p, C, dx, _, _, rfl, sG _ _ insF, TP.cl, TP.nH, rfl, _, rfl, hd, .ref a, rfl, .inl ⟨hK m, Sum.inr s, .inr ⟨od, fr⟩, rfl, by rw [hK_val, y]; rfl⟩, a, dI d, rfl, .inl ha, fun a' na' => ?_⟩
      have Da' : D ≠ a' := ne_of_none B.held na'
      refine ⟨hK mr, Sum.inr s, rfl, by rw [upd_ne Da']; exact B.held, by rw [show (hK mr).length = mr.length from kv_length mr, sizeLine_eq]; omega, fun b o e => ?_, mr ++ [(s, a', d)], ?_, ?_, ?_⟩
      · rw [upd_ne (ne_of_none e nD), upd_ne (ne_of_none (sG _ _ e) na')]
        exact sG _ _ e
      · refine B.add l0 na' (fun b o e n => ?_) (by rw [upd_ne Da'.symm, upd_same]) upd_same (hP.at y).2
        rw [upd_ne (fun z => n (by rw [z]; exact List.mem_singleton.mpr rfl)), upd_ne (ne_of_none e na')]
        exact e
      · rw [List.take_succ, pr, ← ep]
        unfold pur
        rw [List.map_append]
        rfl
      · intro b hb
        rcases fpt_add b hb with z | z
        · exact hn b z
        · rw [z]
          have : (upd H1 hd (.frz od (.dK (hK m)))) a' = none := sG.free na'
          have n2 : a' ≠ hd := fun z => by rw [z, upd_same] at this; cases this
          rwa [upd_ne n2] at this
    · obtain ⟨sG, mr, B, ep, hn⟩ := hS
      have qhd : q ≠ hd := fun z => by
        have := P1.held
        rw [← z, Q1.ins] at this
        cases this
      have insq : (upd G hd (.dK (hK m))) q = some (.ins C dq [("held", .ref h0)]) := by
        rw [upd_ne qhd]
        exact sG _ _ (by rw [upd_ne qhd]; exact Q1.ins)
      refine ⟨sG _ _ upd_same, _, rfl, q, C, dq, _, rfl, insq, TP.cl, TP.nH, (by show 1 < 1000; decide), _, rfl, ?_⟩
      have full : pur mr = pur m := by
        rw [ep]
        exact List.take_of_length_le (by unfold pur hK; rw [kv_length, List.length_map]; exact Nat.le_refl _)
      have qD : D ≠ q := fun z => by have := B.held; rw [z] at this; have e := insq; rw [upd_ne qhd, this] at e; cases e
      have aq : ∀ e ∈ mr, e.2.1 ≠ q := fun e he z => by have := B.inner e he; rw [z] at this; have e' := insq; rw [upd_ne qhd, this] at e'; cases e'
      have offhd : ∀ a ∈ fpt D mr, a ≠ hd := fun a h z => by have := hn a h; rw [z, P1.held] at this; cases this
      refine k q dq D mr _ nq (fun b o e => ?_) ⟨upd_same, ?_, fun e he => ?_, B.nodN, B.nodA, B.ok⟩ full fun a h => s1.free (hn a h)
      · rw [upd_ne (ne_of_none e nq)]
        by_cases z : b = hd
        · rw [z, upd_same]
          rw [z, hP.held] at e
          exact e
        · rw [upd_ne z]
          exact sG _ _ (by rw [upd_ne z]; exact s1 _ _ e)
      · rw [upd_ne qD, upd_ne (offhd D List.mem_cons_self)]
        exact B.held
      · rw [upd_ne (aq e he), upd_ne (offhd _ (List.mem_cons_of_mem _ (List.mem_map.mpr ⟨e, he, rfl⟩)))]
        exact B.inner e he
end
end Bm
set_option maxRecDepth 100000
set_option maxHeartbeats 4000000
/-! a list, mixed -/
namespace Bm
open PySem L2 L3 Pm
abbrev sMixed : Stmt := top 28
/-- ints, or short texts -/
def Mix (xs : List V) : Prop := (∀ x ∈ xs, ∃ i : Int, x = .int i) ∨ ∀ x ∈ xs, ∃ t : Str, x = .str t ∧ TitleS t
theorem Mix.sub {xs ys : List V} (h : Mix xs) (s : ∀ y ∈ ys, y ∈ xs) : Mix ys := h.imp (fun h y hy => h y (s y hy)) (fun h y hy => h y (s y hy))
theorem as_ints : ∀ {xs : List V}, (∀ x ∈ xs, ∃ i : Int, x = .int i) → ∃ ns : List Int, xs = ns.map V.int
  | [], _ => ⟨[], rfl⟩
  | x :: xs, h => by
    obtain ⟨i, rfl⟩ := h x List.mem_cons_self
    obtain ⟨ns, rfl⟩ := as_ints fun y hy => h y (List.mem_cons_of_mem _ hy)
    exact ⟨i :: ns, rfl⟩
theorem as_strs : ∀ {xs : List V}, (∀ x ∈ xs, ∃ t : Str, x = .str t ∧ TitleS t) → ∃ ts : List Str, xs = ts.map V.str ∧ ∀ t ∈ ts, TitleS t
  | [], _ => ⟨[], rfl, by simp⟩
  | x :: xs, h => by
    obtain ⟨t, rfl, ht⟩ := h x List.mem_cons_self
    obtain ⟨ts, rfl, hts⟩ := as_strs fun y hy => h y (List.mem_cons_of_mem _ hy)
    refine ⟨t :: ts, rfl, fun u hu => ?_⟩
    rcases List.mem_cons.mp hu with rfl | hu
    · exact ht
    · exact hts u hu
theorem erase_perm {α : Type} : ∀ (us : List α) (k : Nat) (h : k < us.length), (us[k] :: us.eraseIdx k).Perm us
  | u :: us, 0, _ => .refl _
  | u :: us, k + 1, h => (List.Perm.swap u (us[k]'(Nat.lt_of_succ_lt_succ h)) (us.eraseIdx k)).trans ((erase_perm us k (Nat.lt_of_succ_lt_succ h)).cons u)
theorem mix_dp {K : PySem.W.Frag} {H : Hp} {xs : List V} (h : Mix xs) : ∃ ds, DpAll K H xs ds ∧ SeqAt.shaped (.list ds) = true ∧ ds.isEmpty = xs.isEmpty := by
  rcases h with h | h
  · obtain ⟨ns, rfl⟩ := as_ints h
    exact ⟨ns.map .int, dp_ints ns, PySem.W.ke_shaped_ints ns, by cases ns <;> rfl⟩
  · obtain ⟨ts, rfl, ht⟩ := as_strs h
    exact ⟨ts.map .str, dp_strs ts, shaped_strs ht, by cases ts <;> rfl⟩
def spMixed : Sp := fun vs H Q _ => ∃ (d st l : Addr) (xs : List V), vs = [.ref d, .ref l] ∧ Dr d st H ∧ H l = some (.lst xs) ∧ l ≠ d ∧ l ≠ st ∧ Mix xs ∧ xs.length < 1000000 ∧
  ∀ (q : Addr) (ys : List V) (H' : Hp), H q = none → H' q = some (.lst ys) → ys.Perm xs → Dr d st H' → Kp d st H H' → Q (.ref q) H'
section
variable {P : Program} {w : World} {K : PySem.W.Frag} {mg : Str → Option Value} {base : Heap}
theorem scMixed : FnScope ["_law_draw_here", "_law_some", "_law_left", "_law_found"] ["_law_draw_here", "_law_some"] (defScope sMixed) := ⟨rfl, rfl, rfl, by decide +kernel, rfl, by decide +kernel, by decide +kernel⟩
theorem ok_mixed {f : Addr} {fd : FuncData} (F : Fun K "_law_mixed" "_law_mixed" sMixed f fd) (list_ : mg "list" = none) (len_ : mg "len" = none) (HD : Has P w K mg base CX0 1 "_law_draw" ["_law_draw_here", "_law_below"] spDraw) :
    FnOk P w K mg base CX0 2 f fd ["_law_draw_here", "_law_some"] spMixed := by
  obtain ⟨fD, fdD, GD, mD, kD, bD⟩ := HD
  refine F.ok scMixed (fun vs H Q E h => ?_) (fun cdv A outer s H vs Q E hr h => ?_)
  · obtain ⟨d, st, l, xs, rfl, _⟩ := h
    rfl
  · obtain ⟨d, st, l, xs, rfl, D, hl, ld, ls_, mx, len, k⟩ := h
    refine ⟨_, (pss_cons (ps_par (i := 2) (j := 3) (by rfl) scMixed.nd rfl rfl (by decide) rfl rfl (pa_cons (pe_callTy call_list_of (by rfl) list_ (by decide +kernel) (pa_cons (pv 1) pa_nil)) (pa_cons (pe_lst pa_nil) pa_nil)) (by rfl))
      (pss_cons (ps_while PassesOwn.never (pt_cmpR (op_neD hr.units) (pv 2) (pe_lst pa_nil) (nomark _))
        (pss_one (ps_expr (pe_bm PySem.F.plainAttrs_list PySem.F.slot_list_append PySem.F.type_list_append mt_append (pv 3) (pa_cons (pe_bm PySem.F.plainAttrs_list PySem.F.slot_list_pop PySem.F.type_list_pop mt_popAt (pv 2) (pa_cons (pe_call GD hr rfl mD kD bD .nil pass0 (pa_cons (pv 0) (pa_cons (pe_callB call_len_seq (by rfl) len_ PySem.boot_len (pa_cons (pv 2) pa_nil)) pa_nil))) pa_nil)) pa_nil)))))
      (pss_one (ps_ret (pv 3))))), ?_⟩

    refine ⟨_, rfl, l, xs, rfl, .inl (SqL.of hl), fun L nL => ?_⟩
    generalize eH1 : upd H L _ = H1
    have s1 : Same H H1 := by rw [← eH1]; exact sameNew nL
    have a1 : H1 L = some (HO.lst xs : HO) := by rw [← eH1]; exact upd_same
    clear eH1
    refine ⟨by decide, fun Fo nF => ?_⟩
    generalize eH2 : upd H1 Fo _ = H2
    have s2 : Same H1 H2 := by rw [← eH2]; exact sameNew nF
    have a2 : H2 Fo = some (HO.lst [] : HO) := by rw [← eH2]; exact upd_same
    clear eH2
    obtain ⟨Ld, Ls⟩ := D.ne (Same.refl _) nL
    obtain ⟨Fd, Fs⟩ := D.ne s1 nF
    have LF : L ≠ Fo := ne_of_none a1 nF
    refine ⟨_, _, rfl, while_by (fun σ G => ∃ us ws, σ = [some (.ref d), some (.ref l), some (.ref L), some (.ref Fo)] ∧ Dr d st G ∧ Kp d st H G ∧ G L = some (.lst us) ∧ G Fo = some (.lst ws) ∧ (ws ++ us).Perm xs) (fun _ G => match G L with | some (.lst us) => us.length | _ => 0)
      ⟨xs, [], rfl, D.same (s1.trans s2), Same.kp (s1.trans s2), s2 _ _ a1, a2, by simp⟩ ?_ ?_⟩
    · rintro σ G ⟨us, ws, rfl, DG, KG, hL, hF, pm⟩
      have sub : Mix us := mx.sub fun y hy => pm.mem_iff.mp (List.mem_append_right _ hy)
      have lu : us.length ≤ xs.length := by have := pm.length_eq; rw [List.length_append] at this; omega
      have lw : ws.length + us.length = xs.length := by have := pm.length_eq; rwa [List.length_append] at this
      refine ⟨_, rfl, by decide, fun e1 ne1 => ?_⟩
      generalize eG1 : upd G e1 _ = G1
      have s3 : Same G G1 := by rw [← eG1]; exact sameNew ne1
      have a3 : G1 e1 = some (HO.lst [] : HO) := by rw [← eG1]; exact upd_same
      clear eG1
      obtain ⟨ds, dp, shp, emp⟩ := mix_dp (K := K) (H := G1) sub
      refine ⟨.list ds, .list [], .lst (SqL.of (s3 _ _ hL)) dp, .lst (SqL.of a3) .nil, shp, rfl, ?_⟩
      rw [eqv_nil, emp]
      have hL3 := s3 _ _ hL
      have hF3 := s3 _ _ hF
      have D3 := DG.same s3
      refine ⟨_, rfl, ?_⟩
      cases em : us.isEmpty with
      | true =>
        have : us = [] := List.isEmpty_iff.mp em
        rw [this, List.append_nil] at pm
        exact iteF ⟨_, rfl, k Fo ws G1 (s1.free nF) hF3 pm D3 (KG.trans (Same.kp s3))⟩
      | false =>
        have pos : 0 < us.length := by cases us with | nil => cases em | cons u us => exact Nat.succ_pos _
        refine iteT ?_
        refine ⟨_, rfl, .inl ⟨rfl, _, SqL.of hF3⟩, _, rfl, .inl ⟨rfl, _, SqL.of hL3⟩, _, rfl, _, rfl, _, _, rfl, .inl (SqL.of hL3), d, st, _, rfl, D3, by omega, by omega, fun r G4 r0 r1 D4 K4 => ?_⟩
        have hL4 := K4 _ _ hL3 Ld Ls
        have hF4 := K4 _ _ hF3 Fd Fs
        have hk : r.toNat < us.length := by omega
        refine ⟨L, us, r, r.toNat, _, rfl, rfl, hL4, by omega, by omega, seqIndex_of r0 r1, List.getElem?_eq_getElem hk, ?_⟩
        have hF5 : (upd G4 L (.lst (us.eraseIdx r.toNat))) Fo = some (.lst ws) := by rw [upd_ne LF.symm]; exact hF4
        refine ⟨Fo, ws, _, rfl, rfl, hF5, by rw [sizeLine_eq]; omega, ⟨us.eraseIdx r.toNat, ws ++ [us[r.toNat]], rfl, (D4.upd Ld Ls).upd Fd Fs, fun b o e n1 n2 => ?_, by rw [upd_ne LF, upd_same], upd_same, ?_⟩, ?_⟩
        · rw [upd_ne (ne_of_none (s1 _ _ e) nF), upd_ne (ne_of_none e nL)]
          exact K4 _ _ (s3 _ _ (KG b o e n1 n2)) n1 n2
        · refine List.Perm.trans ?_ pm
          rw [List.append_assoc]
          exact (erase_perm us _ hk).append_left ws
        · show (match (upd (upd G4 L (.lst (us.eraseIdx r.toNat))) Fo (.lst (ws ++ [us[r.toNat]]))) L with | some (.lst us) => us.length | _ => 0) < (match G L with | some (.lst us) => us.length | _ => 0)
          rw [upd_ne LF, upd_same, hL]
          show (us.eraseIdx r.toNat).length < us.length
          rw [List.length_eraseIdx_of_lt hk]
          omega
    · intro σ G Q1 Q2 imp h
      obtain ⟨v, e, hl, h⟩ := h
      refine ⟨v, e, hl, fun l nl => ?_⟩
      obtain ⟨d1, d2, x1, x2, x3, x4, k', ek, q⟩ := h l nl
      exact ⟨d1, d2, x1, x2, x3, x4, k', ek, imp _ _ q⟩
end
end Bm
set_option maxRecDepth 100000
set_option maxHeartbeats 4000000
/-! some operations, led through the memory and the model -/
namespace Bm
open PySem L2 L3 Pm
abbrev sLed : Stmt := top 42
section
variable {C p dx hd d st : Addr} {H H' : Hp} {m m1 : Sp3}
theorem Dr.keeps {S : List Addr} (D : Dr d st H) (k : Keeps S H H') (hS : ∀ a ∈ S, ∃ kvs, H a = some (.dK kvs)) : Dr d st H' := by
  obtain ⟨ms, sp, mx, hd, hs, h⟩ := D
  refine ⟨ms, sp, mx, k _ _ hd fun z => ?_, k _ _ hs fun z => ?_, h⟩
  · obtain ⟨kvs, e⟩ := hS _ z
    rw [hd] at e; cases e
  · obtain ⟨kvs, e⟩ := hS _ z
    rw [hs] at e; cases e
theorem fpt_dK (A : MoA H hd m) : ∀ a ∈ fpt hd m, ∃ kvs, H a = some (.dK kvs) := fun a h => by
  rcases List.mem_cons.mp h with e | e
  · exact ⟨_, e ▸ A.held⟩
  · obtain ⟨x, hx, e⟩ := List.mem_map.mp e
    exact ⟨_, e ▸ A.inner x hx⟩
theorem PlAkp (A : PlA C H p dx hd m) (D : Dr d st H) (k : Kp d st H H') : PlA C H' p dx hd m := by
  have M := MoA.kp A.mo D k
  obtain ⟨ms, sp, mx, hd, hs, _⟩ := D
  have i : H' p = _ := k _ _ A.ins (fun z => by have := A.ins; rw [z, hd] at this; cases this) (fun z => by have := A.ins; rw [z, hs] at this; cases this)
  exact ⟨i, M.held, M.inner, M.nodN, M.nodA, M.ok⟩
theorem no_fpt {a : Addr} {o : HO} (A : MoA H hd m) (e : H a = some o) (n : ∀ kvs, o ≠ .dK kvs) : a ∉ fpt hd m := fun z => by
  obtain ⟨kvs, q⟩ := fpt_dK A a z
  rw [e] at q
  exact n kvs (Option.some.inj q)
theorem no_new {a : Addr} (A : MoA H hd m) (e : H a = none) : a ∉ fpt hd m := fun z => by
  obtain ⟨kvs, q⟩ := fpt_dK A a z
  rw [e] at q
  cases q
theorem dr_fpt (A : MoA H hd m) (D : Dr d st H) : d ∉ fpt hd m ∧ st ∉ fpt hd m := by
  obtain ⟨ms, sp, mx, hd, hs, _⟩ := D
  exact ⟨no_fpt A hd (fun _ z => by cases z), no_fpt A hs (fun _ z => by cases z)⟩
theorem len_pur {M : Mem} (h : pur m = M) : m.length = M.length := by
  rw [← h]
  unfold pur
  rw [List.length_map]
end
/-- the names of a memory have a property -/
def NaG (GS : Str → Prop) (M : Mem) : Prop := ∀ s, (lk M s).isSome = true → GS s
theorem NaG.put {GS : Str → Prop} {M : Mem} {s : Str} {d' : Pl} (h : NaG GS M) (hs : (lk M s).isSome = true) : NaG GS (pt M s d') := fun s' e => by
  rw [lk_pt] at e
  by_cases q : s' = s
  · exact q ▸ h s hs
  · rw [if_neg q] at e; exact h s' e
theorem NaG.app {GS : Str → Prop} {M : Mem} {s : Str} {d' : Pl} (h : NaG GS M) (hs : GS s) : NaG GS (M ++ [(s, d')]) := fun s' e => by
  rw [lk_app] at e
  cases q : lk M s' with
  | some x => exact h s' (by rw [q]; rfl)
  | none =>
    rw [q] at e
    by_cases z : s = s'
    · exact z ▸ hs
    · simp [z] at e
theorem ArgG.str {GS : Str → Prop} {s : Str} (h : ArgG GS (.str s)) : GS s := by
  rcases h with ⟨w, e, hw⟩ | ⟨i, e, _⟩
  · cases e; exact hw
  · cases e
theorem good_names {GS : Str → Prop} {M : Mem} {o : Op} (f : fault M o = none) (hN : NaG GS M) (ha : ∀ v ∈ o.args, ArgG GS v) : NaG GS (done M o) := by
  have can := can_of f
  cases can with
  | @add s hs hn => exact hN.app (ha (.str s) (by simp [Op.args, Op.title])).str
  | @drop s d h =>
    intro s' e
    have e : (lk (dr M s) s').isSome = true := e
    rw [lk_dr] at e
    by_cases q : s' = s
    · rw [if_pos q] at e; cases e
    · rw [if_neg q] at e; exact hN s' e
  | @places s d h => exact hN
  | @fork s c d h hc hn => exact hN.app (ha (.str c) (by simp [Op.args, Op.more])).str
  | @read s d i x h hi => exact hN
  | @write s d i x j h hi hc => exact hN.put (by rw [h]; rfl)
  | @map s d i j h hS n => exact hN.put (by rw [h]; rfl)
  | @unmap s d i j h hS => exact hN.put (by rw [h]; rfl)
  | @move s d i j k h hS hS2 l n => exact hN.put (by rw [h]; rfl)
/-- contents are contents, names are names -/
def GdM (M : Mem) : Prop := CtM M ∧ NaG (fun s => nameS s = true) M
theorem good_v {M : Mem} {o : Op} (f : fault M o = none) (hN : NaG (fun s => nameS s = true) M) : NaG (fun s => nameS s = true) (done M o) := by
  have can := can_of f
  cases can with
  | @add s hs hn => exact hN.app hs
  | @drop s d h =>
    intro s' e
    have e : (lk (dr M s) s').isSome = true := e
    rw [lk_dr] at e
    by_cases q : s' = s
    · rw [if_pos q] at e; cases e
    · rw [if_neg q] at e; exact hN s' e
  | @places s d h => exact hN
  | @fork s c d h hc hn => exact hN.app hc
  | @read s d i x h hi => exact hN
  | @write s d i x j h hi hc => exact hN.put (by rw [h]; rfl)
  | @map s d i j h hS n => exact hN.put (by rw [h]; rfl)
  | @unmap s d i j h hS => exact hN.put (by rw [h]; rfl)
  | @move s d i j k h hS hS2 l n => exact hN.put (by rw [h]; rfl)
def spLed (C : Addr) : Sp := fun vs H Q _ => ∃ (GS : Str → Prop) (d st tl p md dx hd : Addr) (ts : List Str) (m mm : Sp3) (M : Mem) (n : Nat), vs = [.ref d, .ref tl, .ref p, .ref md, .int n] ∧ Dr d st H ∧ tl ≠ d ∧ tl ≠ st ∧ H tl = some (.lst (ts.map V.str)) ∧ ts.length = 4 ∧ (∀ w ∈ ts, GS w) ∧ (∀ w, GS w → TitleS w) ∧
  PlA C H p dx hd m ∧ MoA H md mm ∧ pur m = M ∧ pur mm = M ∧ (∀ a ∈ fpt hd m, a ∉ fpt md mm) ∧ GdM M ∧ NaG GS M ∧ M.length + n ≤ 1000 ∧
  ∀ m' mm' M' H', PlA C H' p dx hd m' → MoA H' md mm' → pur m' = M' → pur mm' = M' → (∀ a ∈ fpt hd m', a ∉ fpt md mm') → Dr d st H' → GdM M' → NaG GS M' → M'.length ≤ M.length + n →
    (∀ b o, H b = some o → b ≠ d → b ≠ st → b ∉ fpt hd m → b ∉ fpt md mm → H' b = some o) → (∀ a, a ∈ fpt hd m' ∨ a ∈ fpt md mm' → a ∈ fpt hd m ∨ a ∈ fpt md mm ∨ H a = none) → Q .non H'
section
variable {P : Program} {w : World} {K : PySem.W.Frag} {mg : Str → Option Value} {base : Heap}
theorem scLed : FnScope ["_law_draw_here", "_law_titles_here", "_law_memory", "_law_model", "_law_many", "_law_step", "_law_row_here"] ["_law_draw_here", "_law_titles_here", "_law_memory", "_law_model", "_law_many"] (defScope sLed) := ⟨rfl, rfl, rfl, by decide +kernel, rfl, by decide +kernel, by decide +kernel⟩
theorem ok_led {f C : Addr} {c : Cs} {fd : FuncData} (F : Fun K "_law_led" "_law_led" sLed f fd) (range_ : mg "range" = none) (HRow : Has P w K mg base CX0 3 "_law_row" ["_law_draw_here", "_law_titles_here", "_law_model"] spRow)
    (HFa : Has P w K mg base CX0 3 "_law_fault" ["_law_model", "_law_row_here"] spFault) (HDo : Has P w K mg base CX0 1 "_law_done" ["_law_model", "_law_row_here"] spDone) (HAs : Has P w K mg base (L2.CX P w) 6 "_law_asked" ["_law_memory", "_law_row_here"] (spAsked C c)) :
    FnOk P w K mg base CX0 7 f fd ["_law_draw_here", "_law_titles_here", "_law_memory", "_law_model", "_law_many"] (spLed C) := by
  obtain ⟨fRow, fdRow, GRow, mRow, kRow, bRow⟩ := HRow
  obtain ⟨fFa, fdFa, GFa, mFa, kFa, bFa⟩ := HFa
  obtain ⟨fDo, fdDo, GDo, mDo, kDo, bDo⟩ := HDo
  obtain ⟨fAs, fdAs, GAs, mAs, kAs, bAs⟩ := HAs
  refine F.ok scLed (fun vs H Q E h => ?_) (fun cdv A outer s H vs Q E hr h => ?_)
  · obtain ⟨GS, d, st, tl, p, md, dx, hd, ts, m, mm, M, n, rfl, _⟩ := h
    rfl
  · obtain ⟨GS, d, st, tl, p, md, dx, hd, ts, m, mm, M, n, rfl, D, tld, tls, htl, hl, ht, gt, A0, B0, ea, eb, dj, gC, gN, gL, k⟩ := h
    have hr1 := hr.mono (show 1 ≤ 6 by decide)
    have hr3 := hr.mono (show 3 ≤ 6 by decide)
    have hr6 := hr.mono (show 6 ≤ 6 by decide)
    refine ⟨_, (pss_one (ps_for PassesOwn.never rfl (pi_range1 rfl range_ (pa_cons (pv 4) pa_nil)) (pg_name (i := 5) scLed.nd rfl (Or.inl rfl))
        (pss_cons (ps_set (i := 6) scLed.nd rfl (Or.inl rfl) (pe_call GRow hr3 rfl mRow kRow bRow .nil pass0 (pa_cons (pv 0) (pa_cons (pv 1) (pa_cons (pv 3) pa_nil)))))
          (pss_one (ps_if (pt_cmpR op_isN (pe_call GFa hr3 rfl mFa kFa bFa .nil pass0 (pa_cons (pv 3) (pa_cons (pv 6) pa_nil))) pe_non (nomark _))
            (pss_cons (ps_expr (pe_call GAs hr6 rfl mAs kAs bAs .nil passL (pa_cons (pv 2) (pa_cons (pv 6) pa_nil))))
              (pss_one (ps_expr (pe_call GDo hr1 rfl mDo kDo bDo .nil pass0 (pa_cons (pv 3) (pa_cons (pv 6) pa_nil))))))
            pss_nil))))), ?_⟩

    refine ⟨_, rfl, n, rfl, by omega, by omega, for_range (n := (n : Int).toNat) (fun i σ G => (∃ v5 v6, σ = [some (.ref d), some (.ref tl), some (.ref p), some (.ref md), some (.int n), v5, v6]) ∧ ∃ m' mm' M', PlA C G p dx hd m' ∧ MoA G md mm' ∧ pur m' = M' ∧ pur mm' = M' ∧ (∀ a ∈ fpt hd m', a ∉ fpt md mm') ∧ Dr d st G ∧ GdM M' ∧ NaG GS M' ∧ M'.length ≤ M.length + i ∧
      (∀ b o, H b = some o → b ≠ d → b ≠ st → b ∉ fpt hd m → b ∉ fpt md mm → G b = some o) ∧ (∀ a, a ∈ fpt hd m' ∨ a ∈ fpt md mm' → a ∈ fpt hd m ∨ a ∈ fpt md mm ∨ H a = none)) ⟨⟨_, _, rfl⟩, m, mm, M, A0, B0, ea, eb, dj, D, gC, gN, Nat.le_refl _, fun b o e _ _ _ _ => e, fun a h => h.elim .inl (fun h => .inr (.inl h))⟩ ?_ ?_⟩
    · rintro i σ G hi ⟨⟨v5, v6, rfl⟩, m1, mm1, M1, A, B, e1, e2, dj1, D1, gC1, gN1, gL1, fr, fa⟩
      have hi' : i < n := hi
      have htlG : G tl = some (.lst (ts.map V.str)) := fr _ _ htl tld tls (no_fpt A0.mo htl (fun _ z => by cases z)) (no_fpt B0 htl (fun _ z => by cases z))
      refine ⟨_, rfl, _, rfl, _, rfl, GS, d, st, tl, md, ts, mm1, rfl, D1, tld, tls, htlG, hl, ht, B, by rw [len_pur e2]; omega, fun e he => gN1 _ (by rw [← e2, lk_mem_pur B.nodN he]; rfl), fun rt o G2 nrt hrt ha D2 K2 => ?_⟩
      have A2 := PlAkp A D1 K2
      have B2 := MoA.kp B D1 K2
      have argT : ∀ v ∈ o.args, Arg v := fun v hv => (ha v hv).imp (fun ⟨w, e, h⟩ => ⟨w, e, gt w h⟩) id
      have args2 : ∀ G', Args G' o := fun G' v hv => by
        obtain ⟨⟨q, h1, h2⟩, h3⟩ := (argT v hv).part (H := G')
        exact ⟨ThV.any h1, h3⟩
      refine ⟨_, rfl, _, rfl, md, rt, mm1, o, rfl, B2, hrt, args2 _, fun r G3 s3 er => ?_⟩
      rw [e2] at er
      have A3 := A2.same s3
      have B3 := B2.same s3
      have D3 := D2.same s3
      have fr3 : ∀ b o', H b = some o' → b ≠ d → b ≠ st → b ∉ fpt hd m → b ∉ fpt md mm → G3 b = some o' := fun b o' e n1 n2 n3 n4 => s3 _ _ (K2 _ _ (fr b o' e n1 n2 n3 n4) n1 n2)
      have hrt3 := s3 _ _ hrt
      cases ef : fault M1 o with
      | some er0 =>
        rw [ef] at er
        obtain ⟨w0, y0⟩ := er0
        obtain ⟨t1, rfl, _⟩ : ∃ t1, r = .ref t1 ∧ G3 t1 = some (.tup [.str w0, y0]) := er
        exact ⟨rfl, _, rfl, iteF ⟨⟨_, _, rfl⟩, m1, mm1, M1, A3, B3, e1, e2, dj1, D3, gC1, gN1, by omega, fr3, fa⟩⟩
      | none =>
        rw [ef] at er
        obtain rfl : r = .non := er
        refine ⟨rfl, _, rfl, iteT ?_⟩
        refine ⟨_, rfl, _, rfl, p, rt, dx, hd, m1, o, rfl, A3, hrt3, args2 _, by rw [len_pur e1]; omega, fun w y e => (by rw [e1, ef] at e; cases e), fun _ r4 G4 m4 A4 e4 k4 f4 th4 => ?_⟩
        rw [e1] at e4
        have sk4 : ∀ b ∈ fpt hd m1, ∃ kvs, G3 b = some (.dK kvs) := fpt_dK A3.mo
        have B4 := B3.keep k4 (fun b hb z => dj1 b z hb)
        have D4 := D3.keeps k4 sk4
        have hrt4 := k4 _ _ hrt3 (no_fpt A3.mo hrt3 (fun kvs z => by cases z))
        refine ⟨_, rfl, _, rfl, md, rt, mm1, o, rfl, B4, hrt4, by rw [e2]; exact ef, by rw [len_pur e2]; omega, fun r6 G6 m6 B6 e6 k6 f6 th6 => ?_⟩
        rw [e2] at e6
        have sk6 : ∀ b ∈ fpt md mm1, ∃ kvs, G4 b = some (.dK kvs) := fpt_dK B4
        have off6 : ∀ b ∈ fpt hd m4, b ∉ fpt md mm1 := fun b hb z => by
          rcases f4 b hb with h | h
          · exact dj1 b h z
          · exact no_new B3 h z
        have A6 := A4.keep k6 (no_fpt B4 A4.ins (fun kvs z => by cases z)) off6
        have D6 := D4.keeps k6 sk6
        have dj6 : ∀ b ∈ fpt hd m4, b ∉ fpt md m6 := fun b hb z => by
          rcases f6 b z with h | h
          · exact off6 b hb h
          · exact no_new A4.mo h hb
        obtain ⟨gC6, _, gL6⟩ := good_done ef gC1.1 (fun s e => gt s (gN1 s e))
        have gN6 := good_names ef gN1 ha
        -- what is new stays new against the start
        have old3 : ∀ b, G3 b = none → H b = none ∨ b = d ∨ b = st ∨ b ∈ fpt hd m ∨ b ∈ fpt md mm := fun b e => by
          cases q : H b with
          | none => exact .inl rfl
          | some o' =>
            by_cases n1 : b = d
            · exact .inr (.inl n1)
            by_cases n2 : b = st
            · exact .inr (.inr (.inl n2))
            by_cases n3 : b ∈ fpt hd m
            · exact .inr (.inr (.inr (.inl n3)))
            by_cases n4 : b ∈ fpt md mm
            · exact .inr (.inr (.inr (.inr n4)))
            · rw [fr3 b o' q n1 n2 n3 n4] at e; cases e
        have out1 : ∀ b o', H b = some o' → b ∉ fpt hd m → b ∉ fpt md mm → b ∉ fpt hd m1 ∧ b ∉ fpt md mm1 := fun b o' e n3 n4 => by
          constructor <;> intro z
          · rcases fa b (.inl z) with h | h | h
            · exact n3 h
            · exact n4 h
            · rw [e] at h; cases h
          · rcases fa b (.inr z) with h | h | h
            · exact n3 h
            · exact n4 h
            · rw [e] at h; cases h
        have new3 : ∀ b, G3 b = none → b ∈ fpt hd m ∨ b ∈ fpt md mm ∨ H b = none := fun b e => by
          obtain ⟨ms, sp, mx, hd', hs', _⟩ := id D3
          rcases old3 b e with h | h | h | h | h
          · exact .inr (.inr h)
          · rw [h, hd'] at e; cases e
          · rw [h, hs'] at e; cases e
          · exact .inl h
          · exact .inr (.inl h)
        have new4 : ∀ b, G4 b = none → b ∈ fpt hd m ∨ b ∈ fpt md mm ∨ H b = none := fun b e => by
          cases q : G3 b with
          | none => exact new3 b q
          | some o' =>
            by_cases z : b ∈ fpt hd m1
            · exact fa b (.inl z)
            · rw [k4 _ _ q z] at e; cases e
        refine ⟨⟨_, _, rfl⟩, m4, m6, done M1 o, A6, B6, e4, e6, dj6, D6, ⟨gC6, good_v ef gC1.2⟩, gN6, by omega, fun b o' e n1 n2 n3 n4 => ?_, fun b hb => ?_⟩
        · have := out1 b o' e n3 n4
          exact k6 _ _ (k4 _ _ (fr3 b o' e n1 n2 n3 n4) this.1) this.2
        · rcases hb with h | h
          · rcases f4 b h with h | h
            · exact fa b (.inl h)
            · exact new3 b h
          · rcases f6 b h with h | h
            · exact fa b (.inr h)
            · exact new4 b h
    · rintro σ G ⟨⟨v5, v6, rfl⟩, m1, mm1, M1, A, B, e1, e2, dj1, D1, gC1, gN1, gL1, fr, fa⟩
      exact k m1 mm1 M1 G A B e1 e2 dj1 D1 gC1 gN1 (by simpa using gL1) fr fa
end
end Bm
set_option maxRecDepth 100000
set_option maxHeartbeats 4000000
/-! when two memories are alike -/
namespace Pm
open PySem L2
section
variable {α β γ : Type} [DecidableEq α] {E : β → γ → Bool} {l : List (α × β)} {l' : List (α × γ)}
def eqL (E : β → γ → Bool) (l : List (α × β)) (l' : List (α × γ)) : Bool := l.length == l'.length && l.all fun p => match lk l' p.1 with
  | some x => E p.2 x
  | none => false
theorem some_key {δ : Type} {k : List (α × δ)} {a : α} : (lk k a).isSome = true ↔ a ∈ k.map (·.1) := by
  have := lk_none k a
  cases e : lk k a with
  | none => rw [e] at this; simpa using this
  | some x =>
    rw [e] at this
    simp only [Option.isSome_some, true_iff]
    exact Decidable.byContradiction fun z => by simpa using this.mpr z
theorem eqL_iff (n : (l.map (·.1)).Nodup) (n' : (l'.map (·.1)).Nodup) : eqL E l l' = true ↔ (∀ a, (lk l a).isSome = (lk l' a).isSome) ∧ ∀ a x y, lk l a = some x → lk l' a = some y → E x y = true := by
  unfold eqL
  rw [Bool.and_eq_true, beq_iff_eq, List.all_eq_true]
  constructor
  · rintro ⟨hl, h⟩
    have sub : ∀ a ∈ l.map (·.1), a ∈ l'.map (·.1) := fun a ha => by
      obtain ⟨p, hp, rfl⟩ := List.mem_map.mp ha
      have := h p hp
      cases e : lk l' p.1 with
      | none => rw [e] at this; cases this
      | some y => exact some_key.mp (by rw [e]; rfl)
    refine ⟨fun a => ?_, fun a x y e1 e2 => ?_⟩
    · rw [Bool.eq_iff_iff, some_key, some_key]
      refine ⟨sub a, fun ha => Decidable.byContradiction fun z => ?_⟩
      have := Bm.nd_sub (a :: l.map (·.1)) (l'.map (·.1)) (List.nodup_cons.mpr ⟨z, n⟩) fun x hx => by
        rcases List.mem_cons.mp hx with rfl | hx
        · exact ha
        · exact sub x hx
      rw [List.length_cons, List.length_map, List.length_map] at this
      omega
    · have := h _ (lk_mem e1)
      rw [e2] at this
      exact this
  · rintro ⟨h1, h2⟩
    refine ⟨?_, fun p hp => ?_⟩
    · have : (l.map (·.1)).Perm (l'.map (·.1)) := (List.perm_ext_iff_of_nodup n n').mpr fun a => by
        rw [← some_key, ← some_key, h1 a]
      have := this.length_eq
      rwa [List.length_map, List.length_map] at this
    · have e := lk_of_mem n hp
      have := h1 p.1
      rw [e] at this
      obtain ⟨y, hy⟩ := Option.isSome_iff_exists.mp this.symm
      rw [hy]
      exact h2 _ _ _ e hy
end
theorem eqD_def (d d' : Pl) : eqD d d' = eqL (fun x y : Int => x == y) d d' := by
  unfold eqD eqL
  congr 1
  congr 1
  funext p
  cases lk d' p.1 <;> rfl
theorem eqM_def (M M' : Bm.Mem) : eqM M M' = eqL eqD M M' := by
  unfold eqM eqL
  congr 1
  congr 1
  funext p
  cases lk M' p.1 <;> rfl
theorem eqD_iff {d d' : Pl} (n : (d.map (·.1)).Nodup) (n' : (d'.map (·.1)).Nodup) : eqD d d' = true ↔ ∀ i, lk d i = lk d' i := by
  rw [eqD_def, eqL_iff (E := fun x y : Int => x == y) n n']
  refine ⟨fun ⟨h1, h2⟩ i => ?_, fun h => ⟨fun i => by rw [h], fun i x y e1 e2 => ?_⟩⟩
  · have := h1 i
    cases e : lk d i with
    | none =>
      cases e' : lk d' i with
      | none => rfl
      | some y => rw [e, e'] at this; cases this
    | some x =>
      cases e' : lk d' i with
      | none => rw [e, e'] at this; cases this
      | some y => have := h2 i x y e e'; simp only [beq_iff_eq] at this; rw [this]
  · rw [h, e2] at e1
    cases e1
    exact beq_self_eq_true _
/-- the same lookups -/
def SameM (M M' : Bm.Mem) : Prop := (∀ s, (lk M s).isSome = (lk M' s).isSome) ∧ ∀ s d d', lk M s = some d → lk M' s = some d' → ∀ i, lk d i = lk d' i
theorem SameM.refl (M : Bm.Mem) : SameM M M := ⟨fun _ => rfl, fun s d d' e1 e2 i => by rw [e1] at e2; cases e2; rfl⟩
theorem SameM.symm {M M' : Bm.Mem} (h : SameM M M') : SameM M' M := ⟨fun s => (h.1 s).symm, fun s d d' e1 e2 i => (h.2 s d' d e2 e1 i).symm⟩
theorem SameM.trans {M M' M2 : Bm.Mem} (h : SameM M M') (h' : SameM M' M2) : SameM M M2 := ⟨fun s => (h.1 s).trans (h'.1 s), fun s d d' e1 e2 i => by
  have := h.1 s
  rw [e1] at this
  obtain ⟨d1, hd1⟩ := Option.isSome_iff_exists.mp this.symm
  exact (h.2 s d d1 e1 hd1 i).trans (h'.2 s d1 d' hd1 e2 i)⟩
/-- a memory of which every list of keys has no double -/
def Nd (M : Bm.Mem) : Prop := (M.map (·.1)).Nodup ∧ ∀ s d, lk M s = some d → (d.map (·.1)).Nodup
theorem eqM_iff {M M' : Bm.Mem} (n : Nd M) (n' : Nd M') : eqM M M' = true ↔ SameM M M' := by
  rw [eqM_def, eqL_iff (E := eqD) n.1 n'.1]
  exact (and_congr_right fun _ => ⟨fun h s d d' e1 e2 => (eqD_iff (n.2 s d e1) (n'.2 s d' e2)).mp (h s d d' e1 e2), fun h s d d' e1 e2 => (eqD_iff (n.2 s d e1) (n'.2 s d' e2)).mpr (h s d d' e1 e2)⟩)
theorem MoA.nd {H : Hp} {hd : Addr} {m : Sp3} (A : MoA H hd m) : Nd (pur m) := by
  refine ⟨by unfold pur; rw [List.map_map]; exact A.nodN, fun s d e => ?_⟩
  rw [pur_lk] at e
  obtain ⟨y, h1, h2⟩ := Option.map_eq_some_iff.mp e
  have := (A.ok _ (lk_mem h1)).1
  rw [← h2]
  exact this
end Pm
set_option maxRecDepth 100000
set_option maxHeartbeats 4000000
/-! a memory built anew from a model -/
namespace Bm
open PySem L2 L3 Pm
abbrev sRebuilt : Stmt := top 43
section
variable {C p d st : Addr} {H G G' : Hp} {M : Mem} {R : VK} {E : XK} {s : Str} {CS CBN CT CB CU CL CV : Addr} {dd : Pl} {i j : Int}
/-- a memory that is built; all else stays -/
def Bld (H : Hp) (C d st p : Addr) (G : Hp) (M : Mem) : Prop := ∃ dx hd m, PlA C G p dx hd m ∧ pur m = M ∧ Dr d st G ∧ Kp d st H G ∧ (∀ a ∈ fpt hd m, H a = none) ∧ H p = none
/-- what is no dict stays -/
def Nod (G G' : Hp) : Prop := ∀ b o, G b = some o → (∀ kvs, o ≠ .dK kvs) → G' b = some o
theorem Bld.ins1 (W : Bld H C d st p G M) : ∃ dx hd, G p = some (.ins C dx [("held", .ref hd)]) := by
  obtain ⟨dx, hd, m, A, _⟩ := W
  exact ⟨dx, hd, A.ins⟩
theorem Bld.kp (W : Bld H C d st p G M) (D' : Dr d st G') (k : Kp d st G G') : Bld H C d st p G' M := by
  obtain ⟨dx, hd, m, A, e1, D, K, f, n⟩ := W
  exact ⟨dx, hd, m, PlAkp A D k, e1, D', K.trans k, f, n⟩
theorem Bld.same (W : Bld H C d st p G M) (s : Same G G') : Bld H C d st p G' M := by
  obtain ⟨dx, hd, m, A, e1, D, K, f, n⟩ := W
  exact ⟨dx, hd, m, A.same s, e1, D.same s, K.trans (Same.kp s), f, n⟩
theorem Bld.dr (W : Bld H C d st p G M) : Dr d st G ∧ Kp d st H G := by
  obtain ⟨dx, hd, m, A, e1, D, K, f, n⟩ := W
  exact ⟨D, K⟩
theorem lk_of_pur {m : Sp3} (h : pur m = M) {x : Pl} (e : lk M s = some x) : ∃ a, lk m s = some (a, x) := by
  rw [← h, pur_lk] at e
  obtain ⟨y, h1, h2⟩ := Option.map_eq_some_iff.mp e
  exact ⟨y.1, by rw [h1, ← h2]⟩
theorem Bld.step {dx hd a : Addr} {m m' : Sp3} (A : PlA C G p dx hd m) (D : Dr d st G) (K : Kp d st H G) (f : ∀ b ∈ fpt hd m, H b = none) (n : H p = none) (ha : a ∈ fpt hd m) (k : Keeps [a] G G') (A' : PlA C G' p dx hd m') (f' : ∀ b ∈ fpt hd m', b ∈ fpt hd m ∨ G b = none) : Bld H C d st p G' (pur m') ∧ Nod G G' := by
  obtain ⟨kvs, ea⟩ := fpt_dK A.mo a ha
  have sk : ∀ b ∈ [a], ∃ kvs, G b = some (.dK kvs) := fun b h => by rw [List.mem_singleton] at h; exact ⟨_, h ▸ ea⟩
  refine ⟨⟨dx, hd, m', A', rfl, D.keeps k sk, fun b o e n1 n2 => k _ _ (K b o e n1 n2) fun z => ?_, fun b hb => ?_, n⟩, fun b o e n => k _ _ e fun z => ?_⟩
  · rw [List.mem_singleton] at z
    rw [z, f a ha] at e; cases e
  · rcases f' b hb with h | h
    · exact f b h
    · cases q : H b with
      | none => rfl
      | some o =>
        obtain ⟨ms, sp, mx, hd', hs', _⟩ := id D
        by_cases n1 : b = d
        · rw [n1, hd'] at h; cases h
        by_cases n2 : b = st
        · rw [n2, hs'] at h; cases h
        rw [K b o q n1 n2] at h; cases h
  · rw [List.mem_singleton] at z
    rw [z, ea] at e
    exact n _ (Option.some.inj e).symm
theorem addB (W : Bld H C d st p G M) (hs : nameS s = true) (sh : Short (.str s)) (h0 : lk M s = none) (hl : M.length < 100000) (K : ∀ G', Bld H C d st p G' (M ++ [(s, [])]) → Nod G G' → R .non G') : spAdd C CBN CT [.ref p, .str s] G R E := by
  obtain ⟨dx, hd, m, A, e1, D, Kp', f, n⟩ := W
  have z : lk m s = none := by
    rw [← e1, pur_lk] at h0
    simpa using h0
  refine ⟨p, dx, hd, m, _, rfl, A, .str s, sh, ?_, fun e => ?_, fun s' e _ e3 => ?_, fun s' e _ e3 a G' na kp P' => ?_⟩
  · rw [len_pur e1]; exact hl
  · exact absurd (show nameS s = false from e) (by rw [hs]; simp)
  · cases e; rw [z] at e3; cases e3
  · cases e
    have := Bld.step A D Kp' f n List.mem_cons_self kp P' (fun b hb => (fpt_add b hb).imp id fun e => by rw [e]; exact na)
    refine K G' ?_ this.2
    have t := this.1
    rw [← e1]
    unfold pur at t ⊢
    rwa [List.map_append] at t
theorem mapB (W : Bld H C d st p G M) (h1 : lk M s = some dd) (hS : isS (.int i) (.int j) = true) (h0 : used dd i j.toNat = none) (K : ∀ G', Bld H C d st p G' (pt M s (mapP dd i j.toNat)) → Nod G G' → R .non G') : spMap C CS CB CU [.ref p, .str s, .int i, .int j] G R E := by
  obtain ⟨dx, hd, m, A, e1, D, Kp', f, n⟩ := W
  obtain ⟨b0, y⟩ := lk_of_pur e1 h1
  refine ⟨p, dx, hd, m, _, _, _, rfl, A, .str s, .int i, .int j, fun e => ?_, fun s' e e3 e4 => ?_, fun s' a d' i' j' x e e3 e4 e5 _ e6 => ?_, fun s' a d' i' j' e e3 e4 e5 _ e6 G' kp P' => ?_⟩
  · have := e s rfl; rw [y] at this; cases this
  · rw [hS] at e4; cases e4
  · cases e; cases e4; cases e5; rw [y] at e3; cases e3; rw [h0] at e6; cases e6
  · cases e; cases e4; cases e5; rw [y] at e3; cases e3
    have := Bld.step A D Kp' f n (fpt_mem y) kp P' (fun b hb => .inl (by rwa [fpt_pt A y] at hb))
    refine K G' ?_ this.2
    have t := this.1
    rwa [pur_pt, e1] at t
theorem writeB (W : Bld H C d st p G M) {x : Int} (h1 : lk M s = some dd) (h2 : lk dd i = some x) (hc : isC (.int j) = true) (K : ∀ G', Bld H C d st p G' (pt M s (pt dd i j)) → Nod G G' → R .non G') : spWrite C CS CL CV [.ref p, .str s, .int i, .int j] G R E := by
  obtain ⟨dx, hd, m, A, e1, D, Kp', f, n⟩ := W
  obtain ⟨b0, y⟩ := lk_of_pur e1 h1
  refine ⟨p, dx, hd, m, _, _, _, rfl, A, .str s, .int i, .int j, fun e => ?_, fun s' a d' e e3 e4 => ?_, fun s' a d' i' x e e3 e4 e5 e6 => ?_, fun s' a d' i' x j' e e3 e4 e5 e6 _ G' kp P' => ?_⟩
  · have := e s rfl; rw [y] at this; cases this
  · cases e; rw [y] at e3; cases e3; have := e4 i rfl; rw [h2] at this; cases this
  · rw [hc] at e6; cases e6
  · cases e; cases e4; cases e6; rw [y] at e3; cases e3
    have := Bld.step A D Kp' f n (fpt_mem y) kp P' (fun b hb => .inl (by rwa [fpt_pt A y] at hb))
    refine K G' ?_ this.2
    have t := this.1
    rwa [pur_pt, e1] at t
end
theorem back {α : Type} {f : α → V} : ∀ {ys : List V}, (∀ y ∈ ys, ∃ t, y = f t) → ∃ ts : List α, ys = ts.map f
  | [], _ => ⟨[], rfl⟩
  | y :: ys, h => by
    obtain ⟨t, rfl⟩ := h y List.mem_cons_self
    obtain ⟨ts, rfl⟩ := back fun z hz => h z (List.mem_cons_of_mem _ hz)
    exact ⟨t :: ts, rfl⟩
theorem perm_back {α : Type} {f : α → V} (inj : ∀ a b, f a = f b → a = b) {ys : List V} {zs : List α} (h : ys.Perm (zs.map f)) (n : zs.Nodup) : ∃ ts : List α, ys = ts.map f ∧ ts.Nodup ∧ (∀ t, t ∈ ts ↔ t ∈ zs) ∧ ts.length = zs.length := by
  obtain ⟨ts, rfl⟩ := back (f := f) (ys := ys) fun y hy => by
    obtain ⟨t, _, e⟩ := List.mem_map.mp (h.mem_iff.mp hy)
    exact ⟨t, e.symm⟩
  have nz : (zs.map f).Nodup := List.pairwise_map.mpr (n.imp fun h e => h (inj _ _ e))
  have nt := (h.nodup_iff).mpr nz
  have m1 : ∀ (l : List α) t, t ∈ l ↔ f t ∈ l.map f := fun l t => ⟨fun h => List.mem_map.mpr ⟨t, h, rfl⟩, fun h => by
    obtain ⟨u, hu, e⟩ := List.mem_map.mp h
    exact inj _ _ e ▸ hu⟩
  refine ⟨ts, rfl, (List.pairwise_map.mp nt).imp fun h e => h (by rw [e]), fun t => ?_, ?_⟩
  · rw [m1 ts, m1 zs]
    exact h.mem_iff
  · have := h.length_eq
    rwa [List.length_map, List.length_map] at this
theorem take_mem {α : Type} {ts : List α} {r : Nat} {s t : α} (h : ts[r]? = some s) : t ∈ ts.take (r + 1) ↔ t ∈ ts.take r ∨ t = s := by
  rw [List.take_succ, h]
  simp
theorem take_not {α : Type} {ts : List α} (n : ts.Nodup) {r : Nat} {s : α} (h : ts[r]? = some s) : s ∉ ts.take r := fun z => by
  obtain ⟨hlt, hv⟩ := List.getElem?_eq_some_iff.mp h
  have e2 : ts.drop r = s :: ts.drop (r + 1) := by rw [List.drop_eq_getElem_cons hlt, hv]
  rw [← List.take_append_drop r ts, e2, List.nodup_append] at n
  exact n.2.2 s z s (by simp) rfl
/-- the methods that the law calls -/
def spRebuilt (C : Addr) : Sp := fun vs H Q _ => ∃ (d st md : Addr) (mm : Sp3), vs = [.ref d, .ref md] ∧ Dr d st H ∧ MoA H md mm ∧ (∀ s, (lk (pur mm) s).isSome = true → nameS s = true) ∧ CtM (pur mm) ∧ mm.length ≤ 5000 ∧
  ∀ (p : Addr) (M : Mem) (H' : Hp), Bld H C d st p H' M → SameM M (pur mm) → Q (.ref p) H'
section
variable {P : Program} {w : World} {K : PySem.W.Frag} {mg : Str → Option Value} {base : Heap}
theorem scRebuilt : FnScope ["_law_draw_here", "_law_model", "_law_memory", "_law_title", "_law_spot"] ["_law_draw_here", "_law_model"] (defScope sRebuilt) := ⟨rfl, rfl, rfl, by decide +kernel, rfl, by decide +kernel, by decide +kernel⟩
theorem ok_rebuilt {f C : Addr} {c : Cs} {fd : FuncData} (F : Fun K "_law_rebuilt" "_law_rebuilt" sRebuilt f fd) (sorted_ : mg "sorted" = none) (R : PlK P w K mg base C c) (mC : mg "Plain" = some (.ref C)) (HI : ∃ fI fdI, Mk K C fI ∧ FnOk P w K mg base CX0 1 fI fdI ["self"] (spPI C) ∧ Binds K fdI ["self"] [])
    (HMx : Has P w K mg base CX0 2 "_law_mixed" ["_law_draw_here", "_law_some"] spMixed) : FnOk P w K mg base CX0 6 f fd ["_law_draw_here", "_law_model"] (spRebuilt C) := by
  have TP := R.tp
  obtain ⟨fI, fdI, MI, GI, bI⟩ := HI
  obtain ⟨fMx, fdMx, GMx, mMx, kMx, bMx⟩ := HMx
  obtain ⟨fadd, fdadd, mmadd, Gadd, badd⟩ := R.add_
  obtain ⟨fmap, fdmap, mmmap, Gmap, bmap⟩ := R.map_
  obtain ⟨fwrite, fdwrite, mmwrite, Gwrite, bwrite⟩ := R.write_
  refine F.ok scRebuilt (fun vs H Q E h => ?_) (fun cdv A outer s H vs Q E hr h => ?_)
  · obtain ⟨d, st, md, mm, rfl, _⟩ := h
    rfl
  · obtain ⟨d, st, md, mm, rfl, D, B, nv, gC, lm, k⟩ := h
    have hu := hu_of hr
    have hr2 := hr.mono (show 2 ≤ 5 by decide)
    have hr4 := hr.mono (show 4 ≤ 5 by decide)
    have hr5 := hr.mono (show 5 ≤ 5 by decide)
    refine ⟨_, (pss_cons (ps_set (i := 2) scRebuilt.nd rfl (Or.inl rfl) (pe_make0 MI GI hr2 rfl mC bI .nil pass0))
      (pss_cons (ps_for PassesOwn.never rfl (pi_list (pe_call GMx hr2 rfl mMx kMx bMx .nil pass0 (pa_cons (pv 0) (pa_cons (pe_callB (r := rSrtD P w) (call_srtD rfl) (by rfl) sorted_ (by decide +kernel) (pa_cons (pv 1) pa_nil)) pa_nil)))) (pg_name (i := 3) scRebuilt.nd rfl (Or.inl rfl))
        (pss_cons (ps_expr (pe_meth (pv 2) TP.cl mmadd Gadd hr4 badd .nil passL (pa_cons (pv 3) pa_nil)))
          (pss_one (ps_for PassesOwn.never rfl (pi_list (pe_call GMx hr2 rfl mMx kMx bMx .nil pass0 (pa_cons (pv 0) (pa_cons (pe_callB (r := rSrtD P w) (call_srtD rfl) (by rfl) sorted_ (by decide +kernel) (pa_cons (pe_dget hu (pv 1) (pv 3) (fun _ _ => rfl)) pa_nil)) pa_nil)))) (pg_name (i := 4) scRebuilt.nd rfl (Or.inl rfl))
            (pss_cons (ps_expr (pe_meth (pv 2) TP.cl mmmap Gmap hr5 bmap .nil passL (pa_cons (pv 3) (pa_cons (pv 4) (pa_cons pe_int pa_nil)))))
              (pss_one (ps_expr (pe_meth (pv 2) TP.cl mmwrite Gwrite hr5 bwrite .nil passL (pa_cons (pv 3) (pa_cons (pv 4) (pa_cons (pe_dget hu (pe_dget hu (pv 1) (pv 3) (fun _ _ => rfl)) (pv 4) (fun _ _ => rfl)) pa_nil)))))))))))
      (pss_one (ps_ret (pv 2))))), ?_⟩

    refine fun p dx np ndp nep => mk_plain np ndp nep fun hd H1 s1 nh P1 => ⟨rfl, ?_⟩
    have W1 : Bld H C d st p H1 [] := ⟨dx, hd, [], P1, rfl, D.same s1, Same.kp s1, fun a h => (by
      have e : a = hd := by simpa [fpt] using h
      rw [e]; exact nh), np⟩
    have B1 := B.same s1
    -- the names, mixed
    refine ⟨_, rfl, _, rfl, tns (srt_strs (ks := mm.map (·.1)) (.inl B1.held) (by unfold hK kv; rw [List.map_map, List.map_map]; rfl) fun zs l0 hp hs n0 => ?_)⟩
    generalize eH2 : upd H1 l0 _ = H2
    have s2 : Same H1 H2 := by rw [← eH2]; exact sameNew n0
    have a2 : H2 l0 = some (HO.lst (zs.map V.str) : HO) := by rw [← eH2]; exact upd_same
    clear eH2
    have W2 := W1.same s2
    have D2 := W2.dr.1
    obtain ⟨l0d, l0s⟩ := (D.same s1).ne (Same.refl _) n0
    have nzs : zs.Nodup := (hp.nodup_iff).mpr B.nodN
    have tz : ∀ z ∈ zs, nameS z = true := fun z hz => nv z (some_key.mpr (by
      have := hp.mem_iff.mp hz
      unfold pur
      rw [List.map_map]
      exact this))
    have lz : zs.length = mm.length := by have := hp.length_eq; rwa [List.length_map] at this
    refine ⟨d, st, l0, _, rfl, D2, a2, l0d, l0s, .inr fun x hx => (by
      obtain ⟨t, ht, e⟩ := List.mem_map.mp hx
      exact ⟨t, e.symm, nameS_title (tz t ht)⟩), by rw [List.length_map, lz]; omega, fun L ys H3 nL aL pm D3 K3 => ?_⟩
    obtain ⟨ts, rfl, nts, mts, lts⟩ := perm_back (f := V.str) (fun a b e => by cases e; rfl) pm nzs
    have W3 := W2.kp D3 K3
    obtain ⟨Ld, Ls⟩ : L ≠ d ∧ L ≠ st := D2.ne (Same.refl _) nL
    have inM : ∀ t, t ∈ ts ↔ (lk (pur mm) t).isSome = true := fun t => by
      rw [mts, some_key]
      unfold pur
      rw [List.map_map]
      exact hp.mem_iff
    refine ⟨L, rfl, ⟨_, SqL.of aL⟩, for_list (K := K) (a := L) (xs := ts.map V.str) (fun r σ G => (∃ v3 v4, σ = [some (.ref d), some (.ref md), some (.ref p), v3, v4]) ∧ ∃ M', Bld H C d st p G M' ∧ G L = some (.lst (ts.map V.str)) ∧ (∀ s, (lk M' s).isSome = true ↔ s ∈ ts.take r) ∧ ∀ s d' d0, lk M' s = some d' → lk (pur mm) s = some d0 → ∀ i, lk d' i = lk d0 i)
      ⟨⟨_, _, rfl⟩, [], W3, aL, fun s => (by simp [lk]), fun s d' d0 e => (by cases e)⟩ (fun i σ G _ h => SqL.of h.2.choose_spec.2.1) ?_ ?_⟩
    · rintro r x σ G hx ⟨⟨v3, v4, rfl⟩, M', W, hL, dom, val⟩
      obtain ⟨s, hs', rfl⟩ : ∃ s, ts[r]? = some s ∧ V.str s = x := by
        rw [List.getElem?_map] at hx
        exact Option.map_eq_some_iff.mp hx
      have sm := List.mem_of_getElem? hs'
      obtain ⟨d0, hd0⟩ := Option.isSome_iff_exists.mp ((inM s).mp sm)
      obtain ⟨a0, y0⟩ := lk_of_pur rfl hd0
      have ns := nv s ((inM s).mp sm)
      have l0' : lk M' s = none := by
        cases q : lk M' s with
        | none => rfl
        | some d' => exact absurd ((dom s).mp (by rw [q]; rfl)) (take_not nts hs')
      have lenM : M'.length ≤ mm.length := by
        obtain ⟨dx', hd', m', A', e', _⟩ := id W
        have nd : (M'.map (·.1)).Nodup := by
          rw [← e']; unfold pur; rw [List.map_map]; exact A'.nodN
        have := nd_sub _ ts nd fun t ht => List.mem_of_mem_take ((dom t).mp (some_key.mpr ht))
        rw [List.length_map] at this
        omega
      have tS := nameS_title ns
      -- the space
      obtain ⟨dx1, hd1, i1⟩ := W.ins1
      refine ⟨_, rfl, p, dx1, _, rfl, i1, no_held (by decide +kernel), _, rfl, tns (addB W ns (fun x e => (by cases e; exact ⟨by have := tS.1; omega, tS.2⟩)) l0' (by omega) fun G1 Wa nod1 => ?_)⟩
      have hLa := nod1 _ _ hL (fun _ z => by cases z)
      obtain ⟨Da, Ka⟩ := Wa.dr
      have Ba := MoA.kp B D Ka
      -- its places, mixed
      have hK := DGet.k (k := Sum.inr s) Ba.held
      rw [hK_val, y0] at hK
      refine ⟨_, rfl, _, rfl, _, rfl, md, .ref a0, rfl, hK, tns (srt_ints (ks := d0.map (·.1)) (.inl (Ba.at y0).1) (by unfold dI kv; rw [List.map_map, List.map_map]; rfl) fun ws l1 hp1 hs1 n1 => ?_)⟩
      generalize eG2 : upd G1 l1 _ = G2
      have s5 : Same G1 G2 := by rw [← eG2]; exact sameNew n1
      have a5 : G2 l1 = some (HO.lst (ws.map V.int) : HO) := by rw [← eG2]; exact upd_same
      clear eG2
      have Wb := Wa.same s5
      have Db := Wb.dr.1
      obtain ⟨l1d, l1s⟩ := Da.ne (Same.refl _) n1
      have O0 := (B.at y0).2
      have nws : ws.Nodup := (hp1.nodup_iff).mpr O0.1
      have lws : ws.length ≤ 10000 := by have := hp1.length_eq; rw [List.length_map] at this; have := O0.few; omega
      refine tns ⟨d, st, l1, _, rfl, Db, a5, l1d, l1s, .inl fun x hx => (by
        obtain ⟨t, ht, e⟩ := List.mem_map.mp hx
        exact ⟨t, e.symm⟩), by rw [List.length_map]; omega, fun L2 ys2 G3 nL2 aL2 pm2 D5 K5 => ?_⟩
      obtain ⟨is, rfl, nis, mis, lis⟩ := perm_back (f := V.int) (fun a b e => by cases e; rfl) pm2 nws
      have Wc := Wb.kp D5 K5
      have hLc : G3 L = some (.lst (ts.map V.str)) := K5 _ _ (s5 _ _ hLa) Ld Ls
      have inD : ∀ i, i ∈ is ↔ (lk d0 i).isSome = true := fun i => by
        rw [mis, some_key]
        exact hp1.mem_iff
      have lM1 : lk (M' ++ [(s, ([] : Pl))]) s = some [] := by rw [lk_app, l0']; simp
      have oM1 : ∀ s', s' ≠ s → lk (M' ++ [(s, ([] : Pl))]) s' = lk M' s' := fun s' ne => by
        rw [lk_app]
        cases q : lk M' s' with
        | some x => rfl
        | none => simp [Ne.symm ne]
      refine ⟨L2, rfl, ⟨_, SqL.of aL2⟩, for_list (K := K) (a := L2) (xs := is.map V.int) (fun j σ G => (∃ v4, σ = [some (.ref d), some (.ref md), some (.ref p), some (.str s), v4]) ∧ ∃ M2 d2, Bld H C d st p G M2 ∧ G L = some (.lst (ts.map V.str)) ∧ G L2 = some (.lst (is.map V.int)) ∧ lk M2 s = some d2 ∧ (∀ i, lk d2 i = if i ∈ is.take j then lk d0 i else none) ∧ ∀ s', s' ≠ s → lk M2 s' = lk M' s')
        ⟨⟨_, rfl⟩, _, [], Wc, hLc, aL2, lM1, fun i => (by simp [lk]), oM1⟩ (fun i σ G h' h => SqL.of (h.2.choose_spec.choose_spec.2.2.1)) ?_ ?_⟩
      · rintro j x σ G5 hx2 ⟨⟨v4', rfl⟩, M2, d2, W5, hL5, hL25, e2, look, oth⟩
        obtain ⟨i, hi, rfl⟩ : ∃ i, is[j]? = some i ∧ V.int i = x := by
          rw [List.getElem?_map] at hx2
          exact Option.map_eq_some_iff.mp hx2
        have im := (inD i).mp (List.mem_of_getElem? hi)
        obtain ⟨x0, hx0⟩ := Option.isSome_iff_exists.mp im
        have ir := O0.2 i (some_key.mp im)
        obtain ⟨c0, c1⟩ := gC s d0 hd0 i x0 hx0
        have ni := take_not nis hi
        have e0 : lk d2 i = none := by rw [look, if_neg ni]
        have hS : isS (.int i) (.int 1) = true := isS_iff.mpr (by omega)
        have hu0 : used d2 i (1 : Int).toNat = none := (used_none d2 i _).mpr fun q hq => by
          have : q = 0 := by have : q < 1 := hq; omega
          subst this
          rw [show i + ((0 : Nat) : Int) = i by omega, e0]
        -- map
        obtain ⟨dx5, hd5, i5⟩ := W5.ins1
        refine ⟨_, rfl, p, dx5, _, rfl, i5, no_held (by decide +kernel), _, rfl, _, rfl, tcs (tns (mapB W5 e2 hS hu0 fun G6 W6 nod6 => ?_))⟩
        have e6 : lk (pt M2 s (mapP d2 i (1 : Int).toNat)) s = some (mapP d2 i 1) := by rw [lk_pt, if_pos rfl]; rfl
        have e7 : lk (mapP d2 i 1) i = some 0 := by rw [lk_mapP, if_pos (by omega)]
        have hc : isC (.int x0) = true := by simp only [isC, Bool.and_eq_true, decide_eq_true_eq]; omega
        have B6 := MoA.kp B D W6.dr.2
        have hK6 := DGet.k (k := Sum.inr s) B6.held
        rw [hK_val, y0] at hK6
        have hI6 := DGet.k (k := Sum.inl i) (B6.at y0).1
        rw [dI_val, hx0] at hI6
        -- write
        obtain ⟨dx6, hd6, i6⟩ := W6.ins1
        refine ⟨_, rfl, p, dx6, _, rfl, i6, no_held (by decide +kernel), _, rfl, _, rfl, _, rfl, _, rfl, md, .ref a0, rfl, hK6, _, rfl, a0, .int x0, rfl, hI6, tns (writeB W6 e6 e7 hc fun G7 W7 nod7 => ?_)⟩
        refine ⟨⟨_, rfl⟩, _, pt (mapP d2 i 1) i x0, W7, nod7 _ _ (nod6 _ _ hL5 (fun _ z => by cases z)) (fun _ z => by cases z), nod7 _ _ (nod6 _ _ hL25 (fun _ z => by cases z)) (fun _ z => by cases z), by rw [lk_pt, if_pos rfl], fun i' => ?_, fun s' ne => ?_⟩
        · rw [lk_pt]
          by_cases q : i' = i
          · rw [if_pos q, if_pos ((take_mem hi).mpr (.inr q)), q, hx0]
          · rw [if_neg q, lk_mapP, if_neg (by omega), look]
            by_cases q2 : i' ∈ is.take j
            · rw [if_pos q2, if_pos ((take_mem hi).mpr (.inl q2))]
            · rw [if_neg q2, if_neg fun z => ((take_mem hi).mp z).elim q2 q]
        · rw [lk_pt, if_neg ne, lk_pt, if_neg ne]
          exact oth s' ne
      · rintro σ G5 ⟨⟨v4', rfl⟩, M2, d2, W5, hL5, hL25, e2, look, oth⟩
        rw [List.length_map, List.take_length] at look
        refine ⟨⟨_, _, rfl⟩, M2, W5, hL5, fun s' => ?_, fun s' d' dd e1 e3 i => ?_⟩
        · rw [take_mem hs']
          by_cases q : s' = s
          · rw [q, e2]; simp
          · rw [oth s' q, dom s']; simp [q]
        · by_cases q : s' = s
          · subst q
            rw [e2] at e1
            rw [hd0] at e3
            cases e1
            cases e3
            rw [look]
            by_cases z : i ∈ is
            · rw [if_pos z]
            · rw [if_neg z]
              have := mt (inD i).mpr z
              cases qq : lk d0 i with
              | none => rfl
              | some x => exact absurd (by rw [qq]; rfl) this
          · rw [oth s' q] at e1
            exact val s' d' dd e1 e3 i
    · rintro σ G ⟨⟨v3, v4, rfl⟩, M', W, hL, dom, val⟩
      refine ⟨_, rfl, k p M' G W ⟨fun s => ?_, fun s d' d0 e1 e2 => val s d' d0 e1 e2⟩⟩
      have h1 := dom s
      rw [List.length_map, List.take_length] at h1
      rw [Bool.eq_iff_iff, h1, inM]
end
end Bm
set_option maxRecDepth 100000
set_option maxHeartbeats 4000000
/-! a model with one change -/
namespace Bm
open PySem L2 L3 Pm
-- ['_law_draw_here', '_law_model', '_law_found', '_law_title', '_law_full', '_law_way', '_law_inside', '_law_spot']
abbrev sOdd : Stmt := top 44
/-! ### dict([(title, dict(model[title])) for title in model]) -/
theorem hK_merge : ∀ (l m : Sp3), ((m ++ l).map (·.1)).Nodup → mergeK (hK m) (hK l) = hK (m ++ l)
  | [], m, _ => by rw [List.append_nil]; rfl
  | (s, a, d) :: l, m, n => by
    have ns : lk m s = none := by
      rw [lk_none]
      intro z
      rw [List.map_append, List.nodup_append] at n
      exact n.2.2 s z s (by simp) rfl
    have e : putK (hK m) (Sum.inr s) (.ref a) = hK (m ++ [(s, a, d)]) := by
      show putK (kv Sum.inr (fun e : Addr × Pl => V.ref e.1) m) (Sum.inr s) ((fun e : Addr × Pl => V.ref e.1) (a, d)) = _
      rw [kv_put injS, pt_new _ ns]
      rfl
    show mergeK (putK (hK m) (Sum.inr s) (.ref a)) (hK l) = _
    rw [e, hK_merge l (m ++ [(s, a, d)]) (by rw [List.append_assoc]; exact n), List.append_assoc]
    rfl
theorem paired_of {α β γ : Type} {R : α → γ → Prop} {f : β → γ} : ∀ {qs : List (α × β)}, (∀ q ∈ qs, R q.1 (f q.2)) → Paired R (qs.map (·.1)) ((qs.map (·.2)).map f)
  | [], _ => .nil
  | q :: qs, h => .cons (h q List.mem_cons_self) (paired_of fun q' h' => h q' (List.mem_cons_of_mem _ h'))
theorem paired_imp {α γ : Type} {R R' : α → γ → Prop} (h : ∀ a c, R a c → R' a c) : ∀ {l : List α} {l' : List γ}, Paired R l l' → Paired R' l l'
  | _, _, .nil => .nil
  | _, _, .cons a b => .cons (h _ _ a) (paired_imp h b)
/-- a space with places -/
def full (M : Mem) (z : Str) : Bool := match lk M z with
  | some d => !d.isEmpty
  | none => false
/-- behind r turns of the comprehension -/
def CpS (H : Hp) (md : Addr) (od : Obj) (mm : Sp3) (L : Addr) (r : Nat) (G : Hp) : Prop := Same (upd H md (.frz od (.dK (hK mm)))) G ∧ ∃ qs : List (Addr × Str × Addr × Pl), G L = some (.lst ((qs.map (·.1)).map V.ref)) ∧ pur (qs.map (·.2)) = (pur mm).take r ∧
  (∀ q ∈ qs, G q.1 = some (.tup [.str q.2.1, .ref q.2.2.1]) ∧ G q.2.2.1 = some (.dK (dI q.2.2.2)) ∧ H q.2.2.1 = none) ∧ ((qs.map (·.2)).map (·.2.1)).Nodup
section
variable {H G : Hp} {md L : Addr} {od : Obj} {mm : Sp3} {r : Nat}
theorem CpS.start (B : MoA H md mm) (nL : (upd H md (.frz od (.dK (hK mm)))) L = none) : CpS H md od mm L 0 (upd (upd H md (.frz od (.dK (hK mm)))) L (.lst [])) :=
  ⟨sameNew nL, [], upd_same, rfl, fun q hq => (by cases hq), List.nodup_nil⟩
theorem CpS.turn (S : CpS H md od mm L r G) (nL : (upd H md (.frz od (.dK (hK mm)))) L = none) {s : Str} {a a' t : Addr} {d : Pl} (he : mm[r]? = some (s, a, d)) (na : G a' = none) (nt : (upd G a' (.dK (dI d))) t = none) :
    ∃ ps : List Addr, G L = some (.lst (ps.map V.ref)) ∧ ps.length ≤ r ∧ CpS H md od mm L (r + 1) (upd (upd (upd G a' (.dK (dI d))) t (.tup [.str s, .ref a'])) L (.lst (ps.map V.ref ++ [.ref t]))) := by
  obtain ⟨sG, qs, hL, ep, ok, nd⟩ := S
  have La : L ≠ a' := ne_of_none hL na
  have nt' : t ≠ a' := fun z => by rw [z, upd_same] at nt; cases nt
  have nt2 : G t = none := by rwa [upd_ne nt'] at nt
  have Lt : L ≠ t := ne_of_none hL nt2
  have pr : (pur mm)[r]? = some (s, d) := by unfold pur; rw [List.getElem?_map, he]; rfl
  have na0 : (upd H md (.frz od (.dK (hK mm)))) a' = none := sG.free na
  have amd : a' ≠ md := fun z => by rw [z, upd_same] at na0; cases na0
  have lq : qs.length ≤ r := by
    have := congrArg List.length ep
    unfold pur at this
    rw [List.length_map, List.length_map, List.length_take] at this
    omega
  have up : ∀ b o, G b = some o → b ≠ L → (upd (upd (upd G a' (.dK (dI d))) t (.tup [.str s, .ref a'])) L (.lst (((qs.map (·.1)).map V.ref) ++ [.ref t]))) b = some o := fun b o e n => by
    rw [upd_ne n, upd_ne (ne_of_none e nt2), upd_ne (ne_of_none e na)]
    exact e
  refine ⟨qs.map (·.1), hL, by rw [List.length_map]; exact lq, fun b o e => up b o (sG _ _ e) (ne_of_none e nL), qs ++ [(t, s, a', d)], ?_, ?_, fun q hq => ?_, ?_⟩
  · rw [upd_same, List.map_append, List.map_append]
    rfl
  · rw [List.take_succ, pr, ← ep]
    unfold pur
    rw [List.map_append, List.map_append]
    rfl
  · rcases List.mem_append.mp hq with h | h
    · obtain ⟨h1, h2, h3⟩ := ok q h
      exact ⟨up _ _ h1 (fun z => by rw [z, hL] at h1; cases h1), up _ _ h2 (fun z => by rw [z, hL] at h2; cases h2), h3⟩
    · rw [List.mem_singleton] at h
      subst h
      refine ⟨by rw [upd_ne Lt.symm, upd_same], by rw [upd_ne La.symm, upd_ne nt'.symm, upd_same], ?_⟩
      show H a' = none
      rwa [upd_ne amd] at na0
  · rw [List.map_append, List.map_append, List.nodup_append]
    refine ⟨nd, by simp, fun x hx y hy e => ?_⟩
    obtain ⟨e1, he1, rfl⟩ := List.mem_map.mp hx
    obtain ⟨q, hq, rfl⟩ := List.mem_map.mp he1
    have : y = a' := by simpa using hy
    have h2 := (ok q hq).2.1
    rw [e, this, na] at h2
    cases h2
/-- the end: the list's dict, new -/
theorem CpS.end_ (B : MoA H md mm) (nL : (upd H md (.frz od (.dK (hK mm)))) L = none) (S : CpS H md od mm L (hK mm).length G) : ∃ (ps : List Addr) (mr : Sp3), (upd G md (.dK (hK mm))) L = some (.lst (ps.map V.ref)) ∧ Paired (fun p (kv : Key × V) => (upd G md (.dK (hK mm))) p = some (.tup [kV kv.1, kv.2])) ps (hK mr) ∧ Same H (upd G md (.dK (hK mm))) ∧ pur mr = pur mm ∧
    ∀ hd, (upd G md (.dK (hK mm))) hd = none → MoA (upd (upd G md (.dK (hK mm))) hd (.dK (mergeK [] (hK mr)))) hd mr ∧ ∀ a ∈ fpt hd mr, H a = none := by
  obtain ⟨sG, qs, hL, ep, ok, nd⟩ := S
  have frm := sG _ _ upd_same
  have sH : Same H (upd G md (.dK (hK mm))) := fun b o e => by
    by_cases z : b = md
    · rw [z, upd_same]
      rw [z, B.held] at e
      exact e
    · rw [upd_ne z]
      exact sG _ _ (by rw [upd_ne z]; exact e)
  have nmd : ∀ b o, G b = some o → (∀ x y, o ≠ .frz x y) → (upd G md (.dK (hK mm))) b = some o := fun b o e n => by
    rw [upd_ne fun z => by rw [z, frm] at e; exact n _ _ (Option.some.inj e).symm]
    exact e
  have full : pur (qs.map (·.2)) = pur mm := by
    rw [ep]
    exact List.take_of_length_le (by unfold pur hK; rw [kv_length, List.length_map]; exact Nat.le_refl _)
  have nn : ((qs.map (·.2)).map (·.1)).Nodup := by
    have := names_pur full
    rw [this]
    exact B.nodN
  refine ⟨qs.map (·.1), qs.map (·.2), nmd _ _ hL (fun _ _ z => by cases z), ?_, sH, full, fun hd nh => ⟨⟨?_, fun e he => ?_, nn, ?_, fun e he => ?_⟩, fun a ha => ?_⟩⟩
  · exact paired_of (f := fun e : Str × Addr × Pl => ((Sum.inr e.1 : Key), V.ref e.2.1)) fun q hq => nmd _ _ (ok q hq).1 (fun _ _ z => by cases z)
  · rw [upd_same]
    have := hK_merge (qs.map (fun q : Addr × Str × Addr × Pl => q.2)) [] (by rw [List.nil_append]; exact nn)
    rw [List.nil_append] at this
    exact congrArg (fun z => some (HO.dK z)) this
  · obtain ⟨q, hq, rfl⟩ := List.mem_map.mp he
    have h2 := nmd _ _ (ok q hq).2.1 (fun _ _ z => by cases z)
    rw [upd_ne (ne_of_none h2 nh)]
    exact h2
  · refine List.nodup_cons.mpr ⟨fun z => ?_, nd⟩
    obtain ⟨e, he, e2⟩ := List.mem_map.mp z
    obtain ⟨q, hq, rfl⟩ := List.mem_map.mp he
    have h2 := nmd _ _ (ok q hq).2.1 (fun _ _ z => by cases z)
    rw [e2, nh] at h2
    cases h2
  · have hm : (e.1, e.2.2) ∈ pur mm := by
      rw [← full]
      exact List.mem_map.mpr ⟨e, he, rfl⟩
    obtain ⟨e', he', ee⟩ := List.mem_map.mp hm
    have : e'.2.2 = e.2.2 := (Prod.mk.inj ee).2
    rw [← this]
    exact B.ok e' he'
  · rcases List.mem_cons.mp ha with h | h
    · rw [h]; exact sH.free nh
    · obtain ⟨e, he, rfl⟩ := List.mem_map.mp h
      obtain ⟨q, hq, rfl⟩ := List.mem_map.mp he
      exact (ok q hq).2.2
end
def spOdd : Sp := fun vs H Q _ => ∃ (d st md : Addr) (mm : Sp3), vs = [.ref d, .ref md] ∧ Dr d st H ∧ MoA H md mm ∧ (∀ s, (lk (pur mm) s).isSome = true → nameS s = true) ∧ CtM (pur mm) ∧ lk (pur mm) "other" = none ∧ mm.length ≤ 1000 ∧
  ∀ (hd : Addr) (mr : Sp3) (H' : Hp), MoA H' hd mr → Dr d st H' → Kp d st H H' → (∀ s, (lk (pur mr) s).isSome = true → nameS s = true) → CtM (pur mr) → mr.length ≤ mm.length + 1 → ¬ SameM (pur mm) (pur mr) → Q (.ref hd) H'
section
variable {P : Program} {w : World} {K : PySem.W.Frag} {mg : Str → Option Value} {base : Heap}
theorem scOdd : FnScope ["_law_draw_here", "_law_model", "_law_found", "_law_title", "_law_full", "_law_way", "_law_inside", "_law_spot"] ["_law_draw_here", "_law_model"] (defScope sOdd) := ⟨rfl, rfl, rfl, by decide +kernel, rfl, by decide +kernel, by decide +kernel⟩
theorem ok_odd {f : Addr} {fd : FuncData} (F : Fun K "_law_odd" "_law_odd" sOdd f fd) (sorted_ : mg "sorted" = none) (dict_ : mg "dict" = none) (int_ : mg "int" = none) (HD : Has P w K mg base CX0 1 "_law_draw" ["_law_draw_here", "_law_below"] spDraw) (HP : Has P w K mg base CX0 2 "_law_pick" ["_law_draw_here", "_law_some"] spPick) :
    FnOk P w K mg base CX0 3 f fd ["_law_draw_here", "_law_model"] spOdd := by
  obtain ⟨fD, fdD, GD, mD, kD, bD⟩ := HD
  obtain ⟨fP, fdP, GP, mP, kP, bP⟩ := HP
  refine F.ok scOdd (fun vs H Q E h => ?_) (fun cdv A outer s H vs Q E hr h => ?_)
  · obtain ⟨d, st, md, mm, rfl, _⟩ := h
    rfl
  · obtain ⟨d, st, md, mm, rfl, D, B, nv, gC, no, lm, k⟩ := h
    have hu := hu_of hr
    have hr1 := hr.mono (show 1 ≤ 2 by decide)
    have hr2 := hr.mono (show 2 ≤ 2 by decide)
    refine ⟨_, (pss_cons (ps_set (i := 2) scOdd.nd rfl (Or.inl rfl) (pe_callTy (call_dictP rfl) (by rfl) dict_ (by decide +kernel) (pa_cons (pe_lock (pe_lc (own := [("_law_title", 3)]) (g := gName 3) (tt := tYes) rfl scOdd.nd (pi_keys (pv 1)) (blkOk_by (own := [("_law_title", 3)]) (N := ["_law_draw_here", "_law_model", "_law_found", "_law_title", "_law_full", "_law_way", "_law_inside", "_law_spot"]) (sc := defScope sOdd) (by decide +kernel)) (fun _ _ _ _ _ => (pg_name (i := 3) scOdd.nd rfl (Or.inl rfl))) (fun _ _ _ _ _ => pts_nil) (fun _ _ _ _ _ => (pe_tup (pa_cons (pv 3) (pa_cons (pe_callTy call_dictD (by rfl) dict_ (by decide +kernel) (pa_cons (pe_dget hu (pv 1) (pv 3) (fun _ _ => rfl)) pa_nil)) pa_nil)))))) pa_nil)))
      (pss_cons (ps_setLc (i := 4) (own := [("_law_title", 3)]) (g := gName 3) rfl scOdd.nd rfl rfl (sw_true rfl rfl rfl (by decide +kernel)) (pi_list (pe_callB (r := rSrtD P w) (call_srtD rfl) (by rfl) sorted_ (by decide +kernel) (pa_cons (pv 1) pa_nil))) (blkOk_by (own := [("_law_title", 3)]) (N := ["_law_draw_here", "_law_model", "_law_found", "_law_title", "_law_full", "_law_way", "_law_inside", "_law_spot"]) (sc := defScope sOdd) (by decide +kernel)) (fun _ _ _ _ _ => (pg_name (i := 3) scOdd.nd rfl (Or.inl rfl))) (fun _ _ _ _ _ => pts_one (pt_cmpR (op_neE (Nat.lt_of_succ_lt hu)) (pe_dget hu (pv 1) (pv 3) (fun _ _ => rfl)) pe_dnewK (nomark _))) (fun _ _ _ _ _ => (pv 3)))
      (pss_cons (ps_set (i := 5) scOdd.nd rfl (Or.inl rfl) (pe_ifExp (pt_cmpR (op_neD hr.units) (pv 4) (pe_lst pa_nil) (nomark _)) (pe_call GD hr1 rfl mD kD bD .nil pass0 (pa_cons (pv 0) (pa_cons pe_int pa_nil))) pe_int))
      (pss_cons (ps_if (pt_cmpR op_eq (pv 5) pe_int (nomark _))
        (pss_cons (ps_dput hu (pv 2) pe_str pe_dnewK rfl)
          (pss_one (ps_ret (pv 2))))
        pss_nil)
      (pss_cons (ps_set (i := 3) scOdd.nd rfl (Or.inl rfl) (pe_call GP hr2 rfl mP kP bP .nil pass0 (pa_cons (pv 0) (pa_cons (pv 4) pa_nil))))
      (pss_cons (ps_set (i := 6) scOdd.nd rfl (Or.inl rfl) (pe_dget hu (pv 2) (pv 3) (fun _ _ => rfl)))
      (pss_cons (ps_set (i := 7) scOdd.nd rfl (Or.inl rfl) (pe_call GP hr2 rfl mP kP bP .nil pass0 (pa_cons (pv 0) (pa_cons (pe_callB (r := rSrtD P w) (call_srtD rfl) (by rfl) sorted_ (by decide +kernel) (pa_cons (pv 6) pa_nil)) pa_nil))))
      (pss_cons (ps_if (pt_cmpR op_eq (pv 5) pe_int (nomark _))
        (pss_one (ps_expr (pe_dpop1 (pv 6) (pv 7) ⟨by rfl, by rfl, by rfl, by rfl⟩)))
        (pss_one (ps_dput hu (pv 6) (pv 7) (pe_op op_modN (pe_callTy call_int1 (by rfl) int_ (by decide +kernel) (pa_cons (pe_op op_add (pe_dget hu (pv 6) (pv 7) (fun _ _ => rfl)) pe_int) pa_nil)) pe_int) rfl)))
      (pss_one (ps_ret (pv 2))))))))))), ?_⟩

    -- the copy
    refine ⟨md, .dK (hK mm), B.held, trivial, fun od => ?_⟩
    refine ⟨_, rfl, md, od, rfl, .inl ⟨hK mm, upd_same, fun L nL => ?_⟩⟩
    refine lc_it walk_keys (fun r G => CpS H md od mm L r G) (CpS.start B nL) (fun r G _ h => h.1 _ _ upd_same) (fun r x G G' hr' hS hy => ?_) (fun G hS => ?_)
    · obtain ⟨rfl, kk, vv, hk, rfl⟩ := hy
      obtain ⟨e, he, hkv⟩ : ∃ e, mm[r]? = some e ∧ (Sum.inr e.1, V.ref e.2.1) = (kk, vv) := by
        unfold hK kv at hk
        rw [List.getElem?_map] at hk
        obtain ⟨e, h1, h2⟩ := Option.map_eq_some_iff.mp hk
        exact ⟨e, h1, h2⟩
      cases hkv
      have em := List.mem_of_getElem? he
      obtain ⟨s, a, dd⟩ := e
      have y : lk mm s = some (a, dd) := lk_of_mem B.nodN em
      have fr := hS.1 _ _ upd_same
      have ha : G' a = some (.dK (dI dd)) := hS.1 _ _ (by rw [upd_ne (B.ne_hd y)]; exact (B.at y).1)
      have rl : r ≤ mm.length := by have := (List.getElem?_eq_some_iff.mp he).1; omega
      refine ⟨rfl, _, rfl, _, rfl, _, rfl, md, .ref a, rfl, .inl ⟨hK mm, Sum.inr s, .inr ⟨od, fr⟩, rfl, by rw [hK_val, y]; rfl⟩, a, dI dd, rfl, .inl ha, fun a' na' => ⟨by show 2 ≤ sizeLine; decide, fun t nt => ?_⟩⟩
      obtain ⟨ps, h1, h2, h3⟩ := hS.turn nL he na' nt
      have Lx : (upd (upd G' a' (.dK (dI dd))) t (.tup [.str s, .ref a'])) L = some (.lst (ps.map V.ref)) := by
        rw [upd_ne (ne_of_none (by rw [upd_ne (ne_of_none h1 na')]; exact h1) nt), upd_ne (ne_of_none h1 na')]
        exact h1
      exact ⟨_, Lx, by rw [List.length_map, sizeLine_eq]; omega, h3⟩
    obtain ⟨ps, mr, hL, pd, sH, ep, mk⟩ := CpS.end_ B nL hS
    refine ⟨hS.1 _ _ upd_same, ?_⟩
    generalize upd G md (.dK (hK mm)) = G1 at hL pd sH mk ⊢
    refine ⟨L, ps, hK mr, rfl, SqL.of hL, paired_imp (fun _ _ h => SqT.of h) pd, fun hd nh => ?_⟩
    obtain ⟨M1, new1⟩ := mk hd nh
    have s1 := sameNew (o := HO.dK (mergeK [] (hK mr))) nh
    generalize upd G1 hd _ = G2 at M1 s1 ⊢
    have S2 := sH.trans s1
    have D2 := D.same S2
    have B2 := B.same S2
    -- those that are not empty
    refine ⟨_, rfl, tns (srt_strs (ks := mm.map (·.1)) (.inl B2.held) (by unfold hK kv; rw [List.map_map, List.map_map]; rfl) fun zs l1 hp hs n1 => ?_)⟩
    generalize eG3 : upd G2 l1 _ = G3
    have s3 : Same G2 G3 := by rw [← eG3]; exact sameNew n1
    have a3 : G3 l1 = some (HO.lst (zs.map V.str) : HO) := by rw [← eG3]; exact upd_same
    clear eG3
    have inz : ∀ z, z ∈ zs ↔ (lk (pur mm) z).isSome = true := fun z => by
      rw [some_key]
      unfold pur
      rw [List.map_map]
      exact hp.mem_iff
    have lz : zs.length = mm.length := by have := hp.length_eq; rwa [List.length_map] at this
    refine ⟨l1, rfl, ⟨_, SqL.of a3⟩, fun Lf nLf => ?_⟩
    refine lc_it (walk_list (K := K) (a := l1) (xs := zs.map V.str)) (fun r G => Same G3 G ∧ G Lf = some (.lst (((zs.take r).filter (full (pur mm))).map V.str))) ⟨sameNew nLf, upd_same⟩ (fun r G _ h => SqL.of (h.1 _ _ a3)) (fun r x G G' hr' hS hy => ?_) (fun G hS => ?_)
    · obtain ⟨sG, hLf⟩ := hS
      obtain ⟨rfl, hx⟩ := hy
      obtain ⟨s, hs', rfl⟩ : ∃ s, zs[r]? = some s ∧ V.str s = x := by
        rw [List.getElem?_map] at hx
        exact Option.map_eq_some_iff.mp hx
      obtain ⟨dd, hdd⟩ := Option.isSome_iff_exists.mp ((inz s).mp (List.mem_of_getElem? hs'))
      obtain ⟨a, y⟩ := lk_of_pur rfl hdd
      have BG := (B2.same s3).same sG
      have hKs := DGet.k (k := Sum.inr s) BG.held
      rw [hK_val, y] at hKs
      have tk : zs.take (r + 1) = zs.take r ++ [s] := by rw [List.take_succ, hs']; rfl
      refine ⟨rfl, _, rfl, _, rfl, md, .ref a, rfl, hKs, fun e1 ne1 => ?_⟩
      generalize eG4 : upd G' e1 _ = G4
      have s4 : Same G' G4 := by rw [← eG4]; exact sameNew ne1
      have a4 : G4 e1 = some (HO.dK [] : HO) := by rw [← eG4]; exact upd_same
      clear eG4
      refine ⟨a, e1, dI dd, rfl, rfl, .inl (s4 _ _ (BG.at y).1), .inl a4, _, rfl, ?_⟩
      show if (!(dI dd).isEmpty) = true then _ else _
      have fe : full (pur mm) s = !dd.isEmpty := by unfold full; rw [hdd]
      have de : (dI dd).isEmpty = dd.isEmpty := by cases dd <;> rfl
      have hL4 := s4 _ _ hLf
      cases em : dd.isEmpty with
      | true =>
        rw [de, em]
        refine iteF ⟨sG.trans s4, ?_⟩
        rw [tk, List.filter_append]
        simpa [fe, em] using hL4
      | false =>
        rw [de, em]
        refine iteT ⟨_, rfl, _, hL4, ?_, fun b o e => ?_, ?_⟩
        · have h1 := List.length_filter_le (full (pur mm)) (zs.take r)
          have h2 := List.length_take_le' r zs
          rw [List.length_map, sizeLine_eq]
          omega
        · rw [upd_ne (ne_of_none e nLf)]
          exact s4 _ _ (sG _ _ e)
        · rw [upd_same, tk, List.filter_append, List.map_append]
          simp [fe, em]
    obtain ⟨sG, hLf⟩ := hS
    rw [List.length_map, List.take_length] at hLf
    obtain ⟨Lfd, Lfs⟩ := (D2.same s3).ne (Same.refl _) nLf
    have S5 := S2.trans (s3.trans sG)
    have D5 := D.same S5
    have M5 : MoA G hd mr := M1.same (s3.trans sG)
    have fulls : ∀ z ∈ zs.filter (full (pur mm)), TitleS z := fun z hz => nameS_title (nv z ((inz z).mp (List.mem_filter.mp hz).1))
    have K5 : Kp d st H G := Same.kp S5
    have elen : mr.length = mm.length := by
      have := congrArg List.length ep
      unfold pur at this
      rwa [List.length_map, List.length_map] at this
    have nhd : H hd = none := new1 hd List.mem_cons_self
    have l0 : lk mr "other" = none := by
      rw [← ep, pur_lk] at no
      simpa using no
    have oth : ∀ G', MoA G' hd mr → Dr d st G' → Kp d st H G' → ∀ e3, G' e3 = none → Q (.ref hd) (upd (upd G' e3 (.dK [])) hd (.dK (putK (hK mr) (Sum.inr "other") (.ref e3)))) := fun G' M' D' K' e3 ne3 => by
      have he : hd ≠ e3 := ne_of_none M'.held ne3
      have kp1 : Keeps [hd] G' (upd (upd G' e3 (.dK [])) hd (.dK (putK (hK mr) (Sum.inr "other") (.ref e3)))) := fun b o e n => by
        rw [upd_ne (fun z => n (by rw [z]; exact List.mem_singleton.mpr rfl)), upd_ne (ne_of_none e ne3)]
        exact e
      have pe : pur (mr ++ [(("other" : Str), e3, ([] : Pl))]) = pur mm ++ [(("other" : Str), ([] : Pl))] := by
        rw [← ep]
        unfold pur
        rw [List.map_append]
        rfl
      refine k hd (mr ++ [(("other" : Str), e3, ([] : Pl))]) _ (M'.add l0 ne3 kp1 (by rw [upd_ne he.symm, upd_same]; rfl) upd_same .nil) (D'.keeps kp1 (fun b h => by rw [List.mem_singleton] at h; exact ⟨_, h ▸ M'.held⟩)) (fun b o e n1 n2 => ?_) ?_ ?_ ?_ ?_
      · exact kp1 b o (K' b o e n1 n2) (fun z => by rw [List.mem_singleton] at z; rw [z, nhd] at e; cases e)
      · rw [pe]
        exact NaG.app (GS := fun s => nameS s = true) nv (by decide +kernel)
      · rw [pe]
        exact gC.app (fun c x e => by cases e)
      · rw [List.length_append, elen]
        exact Nat.le_refl _
      · rw [pe]
        intro h
        have := h.1 "other"
        rw [no, lk_app, no] at this
        simp at this
    have fm : ∀ z ∈ zs.filter (full (pur mm)), ∃ dd, lk (pur mm) z = some dd ∧ dd ≠ [] := fun z hz => by
      have h2 := (List.mem_filter.mp hz).2
      unfold full at h2
      cases e : lk (pur mm) z with
      | none => rw [e] at h2; cases h2
      | some dd =>
        rw [e] at h2
        exact ⟨dd, rfl, fun z => by rw [z] at h2; cases h2⟩
    have fl : (zs.filter (full (pur mm))).length ≤ mm.length := by
      have := List.length_filter_le (full (pur mm)) zs
      omega
    generalize zs.filter (full (pur mm)) = fs at hLf fulls fm fl ⊢
    -- the way
    refine ⟨_, rfl, by decide, fun e2 ne2 => ?_⟩
    generalize eG6 : upd G e2 _ = G6
    have s6 : Same G G6 := by rw [← eG6]; exact sameNew ne2
    have a6 : G6 e2 = some (HO.lst [] : HO) := by rw [← eG6]; exact upd_same
    clear eG6
    refine ⟨.list (fs.map .str), .list [], .lst (SqL.of (s6 _ _ hLf)) (dp_strs fs), .lst (SqL.of a6) .nil, shaped_strs fulls, rfl, ?_⟩
    rw [eqv_nil]
    refine ⟨_, rfl, ?_⟩
    have D6 := D5.same s6
    have M6 := M5.same s6
    have K6 := K5.trans (Same.kp (d := d) (st := st) s6)
    have lmr : (hK mr).length < sizeLine := by rw [show (hK mr).length = mr.length from kv_length mr, sizeLine_eq]; omega
    cases em : (fs.map PyData.str).isEmpty with
    | true =>
      refine iteF ?_
      refine ⟨_, rfl, rfl, _, rfl, iteT (fun e3 ne3 => ?_)⟩
      have h3 : (upd G6 e3 (.dK [])) hd = some (.dK (hK mr)) := by rw [upd_ne (ne_of_none M6.held ne3)]; exact M6.held
      exact ⟨_, rfl, hd, _, rfl, DPut.k (k := Sum.inr "other") h3 lmr, _, rfl, oth G6 M6 D6 K6 e3 ne3⟩
    | false =>
      refine iteT ?_
      have pos : 0 < fs.length := by cases fs with | nil => cases em | cons u us => exact Nat.succ_pos _
      refine ⟨_, rfl, d, st, _, rfl, D6, by decide, by decide, fun r G7 r0 r1 D7 K7 => ?_⟩
      have M7 := MoA.kp M6 D6 K7
      have K07 := K6.trans K7
      refine ⟨_, rfl, rfl, _, rfl, ite2 (fun c => ?_) (fun c => ?_)⟩
      · refine fun e3 ne3 => ?_
        have h3 : (upd G7 e3 (.dK [])) hd = some (.dK (hK mr)) := by rw [upd_ne (ne_of_none M7.held ne3)]; exact M7.held
        exact ⟨_, rfl, hd, _, rfl, DPut.k (k := Sum.inr "other") h3 lmr, _, rfl, oth G7 M7 D7 K07 e3 ne3⟩
      · have r2 : r ≠ 2 := fun z => c (by rw [z]; exact decide_eq_true rfl)
        have hLf7 := K7 _ _ (s6 _ _ hLf) Lfd Lfs
        refine ⟨_, rfl, _, rfl, d, st, Lf, _, rfl, D7, hLf7, Lfd, Lfs, by rw [List.length_map]; exact pos, by rw [List.length_map]; omega, fun v G8 hv D8 K8 => ?_⟩
        obtain ⟨s, hs', rfl⟩ := List.mem_map.mp hv
        obtain ⟨dd, hdd, dne⟩ := fm s hs'
        have M8 := MoA.kp M7 D7 K8
        have K08 := K07.trans K8
        obtain ⟨a1, y1⟩ := lk_of_pur ep hdd
        have hK8 := DGet.k (k := Sum.inr s) M8.held
        rw [hK_val, y1] at hK8
        have O1 := (M8.at y1).2
        refine ⟨_, rfl, _, rfl, hd, .ref a1, rfl, hK8, ?_⟩
        refine ⟨_, rfl, _, rfl, tns (srt_ints (ks := dd.map (·.1)) (.inl (M8.at y1).1) (by unfold dI kv; rw [List.map_map, List.map_map]; rfl) fun ws l2 hp2 hs2 n2 => ?_)⟩
        generalize eG9 : upd G8 l2 _ = G9
        have s9 : Same G8 G9 := by rw [← eG9]; exact sameNew n2
        have a9 : G9 l2 = some (HO.lst (ws.map V.int) : HO) := by rw [← eG9]; exact upd_same
        clear eG9
        have D9 := D8.same s9
        obtain ⟨l2d, l2s⟩ := D8.ne (Same.refl _) n2
        have lws : ws.length = dd.length := by have := hp2.length_eq; rwa [List.length_map] at this
        have few := O1.few
        refine ⟨d, st, l2, _, rfl, D9, a9, l2d, l2s, by rw [List.length_map, lws]; exact List.length_pos_iff.mpr dne, by rw [List.length_map, lws]; omega, fun v2 G10 hv2 D10 K10 => ?_⟩
        obtain ⟨i, hi, rfl⟩ := List.mem_map.mp hv2
        obtain ⟨x, hx⟩ := Option.isSome_iff_exists.mp (some_key.mpr (hp2.mem_iff.mp hi))
        have M10 := MoA.kp (M8.same s9) D9 K10
        have K010 := (K08.trans (Same.kp (d := d) (st := st) s9)).trans K10
        have h10 := (M10.at y1).1
        have na1 : H a1 = none := new1 a1 (fpt_mem y1)
        have ir := O1.2 i (some_key.mp (by rw [hx]; rfl))
        have okE : ∀ (d' : Pl), OkP d' → Ct d' → lk d' i ≠ some x → ∀ G11, Keeps [a1] G10 G11 → G11 a1 = some (.dK (dI d')) → Q (.ref hd) G11 := fun d' o' c' ne G11 kp e => by
          have pe : pur (pt mr s (a1, d')) = pt (pur mm) s d' := by rw [pur_pt, ep]
          refine k hd (pt mr s (a1, d')) G11 (M10.put y1 kp e o') (D10.keeps kp (fun b h => by rw [List.mem_singleton] at h; exact ⟨_, h ▸ h10⟩)) (fun b o e n1 n2 => ?_) ?_ ?_ ?_ ?_
          · exact kp b o (K010 b o e n1 n2) (fun z => by rw [List.mem_singleton] at z; rw [z, na1] at e; cases e)
          · rw [pe]
            exact NaG.put (GS := fun s => nameS s = true) nv (by rw [hdd]; rfl)
          · rw [pe]
            exact gC.put c'
          · have := length_pt mr s (a1, d')
            omega
          · rw [pe]
            intro h
            have := h.2 s dd d' hdd (by rw [lk_pt, if_pos rfl]) i
            rw [hx] at this
            exact ne this.symm
        refine ⟨_, rfl, rfl, _, rfl, ite2 (fun c0 => ?_) (fun c0 => ?_)⟩
        · refine ⟨_, rfl, a1, rfl, .inl ⟨_, .inl h10⟩, _, rfl, _, Sum.inl i, .int x, h10, rfl, by rw [dI_val, hx]; rfl, _, rfl, ?_⟩
          exact okE (dr dd i) O1.dr ((gC s dd hdd).dr) (by rw [lk_dr, if_pos rfl]; exact fun z => by cases z) _ .one (by rw [upd_same, dI_drop])
        · have hI := DGet.k (k := Sum.inl i) h10
          rw [dI_val, hx] at hI
          have x01 := gC s dd hdd i x hx
          have y0 : 0 ≤ (x + 1).fmod 1000001 := Int.fmod_nonneg_of_pos _ (by decide)
          have y1' : (x + 1).fmod 1000001 < 1000001 := Int.fmod_lt_of_pos _ (by decide)
          have yne : (x + 1).fmod 1000001 ≠ x := fun z => by
            rw [Int.fmod_eq_emod_of_nonneg _ (by decide)] at z
            omega
          refine ⟨_, rfl, _, rfl, a1, .int x, rfl, hI, _, _, rfl, rfl, .inl ⟨_, rfl, _, _, rfl, rfl, (by show (1000001 : Int) ≠ 0; decide), ?_⟩⟩
          refine ⟨_, rfl, _, rfl, a1, _, rfl, DPut.k (k := Sum.inl i) h10 (by rw [dI_length, sizeLine_eq]; omega), _, rfl, ?_⟩
          exact okE (pt dd i ((x + 1).fmod 1000001)) (O1.pt ir.1 ir.2) ((gC s dd hdd).pt y0 (by omega)) (by rw [lk_pt, if_pos rfl]; exact fun z => yne (Option.some.inj z)) _ .one (by rw [upd_same, dI_put])
end
end Bm
set_option maxRecDepth 100000
set_option maxHeartbeats 8000000
/-! the own ==; the law -/
namespace Bm
open PySem L2 L3 Pm
-- ['_law_script', '_law_draw_here', '_law_turn', '_law_titles_here', '_law_memory', '_law_model', '_law_twin', '_law_kept', '_law_title']
abbrev sLaw5 : Stmt := top 45
theorem apart {hd hd' : Addr} {m m' : Sp3} (h : ∀ a ∈ fpt hd m, a ∉ fpt hd' m') : ∀ e ∈ m, ∀ e' ∈ m', e.2.1 ≠ e'.2.1 := fun e he e' he' z =>
  h e.2.1 (List.mem_cons_of_mem _ (List.mem_map.mpr ⟨e, he, rfl⟩)) (by rw [z]; exact List.mem_cons_of_mem _ (List.mem_map.mpr ⟨e', he', rfl⟩))
theorem keep_of {H H' : Hp} {d st hd md : Addr} {m mm : Sp3} (fr : ∀ b o, H b = some o → b ≠ d → b ≠ st → b ∉ fpt hd m → b ∉ fpt md mm → H' b = some o) : Keeps (d :: st :: (fpt hd m ++ fpt md mm)) H H' := fun b o e n => by
  simp only [List.mem_cons, List.mem_append, not_or] at n
  exact fr b o e n.1 n.2.1 n.2.2.1 n.2.2.2
theorem off_S {H : Hp} {d st hd md b : Addr} {m mm : Sp3} {o : HO} (A : MoA H hd m) (B : MoA H md mm) (D : Dr d st H) (e : H b = some o) (nl : ∀ xs, o ≠ .lst xs) (n1 : b ∉ fpt hd m) (n2 : b ∉ fpt md mm) : b ∉ d :: st :: (fpt hd m ++ fpt md mm) := by
  obtain ⟨ms, sp, mx, h1, h2, _⟩ := D
  simp only [List.mem_cons, List.mem_append, not_or]
  refine ⟨fun z => ?_, fun z => ?_, n1, n2⟩
  · rw [z, h1] at e; exact nl _ (Option.some.inj e).symm
  · rw [z, h2] at e; exact nl _ (Option.some.inj e).symm
theorem off_D {H : Hp} {d st hd md hq b : Addr} {m mm mq : Sp3} (A : MoA H hd m) (B : MoA H md mm) (D : Dr d st H) (Aq : MoA H hq mq) (hb : b ∈ fpt hq mq) (n1 : b ∉ fpt hd m) (n2 : b ∉ fpt md mm) : b ∉ d :: st :: (fpt hd m ++ fpt md mm) := by
  obtain ⟨kvs, e⟩ := fpt_dK Aq b hb
  exact off_S A B D e (fun _ z => by cases z) n1 n2
/-- == of a memory: with another one, or with what is none -/
def spPEq2 (K : PySem.W.Frag) (C : Addr) : Sp := fun vs H Q _ => ∃ (p dx hd : Addr) (m : Sp3) (y : V), vs = [.ref p, y] ∧ PlA C H p dx hd m ∧
  ((∃ (q dy hd' : Addr) (m' : Sp3), y = .ref q ∧ PlA C H q dy hd' m' ∧ (∀ e ∈ m, ∀ e' ∈ m', e.2.1 ≠ e'.2.1) ∧ Q (.bl (eqM (pur m) (pur m'))) H) ∨
   (∃ t, TyV K H y t ∧ PySem.W.kitOne K t (.ref C) = some false ∧ Q (.bl false) H))
section
variable {P : Program} {w : World} {K : PySem.W.Frag} {mg : Str → Option Value} {base : Heap}
theorem scPEq2 : FnScope ["self", "other"] ["self", "other"] (defScope sPEq) := ⟨rfl, rfl, rfl, by decide +kernel, rfl, by decide +kernel, by decide +kernel⟩
theorem ok_peq2 {f C : Addr} {fd : FuncData} (F : Fun K "__eq__" "Plain.__eq__" sPEq f fd) (TP : PlT K C) (TI : InT K C) (isinstance_ : mg "isinstance" = none) (mC : mg "Plain" = some (.ref C)) : FnOk P w K mg base CX0 1 f fd ["self", "other"] (spPEq2 K C) := by
  refine F.ok scPEq2 (fun vs H Q E h => ?_) (fun cdv A outer s H vs Q E hr h => ?_)
  · obtain ⟨p, dx, hd, m, y, rfl, _⟩ := h
    rfl
  · obtain ⟨p, dx, hd, m, y, rfl, A1, h⟩ := h
    refine ⟨_, (pss_one (ps_ret (pe_and (pe_callB call_isV (by rfl) isinstance_ PyProof.Rows.boot_isinstance (pa_cons (pv 1) (pa_cons (pe_glob (v := .ref C) rfl mC rfl) pa_nil))) (pe_one (pe_cmpR (op_eqDD hr.units) (pe_fld (pv 0) rfl) (pe_fld (pv 1) rfl) (nomark _)))))), ?_⟩
    rcases h with ⟨q, dy, hd', m', rfl, A2, dj, k⟩ | ⟨t, ty, kt, k⟩
    · refine ⟨_, rfl, _, _, _, _, _, rfl, .own C, TI.ty A2.ins, kit_self, _, rfl, iteT ?_⟩
      exact ⟨_, rfl, p, C, dx, _, _, rfl, A1.ins, TP.cl, TP.nH, rfl, _, rfl, q, C, dy, _, _, rfl, A2.ins, TP.cl, TP.nH, rfl, hd, hd', m, m', rfl, rfl, A1.held, A2.held, A1.inner, A2.inner, dj, k⟩
    · exact ⟨_, rfl, _, _, _, _, _, rfl, .own C, ty, kt, _, rfl, iteF k⟩
theorem scLaw : FnScope ["_law_script", "_law_draw_here", "_law_turn", "_law_titles_here", "_law_memory", "_law_model", "_law_twin", "_law_kept", "_law_title"] ["_law_script"] (defScope sLaw5) := ⟨rfl, rfl, rfl, by decide +kernel, rfl, by decide +kernel, by decide +kernel⟩
def spLaw (K : PySem.W.Frag) : Sp := fun vs H Q _ => ∃ (a : Addr) (ns : List Int), vs = [.ref a] ∧ SqL K H a (ns.map V.int) ∧ ns.length ≤ 63 ∧ ∀ H', Q (.bl true) H'
theorem ok_law {f C : Addr} {c : Cs} {oc kV doc pm cd0 ct : Value} {od an : Option Addr} {osl : Array (Option Value)} (lk0 : K.lookup f = some ⟨oc, od, .func (PySem.W.fnOf "law" "law" (defArgs sLaw5) (defBody sLaw5) (defScope sLaw5) .none kV doc pm an cd0 ct), osl⟩) (hcd : PySem.W.codeIn K cd0 "law" = true)
    (range_ : mg "range" = none) (dict_ : mg "dict" = none) (R : PlK P w K mg base C c) (TI : InT K C)
    (mC : mg "Plain" = some (.ref C)) (HI : ∃ fI fdI, Mk K C fI ∧ FnOk P w K mg base CX0 1 fI fdI ["self"] (spPI C) ∧ Binds K fdI ["self"] []) (HC : HasM P w K mg base CX0 3 C "copy" ["self"] (spCopy C))
    (HE : ∃ f fd, FnOk P w K mg base CX0 1 f fd ["self", "other"] (spPEq2 K C) ∧ PySem.W.findIn K (.ref C) "__eq__" = some (some (.ref f)) ∧ PySem.W.isFn K (.ref f) = true ∧ Binds K fd ["self", "other"] [])
    (kd : PySem.W.kitOne K (.type "dict") (.ref C) = some false) (ki : PySem.W.kitOne K (.type "int") (.ref C) = some false) (nC : PySem.W.notFirst K C (.ref C) = true) (nd : PySem.W.notFirst K C (.type "dict") = true) (ni : PySem.W.notFirst K C (.type "int") = true)
    (HState : Has P w K mg base CX0 1 "_law_state" ["_law_script"] (spState K)) (HD : Has P w K mg base CX0 1 "_law_draw" ["_law_draw_here", "_law_below"] spDraw) (HTi : Has P w K mg base CX0 3 "_law_titles" ["_law_draw_here"] spTitles)
    (HLed : Has P w K mg base CX0 7 "_law_led" ["_law_draw_here", "_law_titles_here", "_law_memory", "_law_model", "_law_many"] (spLed C)) (HReb : Has P w K mg base CX0 6 "_law_rebuilt" ["_law_draw_here", "_law_model"] (spRebuilt C)) (HOdd : Has P w K mg base CX0 3 "_law_odd" ["_law_draw_here", "_law_model"] spOdd)
    {fSa : Addr} {fdSa : FuncData} (GSa : FnG P w K mg base CX0 6 fSa fdSa ["_law_memory", "_law_model"] (spSame C)) (mSa : mg "_law_same" = some (.ref fSa)) (kSa : PySem.W.keepIn K (.ref fSa) = true) (bSa : Binds K fdSa ["_law_memory", "_law_model"] []) :
    FnG P w K mg base CX0 8 f (PySem.W.fnOf "law" "law" (defArgs sLaw5) (defBody sLaw5) (defScope sLaw5) .none kV doc pm an cd0 ct) ["_law_script"] (spLaw K) := by
  refine fn_g lk0 hcd scLaw (fun vs H Q E h => ?_) fun A0 outer s0 H vs Q E gd hr h => ?_
  · obtain ⟨a, ns, rfl, _⟩ := h
    rfl
  · obtain ⟨a, ns, rfl, hS, hlen, fin⟩ := h
    obtain ⟨fI, fdI, MI, GI, bI⟩ := HI
    obtain ⟨fcopy, fdcopy, mmcopy, Gcopy, bcopy⟩ := HC
    obtain ⟨fE, fdE, GE, hE1, hE2, bE⟩ := HE
    obtain ⟨fState, fdState, GState, mState, kState, bState⟩ := HState
    obtain ⟨fD, fdD, GD, mD, kD, bD⟩ := HD
    obtain ⟨fTi, fdTi, GTi, mTi, kTi, bTi⟩ := HTi
    obtain ⟨fLed, fdLed, GLed, mLed, kLed, bLed⟩ := HLed
    obtain ⟨fReb, fdReb, GReb, mReb, kReb, bReb⟩ := HReb
    obtain ⟨fOdd, fdOdd, GOdd, mOdd, kOdd, bOdd⟩ := HOdd
    have TP := R.tp
    have hu := hu_of hr
    have hr1 := hr.mono (show 1 ≤ 7 by decide)
    have hr2 := hr.mono (show 2 ≤ 7 by decide)
    have hr3 := hr.mono (show 3 ≤ 7 by decide)
    have hr6 := hr.mono (show 6 ≤ 7 by decide)
    have hr7 := hr.mono (show 7 ≤ 7 by decide)
    suffices hh : ∃ t, PSs (cxOf CX0 P w K mg base ["_law_script", "_law_draw_here", "_law_turn", "_law_titles_here", "_law_memory", "_law_model", "_law_twin", "_law_kept", "_law_title"] "law" (defScope sLaw5) f cd0 A0 outer s0 H E).nox (defBody sLaw5) t ∧ t { nx := fun _ H' => Q .non H', rt := Q } (start ["_law_script", "_law_draw_here", "_law_turn", "_law_titles_here", "_law_memory", "_law_model", "_law_twin", "_law_kept", "_law_title"] [.ref a]) H by
      obtain ⟨t, h1, h2⟩ := hh
      exact ⟨t, h1.nox, h2⟩
    refine ⟨_, (pss_cons (ps_set (i := 1) scLaw.nd rfl (Or.inl rfl) (pe_call GState hr1 rfl mState kState bState .nil pass0 (pa_cons (pv 0) pa_nil)))
      (pss_cons (ps_for PassesOwn.never rfl (pi_range1 rfl range_ (pa_cons pe_int pa_nil)) (pg_name (i := 2) scLaw.nd rfl (Or.inl rfl))
        (pss_cons (ps_asg (pe_tup (pa_cons (pe_call GTi hr3 rfl mTi kTi bTi .nil pass0 (pa_cons (pv 1) pa_nil)) (pa_cons (pe_make0 MI GI hr2 rfl mC bI .nil pass0) (pa_cons pe_dnewK pa_nil)))) (pg_tup (by rfl) (pgs_cons (pg_name (i := 3) scLaw.nd rfl (Or.inl rfl)) (pgs_cons (pg_name (i := 4) scLaw.nd rfl (Or.inl rfl)) (pgs_cons (pg_name (i := 5) scLaw.nd rfl (Or.inr rfl)) pgs_nil)))))
          (pss_cons (ps_expr (pe_call GLed hr7 rfl mLed kLed bLed .nil pass0 (pa_cons (pv 1) (pa_cons (pv 3) (pa_cons (pv 4) (pa_cons (pv 5) (pa_cons (pe_op op_add pe_int (pe_call GD hr1 rfl mD kD bD .nil pass0 (pa_cons (pv 1) (pa_cons pe_int pa_nil)))) pa_nil)))))))
          (pss_cons (ps_par (i := 6) (j := 7) (by rfl) scLaw.nd rfl rfl (by decide) rfl rfl (pa_cons (pe_meth0 (pv 4) TP.cl mmcopy Gcopy hr3 bcopy .nil pass0) (pa_cons (pe_callTy (call_dictP rfl) (by rfl) dict_ (by decide +kernel) (pa_cons (pe_lock (pe_lc (own := [("_law_title", 8)]) (g := gName 8) (tt := tYes) rfl scLaw.nd (pi_keys (pv 5)) (blkOk_by (own := [("_law_title", 8)]) (N := ["_law_script", "_law_draw_here", "_law_turn", "_law_titles_here", "_law_memory", "_law_model", "_law_twin", "_law_kept", "_law_title"]) (sc := defScope sLaw5) (by decide +kernel)) (fun _ _ _ _ _ => (pg_name (i := 8) scLaw.nd rfl (Or.inl rfl))) (fun _ _ _ _ _ => pts_nil) (fun _ _ _ _ _ => (pe_tup (pa_cons (pv 8) (pa_cons (pe_callTy call_dictD (by rfl) dict_ (by decide +kernel) (pa_cons (pe_dget hu (pv 5) (pv 8) (fun _ _ => rfl)) pa_nil)) pa_nil)))))) pa_nil)) pa_nil)) (by rfl))
          (pss_cons (ps_if (PW.pt (pw_or (pt_not (pt_cmpR (op_eqOwn (C := C) (E := E0) GE hE1 hE2 bE pass0 hr1) (pv 6) (pv 4) (nomark _))) (pw_or (pt_not (pt_cmpR (op_eqOwn (C := C) (E := E0) GE hE1 hE2 bE pass0 hr1) (pe_call GReb hr6 rfl mReb kReb bReb .nil pass0 (pa_cons (pv 1) (pa_cons (pv 5) pa_nil))) (pv 4) (nomark _))) (pw_or (pt_cmpR (op_eqOwn (C := C) (E := E0) GE hE1 hE2 bE pass0 hr1) (pv 4) (pv 5) (nomark _)) (pw_or1 (pt_cmpR (op_eqOwn (C := C) (E := E0) GE hE1 hE2 bE pass0 hr1) (pv 4) pe_int (nomark _)))))))
            (pss_one (ps_ret pe_bl))
            pss_nil)
          (pss_cons (ps_if (PW.pt (pw_and (pt_cmpR (show OpR _ _ (rIn K true) from op_notIn_seq) pe_str (pv 3) (by rfl)) (pw_and1 (pt_cmpR (op_eqOwn (C := C) (E := E0) GE hE1 hE2 bE pass0 hr1) (pv 4) (pe_call GReb hr6 rfl mReb kReb bReb .nil pass0 (pa_cons (pv 1) (pa_cons (pe_call GOdd hr3 rfl mOdd kOdd bOdd .nil pass0 (pa_cons (pv 1) (pa_cons (pv 5) pa_nil))) pa_nil))) (nomark _)))))
            (pss_one (ps_ret pe_bl))
            pss_nil)
          (pss_cons (ps_expr (pe_call GLed hr7 rfl mLed kLed bLed .nil pass0 (pa_cons (pv 1) (pa_cons (pv 3) (pa_cons (pv 4) (pa_cons (pv 5) (pa_cons pe_int pa_nil)))))))
          (pss_cons (ps_if (PW.pt (pw_or (pt_not (pt_val (pe_callG GSa gd hr6 rfl mSa kSa bSa .nil pass0 (pa_cons (pv 6) (pa_cons (pv 7) pa_nil))))) (pw_or1 (pt_cmpR op_ne (pe_cmpR (op_eqOwn (C := C) (E := E0) GE hE1 hE2 bE pass0 hr1) (pv 6) (pv 4) (nomark _)) (pe_cmpR (op_eqDD hr.units) (pv 7) (pv 5) (nomark _)) (nomark _)))))
            (pss_one (ps_ret pe_bl))
            pss_nil)
          (pss_cons (ps_expr (pe_call GLed hr7 rfl mLed kLed bLed .nil pass0 (pa_cons (pv 1) (pa_cons (pv 3) (pa_cons (pv 6) (pa_cons (pv 7) (pa_cons pe_int pa_nil)))))))
          (pss_one (ps_if (PW.pt (pw_or (pt_not (pt_val (pe_callG GSa gd hr6 rfl mSa kSa bSa .nil pass0 (pa_cons (pv 4) (pa_cons (pv 5) pa_nil))))) (pw_or (pt_not (pt_val (pe_callG GSa gd hr6 rfl mSa kSa bSa .nil pass0 (pa_cons (pv 6) (pa_cons (pv 7) pa_nil))))) (pw_or1 (pt_cmpR op_ne (pe_cmpR (op_eqOwn (C := C) (E := E0) GE hE1 hE2 bE pass0 hr1) (pv 4) (pv 6) (nomark _)) (pe_cmpR (op_eqDD hr.units) (pv 7) (pv 5) (nomark _)) (nomark _))))))
            (pss_one (ps_ret pe_bl))
            pss_nil)))))))))))
      (pss_one (ps_ret pe_bl)))), ?_⟩

    refine ⟨_, rfl, a, ns, rfl, hS, hlen, fun d st H0 s0 _ _ D0 => ?_⟩
    refine ⟨3, rfl, by decide, by decide, for_range (n := 3) (fun n σ H' => ∃ v2 v3 v4 v5 v6 v7 v8 : Option V, σ = [some (.ref a), some (.ref d), v2, v3, v4, v5, v6, v7, v8] ∧ Dr d st H') ⟨none, none, none, none, none, none, none, rfl, D0⟩ ?_ ?_⟩
    · rintro n0 σ H' hn0 ⟨v2, v3, v4, v5, v6, v7, v8, rfl, D⟩
      refine ⟨_, rfl, d, st, rfl, D, fun tl ts H2 ntl htl hl ht D2 K2 => ?_⟩
      obtain ⟨tld, tls⟩ := D.ne (Same.refl _) ntl
      refine fun p dx np ndp nep => mk_plain np ndp nep fun hd H3 s3 nh P3 => ⟨rfl, ?_⟩
      refine fun md nmd => ?_
      generalize eH4 : upd H3 md _ = H4
      have s4 : Same H3 H4 := by rw [← eH4]; exact sameNew nmd
      have a4 : H4 md = some (HO.dK [] : HO) := by rw [← eH4]; exact upd_same
      clear eH4
      refine ⟨by show 3 ≤ sizeLine; decide, fun t nt => ?_⟩
      generalize eH5 : upd H4 t _ = H5
      have s5 : Same H4 H5 := by rw [← eH5]; exact sameNew nt
      have a5 : H5 t = some (HO.tup [V.ref tl, V.ref p, V.ref md] : HO) := by rw [← eH5]; exact upd_same
      clear eH5
      refine ⟨t, _, rfl, SqT.of a5, rfl, _, _, rfl, _, _, rfl, _, _, rfl, rfl, ?_⟩
      have s25 := s3.trans (s4.trans s5)
      have P5 := P3.same (s4.trans s5)
      have M5 : MoA H5 md [] := ⟨s5 _ _ a4, (fun e he => by cases he), List.nodup_nil, (by simp), (fun e he => by cases he)⟩
      have dj5 : ∀ a ∈ fpt hd [], a ∉ fpt md [] := fun x h1 h2 => by
        have e1 : x = hd := by simpa [fpt] using h1
        have e2 : x = md := by simpa [fpt] using h2
        have := P3.held
        rw [← e1, e2, nmd] at this
        cases this
      -- some operations
      refine ⟨_, rfl, _, rfl, _, rfl, _, rfl, _, rfl, d, st, _, rfl, D2.same s25, by decide, by decide, fun r H6 r0 r1 D6 K6 => ⟨_, _, rfl, rfl, ?_⟩⟩
      obtain ⟨n, hn⟩ : ∃ n : Nat, 8 + r = (n : Int) := ⟨(8 + r).toNat, by omega⟩
      have tl6 : H6 tl = some (.lst (ts.map V.str)) := K6 _ _ (s25 _ _ htl) tld tls
      refine ⟨fun w => TitleS w ∧ w ∈ ts, d, st, tl, p, md, dx, hd, ts, [], [], [], n, by show [V.ref d, V.ref tl, V.ref p, V.ref md, V.int (8 + r)] = _; rw [hn], D6, tld, tls, tl6, hl, fun w hw => ⟨ht w hw, hw⟩, fun w h => h.1, PlAkp P5 (D2.same s25) K6, MoA.kp M5 (D2.same s25) K6, rfl, rfl, dj5, ⟨fun s d e => (by cases e), fun s e => (by cases e)⟩, fun s e => (by cases e), by simp; omega, fun m1 mm1 M1 H7 A1 B1 e1 e1' dj1 D7 g1 n1 l1 fr7 fp7 => ?_⟩
      have tl7 : H7 tl = some (.lst (ts.map V.str)) := fr7 _ _ tl6 tld tls (no_fpt (PlAkp P5 (D2.same s25) K6).mo tl6 (fun _ z => by cases z)) (no_fpt (MoA.kp M5 (D2.same s25) K6) tl6 (fun _ z => by cases z))
      have l1' : M1.length ≤ 20 := by simp at l1; omega
      have lm1 : mm1.length ≤ 20 := by rw [len_pur e1']; exact l1'
      -- copies
      refine ⟨_, rfl, p, dx, _, rfl, A1.ins, no_held (by decide +kernel), tns ⟨p, dx, hd, m1, rfl, A1, by rw [len_pur e1]; omega, fun q dq hq mq H8 nq sq Aq eq newq => ?_⟩⟩
      have B8 := B1.same sq
      refine ⟨md, .dK (hK mm1), B8.held, trivial, fun od => ?_⟩
      refine ⟨_, rfl, md, od, rfl, .inl ⟨hK mm1, upd_same, fun L nL => ?_⟩⟩
      refine lc_it walk_keys (fun r G => CpS H8 md od mm1 L r G) (CpS.start B8 nL) (fun r G _ h => h.1 _ _ upd_same) (fun r x G G' hr' hS hy => ?_) (fun G hS => ?_)
      · obtain ⟨rfl, kk, vv, hk, rfl⟩ := hy
        obtain ⟨e, he, hkv⟩ : ∃ e, mm1[r]? = some e ∧ (Sum.inr e.1, V.ref e.2.1) = (kk, vv) := by
          unfold hK kv at hk
          rw [List.getElem?_map] at hk
          obtain ⟨e, h1, h2⟩ := Option.map_eq_some_iff.mp hk
          exact ⟨e, h1, h2⟩
        cases hkv
        have em := List.mem_of_getElem? he
        obtain ⟨s, a, dd⟩ := e
        have y : lk mm1 s = some (a, dd) := lk_of_mem B8.nodN em
        have fr := hS.1 _ _ upd_same
        have ha : G' a = some (.dK (dI dd)) := hS.1 _ _ (by rw [upd_ne (B8.ne_hd y)]; exact (B8.at y).1)
        have rl : r ≤ mm1.length := by have := (List.getElem?_eq_some_iff.mp he).1; omega
        refine ⟨rfl, _, rfl, _, rfl, _, rfl, md, .ref a, rfl, .inl ⟨hK mm1, Sum.inr s, .inr ⟨od, fr⟩, rfl, by rw [hK_val, y]; rfl⟩, a, dI dd, rfl, .inl ha, fun a' na' => ⟨by show 2 ≤ sizeLine; decide, fun t nt => ?_⟩⟩
        obtain ⟨ps, h1, h2, h3⟩ := hS.turn nL he na' nt
        have Lx : (upd (upd G' a' (.dK (dI dd))) t (.tup [.str s, .ref a'])) L = some (.lst (ps.map V.ref)) := by
          rw [upd_ne (ne_of_none (by rw [upd_ne (ne_of_none h1 na')]; exact h1) nt), upd_ne (ne_of_none h1 na')]
          exact h1
        exact ⟨_, Lx, by rw [List.length_map, sizeLine_eq]; omega, h3⟩
      obtain ⟨ps, mr, hL, pd, sH, ep, mk⟩ := CpS.end_ B8 nL hS
      refine ⟨hS.1 _ _ upd_same, ?_⟩
      generalize upd G md (.dK (hK mm1)) = G1 at hL pd sH mk ⊢
      refine ⟨L, ps, hK mr, rfl, SqL.of hL, paired_imp (fun _ _ h => SqT.of h) pd, fun kd_ nk => ?_⟩
      obtain ⟨Bk, newk⟩ := mk kd_ nk
      have s1 := sameNew (o := HO.dK (mergeK [] (hK mr))) nk
      generalize upd G1 kd_ _ = G2 at Bk s1 ⊢
      have S8 := sH.trans s1
      have S7 := sq.trans S8
      have A2 := A1.same S7
      have B2 := B1.same S7
      have Aq2 := Aq.same S8
      have D9 := D7.same S7
      have tl9 := S7 _ _ tl7
      refine ⟨_, _, rfl, ?_⟩
      have eqp : pur mq = M1 := eq.trans e1
      have ekp : pur mr = M1 := ep.trans e1'
      have x1q : ∀ a ∈ fpt hq mq, a ∉ fpt hd m1 ∧ a ∉ fpt md mm1 := fun a h => ⟨no_new A1.mo (newq a h), no_new B1 (newq a h)⟩
      have x1k : ∀ a ∈ fpt kd_ mr, a ∉ fpt hd m1 ∧ a ∉ fpt md mm1 ∧ a ∉ fpt hq mq := fun a h => ⟨no_new (A1.same sq).mo (newk a h), no_new B8 (newk a h), no_new Aq.mo (newk a h)⟩
      have ndm : Nd M1 := by rw [← e1]; exact A1.mo.nd
      have eqrefl : eqM M1 M1 = true := (eqM_iff ndm ndm).mpr (SameM.refl _)
      -- the twin is equal
      refine ⟨_, rfl, _, rfl, q, dq, _, .ref C, rfl, Aq2.ins, TI.ty A2.ins, nC, q, dq, hq, mq, _, rfl, Aq2, .inl ⟨p, dx, hd, m1, rfl, A2, apart (fun a h => (x1q a h).1), ?_⟩⟩
      rw [eqp, e1, eqrefl]
      refine ⟨true, rfl, _, rfl, iteF ?_⟩
      -- one built anew is equal
      refine ⟨_, rfl, _, rfl, d, st, md, mm1, rfl, D9, B2, by rw [e1']; exact g1.2, by rw [e1']; exact g1.1, by omega, fun z Mz H10 Wz smz => ?_⟩
      obtain ⟨dz, hz, mz, Az, ez, D10, K10, fz, nz⟩ := Wz
      have A10 := PlAkp A2 D9 K10
      have B10 := MoA.kp B2 D9 K10
      have Aq10 := PlAkp Aq2 D9 K10
      have Bk10 := MoA.kp Bk D9 K10
      have eqz : eqM (pur mz) (pur m1) = true := (eqM_iff Az.mo.nd A10.mo.nd).mpr (by rw [ez, e1, ← e1']; exact smz)
      refine ⟨_, rfl, z, dz, _, .ref C, rfl, Az.ins, TI.ty A10.ins, nC, z, dz, hz, mz, _, rfl, Az, .inl ⟨p, dx, hd, m1, rfl, A10, apart (fun a h => no_new A2.mo (fz a h)), ?_⟩⟩
      rw [eqz]
      refine ⟨true, rfl, _, rfl, iteF ?_⟩
      -- a dict and an int are not
      refine ⟨_, rfl, _, rfl, p, dx, _, .type "dict", rfl, A10.ins, .base (.base (.dK B10.held)), nd, p, dx, hd, m1, _, rfl, A10, .inr ⟨_, .base (.base (.dK B10.held)), kd, ?_⟩⟩
      refine ⟨false, rfl, _, rfl, iteF ?_⟩
      refine ⟨_, rfl, p, dx, _, .type "int", rfl, A10.ins, .base (.base (.int 5)), ni, p, dx, hd, m1, _, rfl, A10, .inr ⟨_, .base (.base (.int 5)), ki, ?_⟩⟩
      refine ⟨false, rfl, _, rfl, iteF ?_⟩
      have tl10 := K10 _ _ tl9 tld tls
      -- the odd one
      refine ⟨_, rfl, tl, _, rfl, .inl (SqL.of tl10), rfl, flats_str ts, _, rfl, ?_⟩
      show if (!inV (.str "other") (ts.map V.str)) = true then _ else _
      cases hin : inV (.str "other") (ts.map V.str) with
      | true =>
        refine iteF ?_
        have AR := A10
        have BR := B10
        have AqR := Aq10
        have BkR := Bk10
        have DR := D10
        have tlR := tl10
        -- four more operations
        refine ⟨_, rfl, _, rfl, _, rfl, _, rfl, tcs (tns ⟨fun w => TitleS w ∧ w ∈ ts, d, st, tl, p, md, dx, hd, ts, m1, mm1, M1, 4, rfl, DR, tld, tls, tlR, hl, fun w hw => ⟨ht w hw, hw⟩, fun w h => h.1, AR, BR, e1, e1', dj1, g1, n1, by omega, fun m2 mm2 M2 H13 A13 B13 e2 e2' dj2 D13 g2 n2 l2 fr13 fp13 => ?_⟩)⟩
        have k13 : Keeps (d :: st :: (fpt hd m1 ++ fpt md mm1)) _ H13 := keep_of fr13
        have Aq13 := AqR.keep k13 (off_S AR.mo BR DR AqR.ins (fun _ z => by cases z) (no_fpt AR.mo AqR.ins (fun _ z => by cases z)) (no_fpt BR AqR.ins (fun _ z => by cases z))) (fun b hb => off_D AR.mo BR DR AqR.mo hb (x1q b hb).1 (x1q b hb).2)
        have Bk13 := BkR.keep k13 (fun b hb => off_D AR.mo BR DR BkR hb (x1k b hb).1 (x1k b hb).2.1)
        have x2 : ∀ b, b ∈ fpt hd m2 ∨ b ∈ fpt md mm2 → b ∉ fpt hq mq ∧ b ∉ fpt kd_ mr := fun b hb => by
          rcases fp13 b hb with h | h | h
          · exact ⟨fun z => (x1q b z).1 h, fun z => (x1k b z).1 h⟩
          · exact ⟨fun z => (x1q b z).2 h, fun z => (x1k b z).2.1 h⟩
          · exact ⟨no_new AqR.mo h, no_new BkR h⟩
        have tl13 : H13 tl = some (.lst (ts.map V.str)) := fr13 _ _ tlR tld tls (no_fpt AR.mo tlR (fun _ z => by cases z)) (no_fpt BR tlR (fun _ z => by cases z))
        refine ⟨_, rfl, _, rfl, q, kd_, dq, hq, mq, mr, rfl, Aq13, Bk13, eqp.trans ekp.symm, fun b h1 h2 => (x1k b h2).2.2 h1, by rw [eqp]; exact g1.1, by rw [eqp]; exact fun s e => (n1 s e).1, fun Y1 y1 => ⟨_, rfl, iteF ?_⟩⟩
        have AY := A13.same y1
        have BY := B13.same y1
        have AqY := Aq13.same y1
        have BkY := Bk13.same y1
        have DY := D13.same y1
        have tlY := y1 _ _ tl13
        refine ⟨_, rfl, _, rfl, q, dq, _, .ref C, rfl, AqY.ins, TI.ty AY.ins, nC, q, dq, hq, mq, _, rfl, AqY, .inl ⟨p, dx, hd, m2, rfl, AY, apart (fun b hb z => (x2 b (.inl z)).1 hb), ?_⟩⟩
        refine ⟨_, rfl, ?_⟩
        refine ⟨_, rfl, _, rfl, kd_, md, mr, mm2, rfl, rfl, BkY.held, BY.held, BkY.inner, BY.inner, apart (fun b hb z => (x2 b (.inr z)).2 hb), rfl, _, rfl, ?_⟩
        rw [eqp, e2, ekp, e2', if_neg Bool.false_ne_true, decide_eq_true rfl]
        refine iteF ?_
        -- four through the copies
        refine ⟨_, rfl, _, rfl, _, rfl, _, rfl, tcs (tns ⟨fun w => TitleS w ∧ w ∈ ts, d, st, tl, q, kd_, dq, hq, ts, mq, mr, M1, 4, rfl, DY, tld, tls, tlY, hl, fun w hw => ⟨ht w hw, hw⟩, fun w h => h.1, AqY, BkY, eqp, ekp, fun b h1 h2 => (x1k b h2).2.2 h1, g1, n1, by omega, fun m3 mm3 M3 H14 Aq14 Bk14 e3 e3' dj3 D14 g3 n3 l3 fr14 fp14 => ?_⟩)⟩
        have k14 : Keeps (d :: st :: (fpt hq mq ++ fpt kd_ mr)) _ H14 := keep_of fr14
        have A14 := AY.keep k14 (off_S AqY.mo BkY DY AY.ins (fun _ z => by cases z) (no_fpt AqY.mo AY.ins (fun _ z => by cases z)) (no_fpt BkY AY.ins (fun _ z => by cases z))) (fun b hb => off_D AqY.mo BkY DY AY.mo hb (x2 b (.inl hb)).1 (x2 b (.inl hb)).2)
        have B14 := BY.keep k14 (fun b hb => off_D AqY.mo BkY DY BY hb (x2 b (.inr hb)).1 (x2 b (.inr hb)).2)
        have x3 : ∀ b, b ∈ fpt hq m3 ∨ b ∈ fpt kd_ mm3 → b ∉ fpt hd m2 ∧ b ∉ fpt md mm2 := fun b hb => by
          rcases fp14 b hb with h | h | h
          · exact ⟨fun z => (x2 b (.inl z)).1 h, fun z => (x2 b (.inr z)).1 h⟩
          · exact ⟨fun z => (x2 b (.inl z)).2 h, fun z => (x2 b (.inr z)).2 h⟩
          · exact ⟨no_new AY.mo h, no_new BY h⟩
        refine ⟨_, rfl, _, rfl, p, md, dx, hd, m2, mm2, rfl, A14, B14, e2.trans e2'.symm, dj2, by rw [e2]; exact g2.1, by rw [e2]; exact fun s e => (n2 s e).1, fun Y2 y2 => ⟨_, rfl, iteF ?_⟩⟩
        refine ⟨_, rfl, _, rfl, q, kd_, dq, hq, m3, mm3, rfl, Aq14.same y2, Bk14.same y2, e3.trans e3'.symm, dj3, by rw [e3]; exact g3.1, by rw [e3]; exact fun s e => (n3 s e).1, fun Y3 y3 => ⟨_, rfl, iteF ?_⟩⟩
        have y23 := y2.trans y3
        have AZ := A14.same y23
        have BZ := B14.same y23
        have AqZ := Aq14.same y23
        have BkZ := Bk14.same y23
        refine ⟨_, rfl, _, rfl, p, dx, _, .ref C, rfl, AZ.ins, TI.ty AqZ.ins, nC, p, dx, hd, m2, _, rfl, AZ, .inl ⟨q, dq, hq, m3, rfl, AqZ, apart (fun b hb z => (x3 b (.inl z)).1 hb), ?_⟩⟩
        refine ⟨_, rfl, ?_⟩
        refine ⟨_, rfl, _, rfl, kd_, md, mm3, mm2, rfl, rfl, BkZ.held, BZ.held, BkZ.inner, BZ.inner, apart (fun b hb => (x3 b (.inr hb)).2), rfl, _, rfl, ?_⟩
        have both : eqM (pur m2) (pur m3) = eqM (pur mm3) (pur mm2) := by
          rw [e2, e3, e3', e2']
          have nd2 : Nd M2 := by rw [← e2]; exact AZ.mo.nd
          have nd3 : Nd M3 := by rw [← e3]; exact AqZ.mo.nd
          rw [Bool.eq_iff_iff, eqM_iff nd2 nd3, eqM_iff nd3 nd2]
          exact ⟨SameM.symm, SameM.symm⟩
        rw [both, if_neg Bool.false_ne_true, decide_eq_true rfl]
        refine iteF ?_
        exact ⟨_, _, _, _, _, _, _, rfl, D14.same y23⟩

      | false =>
        refine iteT ?_
        have noo : lk (pur mm1) "other" = none := by
          cases qq : lk (pur mm1) "other" with
          | none => rfl
          | some dd =>
            have := (n1 "other" (by rw [← e1', qq]; rfl)).2
            rw [inV_str, decide_eq_false_iff_not] at hin
            exact absurd this hin
        refine ⟨_, rfl, _, rfl, _, rfl, _, rfl, d, st, md, mm1, rfl, D10, B10, by rw [e1']; exact g1.2, by rw [e1']; exact g1.1, noo, by omega, fun ho mo H11 Mo D11 K11 nvo gCo lmo nsame => ?_⟩
        refine ⟨d, st, ho, mo, rfl, D11, Mo, nvo, gCo, by omega, fun z2 Mz2 H12 Wz2 smz2 => ?_⟩
        obtain ⟨dz2, hz2, mz2, Az2, ez2, D12, K12, fz2, nz2⟩ := Wz2
        have K1012 := K11.trans K12
        have AR := PlAkp (PlAkp A10 D10 K11) D11 K12
        have BR := MoA.kp (MoA.kp B10 D10 K11) D11 K12
        have AqR := PlAkp (PlAkp Aq10 D10 K11) D11 K12
        have BkR := MoA.kp (MoA.kp Bk10 D10 K11) D11 K12
        have DR := D12
        have tlR := K1012 _ _ tl10 tld tls
        have neq : eqM (pur m1) (pur mz2) = false := by
          rw [Bool.eq_false_iff]
          intro h
          have := (eqM_iff AR.mo.nd Az2.mo.nd).mp h
          rw [ez2, e1, ← e1'] at this
          exact nsame (this.trans smz2)
        refine ⟨p, dx, _, .ref C, rfl, AR.ins, TI.ty Az2.ins, nC, p, dx, hd, m1, _, rfl, AR, .inl ⟨z2, dz2, hz2, mz2, rfl, Az2, apart (fun b hb z => no_new (PlAkp A10 D10 K11).mo (fz2 b z) hb), ?_⟩⟩
        rw [neq]
        refine ⟨false, rfl, _, rfl, iteF ?_⟩
        -- four more operations
        refine ⟨_, rfl, _, rfl, _, rfl, _, rfl, tcs (tns ⟨fun w => TitleS w ∧ w ∈ ts, d, st, tl, p, md, dx, hd, ts, m1, mm1, M1, 4, rfl, DR, tld, tls, tlR, hl, fun w hw => ⟨ht w hw, hw⟩, fun w h => h.1, AR, BR, e1, e1', dj1, g1, n1, by omega, fun m2 mm2 M2 H13 A13 B13 e2 e2' dj2 D13 g2 n2 l2 fr13 fp13 => ?_⟩)⟩
        have k13 : Keeps (d :: st :: (fpt hd m1 ++ fpt md mm1)) _ H13 := keep_of fr13
        have Aq13 := AqR.keep k13 (off_S AR.mo BR DR AqR.ins (fun _ z => by cases z) (no_fpt AR.mo AqR.ins (fun _ z => by cases z)) (no_fpt BR AqR.ins (fun _ z => by cases z))) (fun b hb => off_D AR.mo BR DR AqR.mo hb (x1q b hb).1 (x1q b hb).2)
        have Bk13 := BkR.keep k13 (fun b hb => off_D AR.mo BR DR BkR hb (x1k b hb).1 (x1k b hb).2.1)
        have x2 : ∀ b, b ∈ fpt hd m2 ∨ b ∈ fpt md mm2 → b ∉ fpt hq mq ∧ b ∉ fpt kd_ mr := fun b hb => by
          rcases fp13 b hb with h | h | h
          · exact ⟨fun z => (x1q b z).1 h, fun z => (x1k b z).1 h⟩
          · exact ⟨fun z => (x1q b z).2 h, fun z => (x1k b z).2.1 h⟩
          · exact ⟨no_new AqR.mo h, no_new BkR h⟩
        have tl13 : H13 tl = some (.lst (ts.map V.str)) := fr13 _ _ tlR tld tls (no_fpt AR.mo tlR (fun _ z => by cases z)) (no_fpt BR tlR (fun _ z => by cases z))
        refine ⟨_, rfl, _, rfl, q, kd_, dq, hq, mq, mr, rfl, Aq13, Bk13, eqp.trans ekp.symm, fun b h1 h2 => (x1k b h2).2.2 h1, by rw [eqp]; exact g1.1, by rw [eqp]; exact fun s e => (n1 s e).1, fun Y1 y1 => ⟨_, rfl, iteF ?_⟩⟩
        have AY := A13.same y1
        have BY := B13.same y1
        have AqY := Aq13.same y1
        have BkY := Bk13.same y1
        have DY := D13.same y1
        have tlY := y1 _ _ tl13
        refine ⟨_, rfl, _, rfl, q, dq, _, .ref C, rfl, AqY.ins, TI.ty AY.ins, nC, q, dq, hq, mq, _, rfl, AqY, .inl ⟨p, dx, hd, m2, rfl, AY, apart (fun b hb z => (x2 b (.inl z)).1 hb), ?_⟩⟩
        refine ⟨_, rfl, ?_⟩
        refine ⟨_, rfl, _, rfl, kd_, md, mr, mm2, rfl, rfl, BkY.held, BY.held, BkY.inner, BY.inner, apart (fun b hb z => (x2 b (.inr z)).2 hb), rfl, _, rfl, ?_⟩
        rw [eqp, e2, ekp, e2', if_neg Bool.false_ne_true, decide_eq_true rfl]
        refine iteF ?_
        -- four through the copies
        refine ⟨_, rfl, _, rfl, _, rfl, _, rfl, tcs (tns ⟨fun w => TitleS w ∧ w ∈ ts, d, st, tl, q, kd_, dq, hq, ts, mq, mr, M1, 4, rfl, DY, tld, tls, tlY, hl, fun w hw => ⟨ht w hw, hw⟩, fun w h => h.1, AqY, BkY, eqp, ekp, fun b h1 h2 => (x1k b h2).2.2 h1, g1, n1, by omega, fun m3 mm3 M3 H14 Aq14 Bk14 e3 e3' dj3 D14 g3 n3 l3 fr14 fp14 => ?_⟩)⟩
        have k14 : Keeps (d :: st :: (fpt hq mq ++ fpt kd_ mr)) _ H14 := keep_of fr14
        have A14 := AY.keep k14 (off_S AqY.mo BkY DY AY.ins (fun _ z => by cases z) (no_fpt AqY.mo AY.ins (fun _ z => by cases z)) (no_fpt BkY AY.ins (fun _ z => by cases z))) (fun b hb => off_D AqY.mo BkY DY AY.mo hb (x2 b (.inl hb)).1 (x2 b (.inl hb)).2)
        have B14 := BY.keep k14 (fun b hb => off_D AqY.mo BkY DY BY hb (x2 b (.inr hb)).1 (x2 b (.inr hb)).2)
        have x3 : ∀ b, b ∈ fpt hq m3 ∨ b ∈ fpt kd_ mm3 → b ∉ fpt hd m2 ∧ b ∉ fpt md mm2 := fun b hb => by
          rcases fp14 b hb with h | h | h
          · exact ⟨fun z => (x2 b (.inl z)).1 h, fun z => (x2 b (.inr z)).1 h⟩
          · exact ⟨fun z => (x2 b (.inl z)).2 h, fun z => (x2 b (.inr z)).2 h⟩
          · exact ⟨no_new AY.mo h, no_new BY h⟩
        refine ⟨_, rfl, _, rfl, p, md, dx, hd, m2, mm2, rfl, A14, B14, e2.trans e2'.symm, dj2, by rw [e2]; exact g2.1, by rw [e2]; exact fun s e => (n2 s e).1, fun Y2 y2 => ⟨_, rfl, iteF ?_⟩⟩
        refine ⟨_, rfl, _, rfl, q, kd_, dq, hq, m3, mm3, rfl, Aq14.same y2, Bk14.same y2, e3.trans e3'.symm, dj3, by rw [e3]; exact g3.1, by rw [e3]; exact fun s e => (n3 s e).1, fun Y3 y3 => ⟨_, rfl, iteF ?_⟩⟩
        have y23 := y2.trans y3
        have AZ := A14.same y23
        have BZ := B14.same y23
        have AqZ := Aq14.same y23
        have BkZ := Bk14.same y23
        refine ⟨_, rfl, _, rfl, p, dx, _, .ref C, rfl, AZ.ins, TI.ty AqZ.ins, nC, p, dx, hd, m2, _, rfl, AZ, .inl ⟨q, dq, hq, m3, rfl, AqZ, apart (fun b hb z => (x3 b (.inl z)).1 hb), ?_⟩⟩
        refine ⟨_, rfl, ?_⟩
        refine ⟨_, rfl, _, rfl, kd_, md, mm3, mm2, rfl, rfl, BkZ.held, BZ.held, BkZ.inner, BZ.inner, apart (fun b hb => (x3 b (.inr hb)).2), rfl, _, rfl, ?_⟩
        have both : eqM (pur m2) (pur m3) = eqM (pur mm3) (pur mm2) := by
          rw [e2, e3, e3', e2']
          have nd2 : Nd M2 := by rw [← e2]; exact AZ.mo.nd
          have nd3 : Nd M3 := by rw [← e3]; exact AqZ.mo.nd
          rw [Bool.eq_iff_iff, eqM_iff nd2 nd3, eqM_iff nd3 nd2]
          exact ⟨SameM.symm, SameM.symm⟩
        rw [both, if_neg Bool.false_ne_true, decide_eq_true rfl]
        refine iteF ?_
        exact ⟨_, _, _, _, _, _, _, rfl, D14.same y23⟩

    · rintro σ H' _
      exact fin H'
end
end Bm
set_option maxRecDepth 100000
set_option maxHeartbeats 4000000
namespace Bm
open PySem L2 L3 Pm
abbrev sXS : Stmt := inClass (top 5) 0
abbrev sXT : Stmt := inClass (top 6) 0
abbrev sXL : Stmt := inClass (top 7) 0
abbrev sXU : Stmt := inClass (top 8) 0
theorem ok_excCS {P : Program} {w : World} {K : PySem.W.Frag} {mg : Str → Option Value} {base : Heap} {CN cc cda f : Addr} {dV kV doc pm ct oc : Value} {od an : Option Addr} {osl : Array (Option Value)} (S : SupT P K mg CN cc cda "NoSpace.__init__") (hno : PySem.W.findIn K (.ref CN) "name" = some none)
    (lk : K.lookup f = some ⟨oc, od, .func (PySem.W.ksFn "__init__" "NoSpace.__init__" (defArgs sXS) (defBody sXS) (defScope sXS) dV kV doc pm an (.ref cda) ct cc), osl⟩) :
    FnOk P w K mg base CX0 1 f (PySem.W.ksFn "__init__" "NoSpace.__init__" (defArgs sXS) (defBody sXS) (defScope sXS) dV kV doc pm an (.ref cda) ct cc) ["self", "name"] (spSup CN "name") :=
  ok_sup (x := "name") S hno lk rfl rfl (by decide +kernel) (by decide +kernel) rfl rfl rfl rfl rfl (by decide +kernel) rfl rfl (fun _ => rfl) (fun _ => rfl) (fun _ => rfl) (fun _ => rfl)
theorem ok_excCT {P : Program} {w : World} {K : PySem.W.Frag} {mg : Str → Option Value} {base : Heap} {CN cc cda f : Addr} {dV kV doc pm ct oc : Value} {od an : Option Addr} {osl : Array (Option Value)} (S : SupT P K mg CN cc cda "Taken.__init__") (hno : PySem.W.findIn K (.ref CN) "name" = some none)
    (lk : K.lookup f = some ⟨oc, od, .func (PySem.W.ksFn "__init__" "Taken.__init__" (defArgs sXT) (defBody sXT) (defScope sXT) dV kV doc pm an (.ref cda) ct cc), osl⟩) :
    FnOk P w K mg base CX0 1 f (PySem.W.ksFn "__init__" "Taken.__init__" (defArgs sXT) (defBody sXT) (defScope sXT) dV kV doc pm an (.ref cda) ct cc) ["self", "name"] (spSup CN "name") :=
  ok_sup (x := "name") S hno lk rfl rfl (by decide +kernel) (by decide +kernel) rfl rfl rfl rfl rfl (by decide +kernel) rfl rfl (fun _ => rfl) (fun _ => rfl) (fun _ => rfl) (fun _ => rfl)
theorem ok_excCL {P : Program} {w : World} {K : PySem.W.Frag} {mg : Str → Option Value} {base : Heap} {CN cc cda f : Addr} {dV kV doc pm ct oc : Value} {od an : Option Addr} {osl : Array (Option Value)} (S : SupT P K mg CN cc cda "NoPlace.__init__") (hno : PySem.W.findIn K (.ref CN) "place" = some none)
    (lk : K.lookup f = some ⟨oc, od, .func (PySem.W.ksFn "__init__" "NoPlace.__init__" (defArgs sXL) (defBody sXL) (defScope sXL) dV kV doc pm an (.ref cda) ct cc), osl⟩) :
    FnOk P w K mg base CX0 1 f (PySem.W.ksFn "__init__" "NoPlace.__init__" (defArgs sXL) (defBody sXL) (defScope sXL) dV kV doc pm an (.ref cda) ct cc) ["self", "place"] (spSup CN "place") :=
  ok_sup (x := "place") S hno lk rfl rfl (by decide +kernel) (by decide +kernel) rfl rfl rfl rfl rfl (by decide +kernel) rfl rfl (fun _ => rfl) (fun _ => rfl) (fun _ => rfl) (fun _ => rfl)
theorem ok_excCU {P : Program} {w : World} {K : PySem.W.Frag} {mg : Str → Option Value} {base : Heap} {CN cc cda f : Addr} {dV kV doc pm ct oc : Value} {od an : Option Addr} {osl : Array (Option Value)} (S : SupT P K mg CN cc cda "Used.__init__") (hno : PySem.W.findIn K (.ref CN) "place" = some none)
    (lk : K.lookup f = some ⟨oc, od, .func (PySem.W.ksFn "__init__" "Used.__init__" (defArgs sXU) (defBody sXU) (defScope sXU) dV kV doc pm an (.ref cda) ct cc), osl⟩) :
    FnOk P w K mg base CX0 1 f (PySem.W.ksFn "__init__" "Used.__init__" (defArgs sXU) (defBody sXU) (defScope sXU) dV kV doc pm an (.ref cda) ct cc) ["self", "place"] (spSup CN "place") :=
  ok_sup (x := "place") S hno lk rfl rfl (by decide +kernel) (by decide +kernel) rfl rfl rfl rfl rfl (by decide +kernel) rfl rfl (fun _ => rfl) (fun _ => rfl) (fun _ => rfl) (fun _ => rfl)
theorem all_mk {l : PySem.W.OpenLaw} {w : World} {K : PySem.W.Frag} {h : Heap} {mg : Str → Option Value} {fa : Addr} (X : K.In h) (G : h.Ns mainGlobals mg) (hfa : mg "law" = some (.ref fa))
    {tPL : Tok} {tLE : Tok} {tML : Tok} {tMC : Tok} {C : Addr} {fII : Addr} {odII anII : Option Addr} {slII : Array (Option Value)} {ocII kVII dcII pmII ctII : Value} {cdII : Value} {fIP : Addr} {odIP anIP : Option Addr} {slIP : Array (Option Value)} {ocIP kVIP dcIP pmIP ctIP : Value} {cdIP : Value} {fIS : Addr} {odIS anIS : Option Addr} {slIS : Array (Option Value)} {ocIS kVIS dcIS pmIS ctIS : Value} {cdIS : Value} {fNS : Addr} {odNS anNS : Option Addr} {slNS : Array (Option Value)} {ocNS kVNS dcNS pmNS ctNS : Value} {cdNS : Value} {fNa : Addr} {odNa anNa : Option Addr} {slNa : Array (Option Value)} {ocNa kVNa dcNa pmNa ctNa : Value} {cdNa : Value} {fNN : Addr} {odNN anNN : Option Addr} {slNN : Array (Option Value)} {ocNN kVNN dcNN pmNN ctNN : Value} {cdNN : Value} {fIC : Addr} {odIC anIC : Option Addr} {slIC : Array (Option Value)} {ocIC kVIC dcIC pmIC ctIC : Value} {cdIC : Value} {fNC : Addr} {odNC anNC : Option Addr} {slNC : Array (Option Value)} {ocNC kVNC dcNC pmNC ctNC : Value} {cdNC : Value} {fSt : Addr} {odSt anSt : Option Addr} {slSt : Array (Option Value)} {ocSt kVSt dcSt pmSt ctSt : Value} {cdSt : Value} {fDr : Addr} {odDr anDr : Option Addr} {slDr : Array (Option Value)} {ocDr kVDr dcDr pmDr ctDr : Value} {cdDr : Value} {fPi : Addr} {odPi anPi : Option Addr} {slPi : Array (Option Value)} {ocPi kVPi dcPi pmPi ctPi : Value} {cdPi : Value} {fWh : Addr} {odWh anWh : Option Addr} {slWh : Array (Option Value)} {ocWh kVWh dcWh pmWh ctWh : Value} {cdWh : Value} {fLS : Addr} {odLS anLS : Option Addr} {slLS : Array (Option Value)} {ocLS kVLS dcLS pmLS ctLS : Value} {cdLS : Value} {fLN : Addr} {odLN anLN : Option Addr} {slLN : Array (Option Value)} {ocLN kVLN dcLN pmLN ctLN : Value} {cdLN : Value} {fNwF : Addr} {odNwF anNwF : Option Addr} {slNwF : Array (Option Value)} {ocNwF kVNwF dcNwF pmNwF ctNwF : Value} {cdNwF : Value} {fFa : Addr} {odFa anFa : Option Addr} {slFa : Array (Option Value)} {ocFa kVFa dcFa pmFa ctFa : Value} {cdFa : Value} {fDo : Addr} {odDo anDo : Option Addr} {slDo : Array (Option Value)} {ocDo kVDo dcDo pmDo ctDo : Value} {cdDo : Value} {fAs : Addr} {odAs anAs : Option Addr} {slAs : Array (Option Value)} {ocAs kVAs dcAs pmAs ctAs : Value} {cdAs : Value} {fTi : Addr} {odTi anTi : Option Addr} {slTi : Array (Option Value)} {ocTi kVTi dcTi pmTi ctTi : Value} {cdTi : Value} {fRo : Addr} {odRo anRo : Option Addr} {slRo : Array (Option Value)} {ocRo kVRo dcRo pmRo ctRo : Value} {cdRo : Value} {fSa : Addr} {odSa anSa : Option Addr} {slSa : Array (Option Value)} {ocSa kVSa dcSa pmSa ctSa : Value} {cdSa : Value} {fLa : Addr} {odLa anLa : Option Addr} {slLa : Array (Option Value)} {ocLa kVLa dcLa pmLa ctLa : Value} {cdLa : Value} {fMx : Addr} {odMx anMx : Option Addr} {slMx : Array (Option Value)} {ocMx kVMx dcMx pmMx ctMx : Value} {cdMx : Value} {fLed : Addr} {odLed anLed : Option Addr} {slLed : Array (Option Value)} {ocLed kVLed dcLed pmLed ctLed : Value} {cdLed : Value} {fReb : Addr} {odReb anReb : Option Addr} {slReb : Array (Option Value)} {ocReb kVReb dcReb pmReb ctReb : Value} {cdReb : Value} {fOd : Addr} {odOd anOd : Option Addr} {slOd : Array (Option Value)} {ocOd kVOd dcOd pmOd ctOd : Value} {cdOd : Value} {fEq : Addr} {odEq anEq : Option Addr} {slEq : Array (Option Value)} {ocEq kVEq dcEq pmEq ctEq : Value} {cdEq : Value} {fCop : Addr} {odCop anCop : Option Addr} {slCop : Array (Option Value)} {ocCop kVCop dcCop pmCop ctCop : Value} {cdCop : Value} {fIn : Addr} {odIn anIn : Option Addr} {slIn : Array (Option Value)} {ocIn kVIn dcIn pmIn ctIn : Value} {cdIn : Value} {fIns : Addr} {odIns anIns : Option Addr} {slIns : Array (Option Value)} {ocIns kVIns dcIns pmIns ctIns : Value} {cdIns : Value} {fAdd : Addr} {odAdd anAdd : Option Addr} {slAdd : Array (Option Value)} {ocAdd kVAdd dcAdd pmAdd ctAdd : Value} {cdAdd : Value} {fDro : Addr} {odDro anDro : Option Addr} {slDro : Array (Option Value)} {ocDro kVDro dcDro pmDro ctDro : Value} {cdDro : Value} {fMap : Addr} {odMap anMap : Option Addr} {slMap : Array (Option Value)} {ocMap kVMap dcMap pmMap ctMap : Value} {cdMap : Value} {fNF : Addr} {odNF anNF : Option Addr} {slNF : Array (Option Value)} {ocNF kVNF dcNF pmNF ctNF : Value} {cdNF : Value} {fUnm : Addr} {odUnm anUnm : Option Addr} {slUnm : Array (Option Value)} {ocUnm kVUnm dcUnm pmUnm ctUnm : Value} {cdUnm : Value} {fFor : Addr} {odFor anFor : Option Addr} {slFor : Array (Option Value)} {ocFor kVFor dcFor pmFor ctFor : Value} {cdFor : Value} {fMov : Addr} {odMov anMov : Option Addr} {slMov : Array (Option Value)} {ocMov kVMov dcMov pmMov ctMov : Value} {cdMov : Value} {fNPl : Addr} {odNPl anNPl : Option Addr} {slNPl : Array (Option Value)} {ocNPl kVNPl dcNPl pmNPl ctNPl : Value} {cdNPl : Value} {fWri : Addr} {odWri anWri : Option Addr} {slWri : Array (Option Value)} {ocWri kVWri dcWri pmWri ctWri : Value} {cdWri : Value} {fRea : Addr} {odRea anRea : Option Addr} {slRea : Array (Option Value)} {ocRea kVRea dcRea pmRea ctRea : Value} {cdRea : Value} {fSpa : Addr} {odSpa anSpa : Option Addr} {slSpa : Array (Option Value)} {ocSpa kVSpa dcSpa pmSpa ctSpa : Value} {cdSpa : Value} {fPla : Addr} {odPla anPla : Option Addr} {slPla : Array (Option Value)} {ocPla kVPla dcPla pmPla ctPla : Value} {cdPla : Value} {CBN : Addr} {CB : Addr} {CV : Addr} {CS : Addr} {nmCS qnCS : Str} {NNCS : Addr} {bsCS bmCS : List Value} {snCS : List Str} {subCS : List Value} {abCS : Bool} {colCS : Option Bool} {ddCS : Option Addr} {k0CS k1CS k2CS k3CS k5CS : Option Value} {ccCS cdaCS : Addr} {fICS : Addr} {ocICS kVCS dcCS pmCS ctCS : Value} {odICS anCS : Option Addr} {slICS : Array (Option Value)} {occCS : Value} {odcCS : Option Addr} {vsCS : Array Value} {slcCS : Array (Option Value)} {fileCS : Str} {tfCS : Tok} {clCS : Value} {cldCS : Option Addr} {cslCS : Array (Option Value)} {cdCCS : ClassData} {CT : Addr} {nmCT qnCT : Str} {NNCT : Addr} {bsCT bmCT : List Value} {snCT : List Str} {subCT : List Value} {abCT : Bool} {colCT : Option Bool} {ddCT : Option Addr} {k0CT k1CT k2CT k3CT k5CT : Option Value} {ccCT cdaCT : Addr} {fICT : Addr} {ocICT kVCT dcCT pmCT ctCT : Value} {odICT anCT : Option Addr} {slICT : Array (Option Value)} {occCT : Value} {odcCT : Option Addr} {vsCT : Array Value} {slcCT : Array (Option Value)} {fileCT : Str} {tfCT : Tok} {clCT : Value} {cldCT : Option Addr} {cslCT : Array (Option Value)} {cdCCT : ClassData} {CL : Addr} {nmCL qnCL : Str} {NNCL : Addr} {bsCL bmCL : List Value} {snCL : List Str} {subCL : List Value} {abCL : Bool} {colCL : Option Bool} {ddCL : Option Addr} {k0CL k1CL k2CL k3CL k5CL : Option Value} {ccCL cdaCL : Addr} {fICL : Addr} {ocICL kVCL dcCL pmCL ctCL : Value} {odICL anCL : Option Addr} {slICL : Array (Option Value)} {occCL : Value} {odcCL : Option Addr} {vsCL : Array Value} {slcCL : Array (Option Value)} {fileCL : Str} {tfCL : Tok} {clCL : Value} {cldCL : Option Addr} {cslCL : Array (Option Value)} {cdCCL : ClassData} {CU : Addr} {nmCU qnCU : Str} {NNCU : Addr} {bsCU bmCU : List Value} {snCU : List Str} {subCU : List Value} {abCU : Bool} {colCU : Option Bool} {ddCU : Option Addr} {k0CU k1CU k2CU k3CU k5CU : Option Value} {ccCU cdaCU : Addr} {fICU : Addr} {ocICU kVCU dcCU pmCU ctCU : Value} {odICU anCU : Option Addr} {slICU : Array (Option Value)} {occCU : Value} {odcCU : Option Addr} {vsCU : Array Value} {slcCU : Array (Option Value)} {fileCU : Str} {tfCU : Tok} {clCU : Value} {cldCU : Option Addr} {cslCU : Array (Option Value)} {cdCCU : ClassData}
    (zint : PySem.W.nsIn K mainGlobals "int" = some none)
    (zlen : PySem.W.nsIn K mainGlobals "len" = some none)
    (zabs : PySem.W.nsIn K mainGlobals "abs" = some none)
    (zisinstance : PySem.W.nsIn K mainGlobals "isinstance" = some none)
    (zbool : PySem.W.nsIn K mainGlobals "bool" = some none)
    (zstr : PySem.W.nsIn K mainGlobals "str" = some none)
    (zall : PySem.W.nsIn K mainGlobals "all" = some none)
    (zrange : PySem.W.nsIn K mainGlobals "range" = some none)
    (zdict : PySem.W.nsIn K mainGlobals "dict" = some none)
    (zsorted : PySem.W.nsIn K mainGlobals "sorted" = some none)
    (zsuper : PySem.W.nsIn K mainGlobals "super" = some none)
    (zrepr : PySem.W.nsIn K mainGlobals "repr" = some none)
    (zlist : PySem.W.nsIn K mainGlobals "list" = some none)
    (zmax : PySem.W.nsIn K mainGlobals "max" = some none)
    (zValueError : PySem.W.nsIn K mainGlobals "ValueError" = some none)
    (aPL : PySem.W.nsIn K mainGlobals "PLACES" = some (some (.int 10000 tPL)))
    (aLE : PySem.W.nsIn K mainGlobals "LETTERS" = some (some (.str LET tLE)))
    (aML : PySem.W.nsIn K mainGlobals "MOST_LETTERS" = some (some (.int 8 tML)))
    (aMC : PySem.W.nsIn K mainGlobals "MOST_CONTENTS" = some (some (.int 1000000 tMC)))
    (aC : PySem.W.nsIn K mainGlobals "Plain" = some (some (.ref C)))
    (aII : PySem.W.nsIn K mainGlobals "is_integer" = some (some (.ref fII)))
    (lII : K.lookup fII = some ⟨ocII, odII, .func (PySem.W.fnOf "is_integer" "is_integer" (defArgs sIsInt) (defBody sIsInt) (defScope sIsInt) .none kVII dcII pmII anII cdII ctII), slII⟩)
    (cII : PySem.W.codeIn K cdII "is_integer" = true)
    (kII : PySem.W.keepIn K (.ref fII) = true)
    (aIP : PySem.W.nsIn K mainGlobals "is_place" = some (some (.ref fIP)))
    (lIP : K.lookup fIP = some ⟨ocIP, odIP, .func (PySem.W.fnOf "is_place" "is_place" (defArgs sIsPlace) (defBody sIsPlace) (defScope sIsPlace) .none kVIP dcIP pmIP anIP cdIP ctIP), slIP⟩)
    (cIP : PySem.W.codeIn K cdIP "is_place" = true)
    (kIP : PySem.W.keepIn K (.ref fIP) = true)
    (aIS : PySem.W.nsIn K mainGlobals "is_stretch" = some (some (.ref fIS)))
    (lIS : K.lookup fIS = some ⟨ocIS, odIS, .func (PySem.W.fnOf "is_stretch" "is_stretch" (defArgs sIsStretch) (defBody sIsStretch) (defScope sIsStretch) .none kVIS dcIS pmIS anIS cdIS ctIS), slIS⟩)
    (cIS : PySem.W.codeIn K cdIS "is_stretch" = true)
    (kIS : PySem.W.keepIn K (.ref fIS) = true)
    (aNS : PySem.W.nsIn K mainGlobals "need_stretch" = some (some (.ref fNS)))
    (lNS : K.lookup fNS = some ⟨ocNS, odNS, .func (PySem.W.fnOf "need_stretch" "need_stretch" (defArgs sNeed) (defBody sNeed) (defScope sNeed) .none kVNS dcNS pmNS anNS cdNS ctNS), slNS⟩)
    (cNS : PySem.W.codeIn K cdNS "need_stretch" = true)
    (kNS : PySem.W.keepIn K (.ref fNS) = true)
    (aNa : PySem.W.nsIn K mainGlobals "is_name" = some (some (.ref fNa)))
    (lNa : K.lookup fNa = some ⟨ocNa, odNa, .func (PySem.W.fnOf "is_name" "is_name" (defArgs sName) (defBody sName) (defScope sName) .none kVNa dcNa pmNa anNa cdNa ctNa), slNa⟩)
    (cNa : PySem.W.codeIn K cdNa "is_name" = true)
    (kNa : PySem.W.keepIn K (.ref fNa) = true)
    (aNN : PySem.W.nsIn K mainGlobals "need_new" = some (some (.ref fNN)))
    (lNN : K.lookup fNN = some ⟨ocNN, odNN, .func (PySem.W.fnOf "need_new" "need_new" (defArgs sNew) (defBody sNew) (defScope sNew) .none kVNN dcNN pmNN anNN cdNN ctNN), slNN⟩)
    (cNN : PySem.W.codeIn K cdNN "need_new" = true)
    (kNN : PySem.W.keepIn K (.ref fNN) = true)
    (aIC : PySem.W.nsIn K mainGlobals "is_contents" = some (some (.ref fIC)))
    (lIC : K.lookup fIC = some ⟨ocIC, odIC, .func (PySem.W.fnOf "is_contents" "is_contents" (defArgs sCont) (defBody sCont) (defScope sCont) .none kVIC dcIC pmIC anIC cdIC ctIC), slIC⟩)
    (cIC : PySem.W.codeIn K cdIC "is_contents" = true)
    (kIC : PySem.W.keepIn K (.ref fIC) = true)
    (aNC : PySem.W.nsIn K mainGlobals "need_contents" = some (some (.ref fNC)))
    (lNC : K.lookup fNC = some ⟨ocNC, odNC, .func (PySem.W.fnOf "need_contents" "need_contents" (defArgs sNCont) (defBody sNCont) (defScope sNCont) .none kVNC dcNC pmNC anNC cdNC ctNC), slNC⟩)
    (cNC : PySem.W.codeIn K cdNC "need_contents" = true)
    (kNC : PySem.W.keepIn K (.ref fNC) = true)
    (aSt : PySem.W.nsIn K mainGlobals "_law_state" = some (some (.ref fSt)))
    (lSt : K.lookup fSt = some ⟨ocSt, odSt, .func (PySem.W.fnOf "_law_state" "_law_state" (defArgs sState) (defBody sState) (defScope sState) .none kVSt dcSt pmSt anSt cdSt ctSt), slSt⟩)
    (cSt : PySem.W.codeIn K cdSt "_law_state" = true)
    (kSt : PySem.W.keepIn K (.ref fSt) = true)
    (aDr : PySem.W.nsIn K mainGlobals "_law_draw" = some (some (.ref fDr)))
    (lDr : K.lookup fDr = some ⟨ocDr, odDr, .func (PySem.W.fnOf "_law_draw" "_law_draw" (defArgs sDraw) (defBody sDraw) (defScope sDraw) .none kVDr dcDr pmDr anDr cdDr ctDr), slDr⟩)
    (cDr : PySem.W.codeIn K cdDr "_law_draw" = true)
    (kDr : PySem.W.keepIn K (.ref fDr) = true)
    (aPi : PySem.W.nsIn K mainGlobals "_law_pick" = some (some (.ref fPi)))
    (lPi : K.lookup fPi = some ⟨ocPi, odPi, .func (PySem.W.fnOf "_law_pick" "_law_pick" (defArgs sPick) (defBody sPick) (defScope sPick) .none kVPi dcPi pmPi anPi cdPi ctPi), slPi⟩)
    (cPi : PySem.W.codeIn K cdPi "_law_pick" = true)
    (kPi : PySem.W.keepIn K (.ref fPi) = true)
    (aWh : PySem.W.nsIn K mainGlobals "_law_is_whole" = some (some (.ref fWh)))
    (lWh : K.lookup fWh = some ⟨ocWh, odWh, .func (PySem.W.fnOf "_law_is_whole" "_law_is_whole" (defArgs sWhole) (defBody sWhole) (defScope sWhole) .none kVWh dcWh pmWh anWh cdWh ctWh), slWh⟩)
    (cWh : PySem.W.codeIn K cdWh "_law_is_whole" = true)
    (kWh : PySem.W.keepIn K (.ref fWh) = true)
    (aLS : PySem.W.nsIn K mainGlobals "_law_is_stretch" = some (some (.ref fLS)))
    (lLS : K.lookup fLS = some ⟨ocLS, odLS, .func (PySem.W.fnOf "_law_is_stretch" "_law_is_stretch" (defArgs sLStretch) (defBody sLStretch) (defScope sLStretch) .none kVLS dcLS pmLS anLS cdLS ctLS), slLS⟩)
    (cLS : PySem.W.codeIn K cdLS "_law_is_stretch" = true)
    (kLS : PySem.W.keepIn K (.ref fLS) = true)
    (aLN : PySem.W.nsIn K mainGlobals "_law_is_name" = some (some (.ref fLN)))
    (lLN : K.lookup fLN = some ⟨ocLN, odLN, .func (PySem.W.fnOf "_law_is_name" "_law_is_name" (defArgs sLName) (defBody sLName) (defScope sLName) .none kVLN dcLN pmLN anLN cdLN ctLN), slLN⟩)
    (cLN : PySem.W.codeIn K cdLN "_law_is_name" = true)
    (kLN : PySem.W.keepIn K (.ref fLN) = true)
    (aNwF : PySem.W.nsIn K mainGlobals "_law_new_fault" = some (some (.ref fNwF)))
    (lNwF : K.lookup fNwF = some ⟨ocNwF, odNwF, .func (PySem.W.fnOf "_law_new_fault" "_law_new_fault" (defArgs sNewF) (defBody sNewF) (defScope sNewF) .none kVNwF dcNwF pmNwF anNwF cdNwF ctNwF), slNwF⟩)
    (cNwF : PySem.W.codeIn K cdNwF "_law_new_fault" = true)
    (kNwF : PySem.W.keepIn K (.ref fNwF) = true)
    (aFa : PySem.W.nsIn K mainGlobals "_law_fault" = some (some (.ref fFa)))
    (lFa : K.lookup fFa = some ⟨ocFa, odFa, .func (PySem.W.fnOf "_law_fault" "_law_fault" (defArgs sFault) (defBody sFault) (defScope sFault) .none kVFa dcFa pmFa anFa cdFa ctFa), slFa⟩)
    (cFa : PySem.W.codeIn K cdFa "_law_fault" = true)
    (kFa : PySem.W.keepIn K (.ref fFa) = true)
    (aDo : PySem.W.nsIn K mainGlobals "_law_done" = some (some (.ref fDo)))
    (lDo : K.lookup fDo = some ⟨ocDo, odDo, .func (PySem.W.fnOf "_law_done" "_law_done" (defArgs sDone) (defBody sDone) (defScope sDone) .none kVDo dcDo pmDo anDo cdDo ctDo), slDo⟩)
    (cDo : PySem.W.codeIn K cdDo "_law_done" = true)
    (kDo : PySem.W.keepIn K (.ref fDo) = true)
    (aAs : PySem.W.nsIn K mainGlobals "_law_asked" = some (some (.ref fAs)))
    (lAs : K.lookup fAs = some ⟨ocAs, odAs, .func (PySem.W.fnOf "_law_asked" "_law_asked" (defArgs sAsked) (defBody sAsked) (defScope sAsked) .none kVAs dcAs pmAs anAs cdAs ctAs), slAs⟩)
    (cAs : PySem.W.codeIn K cdAs "_law_asked" = true)
    (kAs : PySem.W.keepIn K (.ref fAs) = true)
    (aTi : PySem.W.nsIn K mainGlobals "_law_titles" = some (some (.ref fTi)))
    (lTi : K.lookup fTi = some ⟨ocTi, odTi, .func (PySem.W.fnOf "_law_titles" "_law_titles" (defArgs sTitles) (defBody sTitles) (defScope sTitles) .none kVTi dcTi pmTi anTi cdTi ctTi), slTi⟩)
    (cTi : PySem.W.codeIn K cdTi "_law_titles" = true)
    (kTi : PySem.W.keepIn K (.ref fTi) = true)
    (aRo : PySem.W.nsIn K mainGlobals "_law_row" = some (some (.ref fRo)))
    (lRo : K.lookup fRo = some ⟨ocRo, odRo, .func (PySem.W.fnOf "_law_row" "_law_row" (defArgs sRow) (defBody sRow) (defScope sRow) .none kVRo dcRo pmRo anRo cdRo ctRo), slRo⟩)
    (cRo : PySem.W.codeIn K cdRo "_law_row" = true)
    (kRo : PySem.W.keepIn K (.ref fRo) = true)
    (aSa : PySem.W.nsIn K mainGlobals "_law_same" = some (some (.ref fSa)))
    (lSa : K.lookup fSa = some ⟨ocSa, odSa, .func (PySem.W.fnOf "_law_same" "_law_same" (defArgs sSame) (defBody sSame) (defScope sSame) .none kVSa dcSa pmSa anSa cdSa ctSa), slSa⟩)
    (cSa : PySem.W.codeIn K cdSa "_law_same" = true)
    (kSa : PySem.W.keepIn K (.ref fSa) = true)
    (aLa : PySem.W.nsIn K mainGlobals "law" = some (some (.ref fLa)))
    (lLa : K.lookup fLa = some ⟨ocLa, odLa, .func (PySem.W.fnOf "law" "law" (defArgs sLaw5) (defBody sLaw5) (defScope sLaw5) .none kVLa dcLa pmLa anLa cdLa ctLa), slLa⟩)
    (cLa : PySem.W.codeIn K cdLa "law" = true)
    (kLa : PySem.W.keepIn K (.ref fLa) = true)
    (aMx : PySem.W.nsIn K mainGlobals "_law_mixed" = some (some (.ref fMx)))
    (lMx : K.lookup fMx = some ⟨ocMx, odMx, .func (PySem.W.fnOf "_law_mixed" "_law_mixed" (defArgs sMixed) (defBody sMixed) (defScope sMixed) .none kVMx dcMx pmMx anMx cdMx ctMx), slMx⟩)
    (cMx : PySem.W.codeIn K cdMx "_law_mixed" = true)
    (kMx : PySem.W.keepIn K (.ref fMx) = true)
    (aLed : PySem.W.nsIn K mainGlobals "_law_led" = some (some (.ref fLed)))
    (lLed : K.lookup fLed = some ⟨ocLed, odLed, .func (PySem.W.fnOf "_law_led" "_law_led" (defArgs sLed) (defBody sLed) (defScope sLed) .none kVLed dcLed pmLed anLed cdLed ctLed), slLed⟩)
    (cLed : PySem.W.codeIn K cdLed "_law_led" = true)
    (kLed : PySem.W.keepIn K (.ref fLed) = true)
    (aReb : PySem.W.nsIn K mainGlobals "_law_rebuilt" = some (some (.ref fReb)))
    (lReb : K.lookup fReb = some ⟨ocReb, odReb, .func (PySem.W.fnOf "_law_rebuilt" "_law_rebuilt" (defArgs sRebuilt) (defBody sRebuilt) (defScope sRebuilt) .none kVReb dcReb pmReb anReb cdReb ctReb), slReb⟩)
    (cReb : PySem.W.codeIn K cdReb "_law_rebuilt" = true)
    (kReb : PySem.W.keepIn K (.ref fReb) = true)
    (aOd : PySem.W.nsIn K mainGlobals "_law_odd" = some (some (.ref fOd)))
    (lOd : K.lookup fOd = some ⟨ocOd, odOd, .func (PySem.W.fnOf "_law_odd" "_law_odd" (defArgs sOdd) (defBody sOdd) (defScope sOdd) .none kVOd dcOd pmOd anOd cdOd ctOd), slOd⟩)
    (cOd : PySem.W.codeIn K cdOd "_law_odd" = true)
    (kOd : PySem.W.keepIn K (.ref fOd) = true)
    (cn : PySem.W.specialIn K (.builtin "object.__class__") "__get__" = some (some (.builtin "getset_descriptor.__get__")))
    (ct : PySem.W.takesIn K (.builtin "object.__class__") = some true)
    (pgC : PySem.W.plainGet K C Str.empty = true)
    (hdC : PySem.W.hasDictIn K C = true)
    (poC : PySem.W.plainOver K C = true)
    (saC : PySem.W.findIn K (.ref C) "__setattr__" = some (some (.builtin "object.__setattr__")))
    (mkC : PySem.W.makesIn K C = true)
    (kC : PySem.W.keepIn K (.ref C) = true)
    (n1C : PySem.W.findIn K (.ref C) "held" = some none)
    (ccC : PySem.W.findIn K (.ref C) "__class__" = some (some (.builtin "object.__class__")))
    (cmC : PySem.W.mroIn K C (.type "object") = some true)
    (aEq : PySem.W.findIn K (.ref C) "__eq__" = some (some (.ref fEq)))
    (iEq : PySem.W.isFn K (.ref fEq) = true)
    (lEq : K.lookup fEq = some ⟨ocEq, odEq, .func (PySem.W.fnOf "__eq__" "Plain.__eq__" (defArgs sPEq) (defBody sPEq) (defScope sPEq) .none kVEq dcEq pmEq anEq cdEq ctEq), slEq⟩)
    (cEq : PySem.W.codeIn K cdEq "Plain.__eq__" = true)
    (kEq : PySem.W.keepIn K (.ref fEq) = true)
    (aCop : PySem.W.findIn K (.ref C) "copy" = some (some (.ref fCop)))
    (iCop : PySem.W.isFn K (.ref fCop) = true)
    (lCop : K.lookup fCop = some ⟨ocCop, odCop, .func (PySem.W.fnOf "copy" "Plain.copy" (defArgs sCopy) (defBody sCopy) (defScope sCopy) .none kVCop dcCop pmCop anCop cdCop ctCop), slCop⟩)
    (cCop : PySem.W.codeIn K cdCop "Plain.copy" = true)
    (kCop : PySem.W.keepIn K (.ref fCop) = true)
    (aIn : PySem.W.findIn K (.ref C) "__init__" = some (some (.ref fIn)))
    (iIn : PySem.W.isFn K (.ref fIn) = true)
    (lIn : K.lookup fIn = some ⟨ocIn, odIn, .func (PySem.W.fnOf "__init__" "Plain.__init__" (defArgs sPI) (defBody sPI) (defScope sPI) .none kVIn dcIn pmIn anIn cdIn ctIn), slIn⟩)
    (cIn : PySem.W.codeIn K cdIn "Plain.__init__" = true)
    (kIn : PySem.W.keepIn K (.ref fIn) = true)
    (aIns : PySem.W.findIn K (.ref C) "inside" = some (some (.ref fIns)))
    (iIns : PySem.W.isFn K (.ref fIns) = true)
    (lIns : K.lookup fIns = some ⟨ocIns, odIns, .func (PySem.W.fnOf "inside" "Plain.inside" (defArgs sIn) (defBody sIn) (defScope sIn) .none kVIns dcIns pmIns anIns cdIns ctIns), slIns⟩)
    (cIns : PySem.W.codeIn K cdIns "Plain.inside" = true)
    (kIns : PySem.W.keepIn K (.ref fIns) = true)
    (aAdd : PySem.W.findIn K (.ref C) "add" = some (some (.ref fAdd)))
    (iAdd : PySem.W.isFn K (.ref fAdd) = true)
    (lAdd : K.lookup fAdd = some ⟨ocAdd, odAdd, .func (PySem.W.fnOf "add" "Plain.add" (defArgs sAdd) (defBody sAdd) (defScope sAdd) .none kVAdd dcAdd pmAdd anAdd cdAdd ctAdd), slAdd⟩)
    (cAdd : PySem.W.codeIn K cdAdd "Plain.add" = true)
    (kAdd : PySem.W.keepIn K (.ref fAdd) = true)
    (aDro : PySem.W.findIn K (.ref C) "drop" = some (some (.ref fDro)))
    (iDro : PySem.W.isFn K (.ref fDro) = true)
    (lDro : K.lookup fDro = some ⟨ocDro, odDro, .func (PySem.W.fnOf "drop" "Plain.drop" (defArgs sDrop) (defBody sDrop) (defScope sDrop) .none kVDro dcDro pmDro anDro cdDro ctDro), slDro⟩)
    (cDro : PySem.W.codeIn K cdDro "Plain.drop" = true)
    (kDro : PySem.W.keepIn K (.ref fDro) = true)
    (aMap : PySem.W.findIn K (.ref C) "map" = some (some (.ref fMap)))
    (iMap : PySem.W.isFn K (.ref fMap) = true)
    (lMap : K.lookup fMap = some ⟨ocMap, odMap, .func (PySem.W.fnOf "map" "Plain.map" (defArgs sMap) (defBody sMap) (defScope sMap) .none kVMap dcMap pmMap anMap cdMap ctMap), slMap⟩)
    (cMap : PySem.W.codeIn K cdMap "Plain.map" = true)
    (kMap : PySem.W.keepIn K (.ref fMap) = true)
    (aNF : PySem.W.findIn K (.ref C) "need_free" = some (some (.ref fNF)))
    (iNF : PySem.W.isFn K (.ref fNF) = true)
    (lNF : K.lookup fNF = some ⟨ocNF, odNF, .func (PySem.W.fnOf "need_free" "Plain.need_free" (defArgs sNF) (defBody sNF) (defScope sNF) .none kVNF dcNF pmNF anNF cdNF ctNF), slNF⟩)
    (cNF : PySem.W.codeIn K cdNF "Plain.need_free" = true)
    (kNF : PySem.W.keepIn K (.ref fNF) = true)
    (aUnm : PySem.W.findIn K (.ref C) "unmap" = some (some (.ref fUnm)))
    (iUnm : PySem.W.isFn K (.ref fUnm) = true)
    (lUnm : K.lookup fUnm = some ⟨ocUnm, odUnm, .func (PySem.W.fnOf "unmap" "Plain.unmap" (defArgs sUnmap) (defBody sUnmap) (defScope sUnmap) .none kVUnm dcUnm pmUnm anUnm cdUnm ctUnm), slUnm⟩)
    (cUnm : PySem.W.codeIn K cdUnm "Plain.unmap" = true)
    (kUnm : PySem.W.keepIn K (.ref fUnm) = true)
    (aFor : PySem.W.findIn K (.ref C) "fork" = some (some (.ref fFor)))
    (iFor : PySem.W.isFn K (.ref fFor) = true)
    (lFor : K.lookup fFor = some ⟨ocFor, odFor, .func (PySem.W.fnOf "fork" "Plain.fork" (defArgs sFork) (defBody sFork) (defScope sFork) .none kVFor dcFor pmFor anFor cdFor ctFor), slFor⟩)
    (cFor : PySem.W.codeIn K cdFor "Plain.fork" = true)
    (kFor : PySem.W.keepIn K (.ref fFor) = true)
    (aMov : PySem.W.findIn K (.ref C) "move" = some (some (.ref fMov)))
    (iMov : PySem.W.isFn K (.ref fMov) = true)
    (lMov : K.lookup fMov = some ⟨ocMov, odMov, .func (PySem.W.fnOf "move" "Plain.move" (defArgs sMove) (defBody sMove) (defScope sMove) .none kVMov dcMov pmMov anMov cdMov ctMov), slMov⟩)
    (cMov : PySem.W.codeIn K cdMov "Plain.move" = true)
    (kMov : PySem.W.keepIn K (.ref fMov) = true)
    (aNPl : PySem.W.findIn K (.ref C) "need_place" = some (some (.ref fNPl)))
    (iNPl : PySem.W.isFn K (.ref fNPl) = true)
    (lNPl : K.lookup fNPl = some ⟨ocNPl, odNPl, .func (PySem.W.fnOf "need_place" "Plain.need_place" (defArgs sNP) (defBody sNP) (defScope sNP) .none kVNPl dcNPl pmNPl anNPl cdNPl ctNPl), slNPl⟩)
    (cNPl : PySem.W.codeIn K cdNPl "Plain.need_place" = true)
    (kNPl : PySem.W.keepIn K (.ref fNPl) = true)
    (aWri : PySem.W.findIn K (.ref C) "write" = some (some (.ref fWri)))
    (iWri : PySem.W.isFn K (.ref fWri) = true)
    (lWri : K.lookup fWri = some ⟨ocWri, odWri, .func (PySem.W.fnOf "write" "Plain.write" (defArgs sWrite) (defBody sWrite) (defScope sWrite) .none kVWri dcWri pmWri anWri cdWri ctWri), slWri⟩)
    (cWri : PySem.W.codeIn K cdWri "Plain.write" = true)
    (kWri : PySem.W.keepIn K (.ref fWri) = true)
    (aRea : PySem.W.findIn K (.ref C) "read" = some (some (.ref fRea)))
    (iRea : PySem.W.isFn K (.ref fRea) = true)
    (lRea : K.lookup fRea = some ⟨ocRea, odRea, .func (PySem.W.fnOf "read" "Plain.read" (defArgs sRead) (defBody sRead) (defScope sRead) .none kVRea dcRea pmRea anRea cdRea ctRea), slRea⟩)
    (cRea : PySem.W.codeIn K cdRea "Plain.read" = true)
    (kRea : PySem.W.keepIn K (.ref fRea) = true)
    (aSpa : PySem.W.findIn K (.ref C) "spaces" = some (some (.ref fSpa)))
    (iSpa : PySem.W.isFn K (.ref fSpa) = true)
    (lSpa : K.lookup fSpa = some ⟨ocSpa, odSpa, .func (PySem.W.fnOf "spaces" "Plain.spaces" (defArgs sSpaces) (defBody sSpaces) (defScope sSpaces) .none kVSpa dcSpa pmSpa anSpa cdSpa ctSpa), slSpa⟩)
    (cSpa : PySem.W.codeIn K cdSpa "Plain.spaces" = true)
    (kSpa : PySem.W.keepIn K (.ref fSpa) = true)
    (aPla : PySem.W.findIn K (.ref C) "places" = some (some (.ref fPla)))
    (iPla : PySem.W.isFn K (.ref fPla) = true)
    (lPla : K.lookup fPla = some ⟨ocPla, odPla, .func (PySem.W.fnOf "places" "Plain.places" (defArgs sPlaces) (defBody sPlaces) (defScope sPlaces) .none kVPla dcPla pmPla anPla cdPla ctPla), slPla⟩)
    (cPla : PySem.W.codeIn K cdPla "Plain.places" = true)
    (kPla : PySem.W.keepIn K (.ref fPla) = true)
    (aCBN : PySem.W.nsIn K mainGlobals "BadName" = some (some (.ref CBN)))
    (kCBN : PySem.W.keepIn K (.ref CBN) = true)
    (bCBN : PySem.W.subIn K (.ref CBN) (.type "BaseException") = some true)
    (tCBN : PySem.W.typeIn K (.ref CBN) = some (.type "type"))
    (xCBN : PySem.W.excIn K CBN [.type "ValueError", .type "Exception", .type "BaseException", .type "object"] "ValueError.__new__" = true)
    (aCB : PySem.W.nsIn K mainGlobals "BadArea" = some (some (.ref CB)))
    (kCB : PySem.W.keepIn K (.ref CB) = true)
    (bCB : PySem.W.subIn K (.ref CB) (.type "BaseException") = some true)
    (tCB : PySem.W.typeIn K (.ref CB) = some (.type "type"))
    (xCB : PySem.W.excIn K CB [.type "ValueError", .type "Exception", .type "BaseException", .type "object"] "ValueError.__new__" = true)
    (aCV : PySem.W.nsIn K mainGlobals "BadValue" = some (some (.ref CV)))
    (kCV : PySem.W.keepIn K (.ref CV) = true)
    (bCV : PySem.W.subIn K (.ref CV) (.type "BaseException") = some true)
    (tCV : PySem.W.typeIn K (.ref CV) = some (.type "type"))
    (xCV : PySem.W.excIn K CV [.type "ValueError", .type "Exception", .type "BaseException", .type "object"] "ValueError.__new__" = true)
    (aCS : PySem.W.nsIn K mainGlobals "NoSpace" = some (some (.ref CS)))
    (kCS : PySem.W.keepIn K (.ref CS) = true)
    (bCS : PySem.W.subIn K (.ref CS) (.type "BaseException") = some true)
    (tCS : PySem.W.typeIn K (.ref CS) = some (.type "type"))
    (lCS : K.lookup CS = some (excClassObj nmCS qnCS CS NNCS bsCS bmCS true snCS subCS abCS colCS ddCS k0CS k1CS k2CS k3CS k5CS "ValueError.__new__"))
    (rvCS : PySem.HandSPX.refsVE bmCS = true)
    (saCS : PySem.W.findIn K (.ref CS) "__setattr__" = some (some (.builtin "object.__setattr__")))
    (iiCS : PySem.W.excInitIn K CS [.type "ValueError", .type "Exception", .type "BaseException", .type "object"] "ValueError.__new__" = true)
    (noCS : PySem.W.findIn K (.ref CS) "name" = some none)
    (aiCS : PySem.W.findIn K (.ref CS) "__init__" = some (some (.ref fICS)))
    (tiCS : PySem.W.typeIn K (.ref fICS) = some (.type "function"))
    (liCS : K.lookup fICS = some ⟨ocICS, odICS, .func (PySem.W.ksFn "__init__" "NoSpace.__init__" (defArgs sXS) (defBody sXS) (defScope sXS) .none kVCS dcCS pmCS anCS (.ref cdaCS) ctCS ccCS), slICS⟩)
    (ciCS : PySem.W.codeIn K (.ref cdaCS) "NoSpace.__init__" = true)
    (lcdCS : K.lookup cdaCS = some ⟨occCS, odcCS, .fields vsCS, slcCS⟩)
    (v2CS : vsCS[2]? = some (.str fileCS tfCS))
    (fiCS : ((l.prog.main.file : Str) == fileCS) = true)
    (lccCS : K.lookup ccCS = some ⟨clCS, cldCS, .cell (some (.ref CS)), cslCS⟩)
    (clsCS : PySem.W.clsIn K CS = some cdCCS)
    (supCS : PySem.W.ks_superIn K CS CS "__init__" = some (some (.builtin "ValueError.__init__")))
    (sveCS : PySem.W.subIn K (.ref CS) (.type "ValueError") = some true)
    (mroCS : PySem.W.mroIn K CS (.ref CS) = some true)
    (opq : PySem.W.nsIn K cStatics "thirdparty.any" = some none)
    (topS : (l.prog.main.scope.names.lookup ("super" : Str)).isSome = false)
    (aCT : PySem.W.nsIn K mainGlobals "Taken" = some (some (.ref CT)))
    (kCT : PySem.W.keepIn K (.ref CT) = true)
    (bCT : PySem.W.subIn K (.ref CT) (.type "BaseException") = some true)
    (tCT : PySem.W.typeIn K (.ref CT) = some (.type "type"))
    (lCT : K.lookup CT = some (excClassObj nmCT qnCT CT NNCT bsCT bmCT true snCT subCT abCT colCT ddCT k0CT k1CT k2CT k3CT k5CT "ValueError.__new__"))
    (rvCT : PySem.HandSPX.refsVE bmCT = true)
    (saCT : PySem.W.findIn K (.ref CT) "__setattr__" = some (some (.builtin "object.__setattr__")))
    (iiCT : PySem.W.excInitIn K CT [.type "ValueError", .type "Exception", .type "BaseException", .type "object"] "ValueError.__new__" = true)
    (noCT : PySem.W.findIn K (.ref CT) "name" = some none)
    (aiCT : PySem.W.findIn K (.ref CT) "__init__" = some (some (.ref fICT)))
    (tiCT : PySem.W.typeIn K (.ref fICT) = some (.type "function"))
    (liCT : K.lookup fICT = some ⟨ocICT, odICT, .func (PySem.W.ksFn "__init__" "Taken.__init__" (defArgs sXT) (defBody sXT) (defScope sXT) .none kVCT dcCT pmCT anCT (.ref cdaCT) ctCT ccCT), slICT⟩)
    (ciCT : PySem.W.codeIn K (.ref cdaCT) "Taken.__init__" = true)
    (lcdCT : K.lookup cdaCT = some ⟨occCT, odcCT, .fields vsCT, slcCT⟩)
    (v2CT : vsCT[2]? = some (.str fileCT tfCT))
    (fiCT : ((l.prog.main.file : Str) == fileCT) = true)
    (lccCT : K.lookup ccCT = some ⟨clCT, cldCT, .cell (some (.ref CT)), cslCT⟩)
    (clsCT : PySem.W.clsIn K CT = some cdCCT)
    (supCT : PySem.W.ks_superIn K CT CT "__init__" = some (some (.builtin "ValueError.__init__")))
    (sveCT : PySem.W.subIn K (.ref CT) (.type "ValueError") = some true)
    (mroCT : PySem.W.mroIn K CT (.ref CT) = some true)
    (aCL : PySem.W.nsIn K mainGlobals "NoPlace" = some (some (.ref CL)))
    (kCL : PySem.W.keepIn K (.ref CL) = true)
    (bCL : PySem.W.subIn K (.ref CL) (.type "BaseException") = some true)
    (tCL : PySem.W.typeIn K (.ref CL) = some (.type "type"))
    (lCL : K.lookup CL = some (excClassObj nmCL qnCL CL NNCL bsCL bmCL true snCL subCL abCL colCL ddCL k0CL k1CL k2CL k3CL k5CL "ValueError.__new__"))
    (rvCL : PySem.HandSPX.refsVE bmCL = true)
    (saCL : PySem.W.findIn K (.ref CL) "__setattr__" = some (some (.builtin "object.__setattr__")))
    (iiCL : PySem.W.excInitIn K CL [.type "ValueError", .type "Exception", .type "BaseException", .type "object"] "ValueError.__new__" = true)
    (noCL : PySem.W.findIn K (.ref CL) "place" = some none)
    (aiCL : PySem.W.findIn K (.ref CL) "__init__" = some (some (.ref fICL)))
    (tiCL : PySem.W.typeIn K (.ref fICL) = some (.type "function"))
    (liCL : K.lookup fICL = some ⟨ocICL, odICL, .func (PySem.W.ksFn "__init__" "NoPlace.__init__" (defArgs sXL) (defBody sXL) (defScope sXL) .none kVCL dcCL pmCL anCL (.ref cdaCL) ctCL ccCL), slICL⟩)
    (ciCL : PySem.W.codeIn K (.ref cdaCL) "NoPlace.__init__" = true)
    (lcdCL : K.lookup cdaCL = some ⟨occCL, odcCL, .fields vsCL, slcCL⟩)
    (v2CL : vsCL[2]? = some (.str fileCL tfCL))
    (fiCL : ((l.prog.main.file : Str) == fileCL) = true)
    (lccCL : K.lookup ccCL = some ⟨clCL, cldCL, .cell (some (.ref CL)), cslCL⟩)
    (clsCL : PySem.W.clsIn K CL = some cdCCL)
    (supCL : PySem.W.ks_superIn K CL CL "__init__" = some (some (.builtin "ValueError.__init__")))
    (sveCL : PySem.W.subIn K (.ref CL) (.type "ValueError") = some true)
    (mroCL : PySem.W.mroIn K CL (.ref CL) = some true)
    (aCU : PySem.W.nsIn K mainGlobals "Used" = some (some (.ref CU)))
    (kCU : PySem.W.keepIn K (.ref CU) = true)
    (bCU : PySem.W.subIn K (.ref CU) (.type "BaseException") = some true)
    (tCU : PySem.W.typeIn K (.ref CU) = some (.type "type"))
    (lCU : K.lookup CU = some (excClassObj nmCU qnCU CU NNCU bsCU bmCU true snCU subCU abCU colCU ddCU k0CU k1CU k2CU k3CU k5CU "ValueError.__new__"))
    (rvCU : PySem.HandSPX.refsVE bmCU = true)
    (saCU : PySem.W.findIn K (.ref CU) "__setattr__" = some (some (.builtin "object.__setattr__")))
    (iiCU : PySem.W.excInitIn K CU [.type "ValueError", .type "Exception", .type "BaseException", .type "object"] "ValueError.__new__" = true)
    (noCU : PySem.W.findIn K (.ref CU) "place" = some none)
    (aiCU : PySem.W.findIn K (.ref CU) "__init__" = some (some (.ref fICU)))
    (tiCU : PySem.W.typeIn K (.ref fICU) = some (.type "function"))
    (liCU : K.lookup fICU = some ⟨ocICU, odICU, .func (PySem.W.ksFn "__init__" "Used.__init__" (defArgs sXU) (defBody sXU) (defScope sXU) .none kVCU dcCU pmCU anCU (.ref cdaCU) ctCU ccCU), slICU⟩)
    (ciCU : PySem.W.codeIn K (.ref cdaCU) "Used.__init__" = true)
    (lcdCU : K.lookup cdaCU = some ⟨occCU, odcCU, .fields vsCU, slcCU⟩)
    (v2CU : vsCU[2]? = some (.str fileCU tfCU))
    (fiCU : ((l.prog.main.file : Str) == fileCU) = true)
    (lccCU : K.lookup ccCU = some ⟨clCU, cldCU, .cell (some (.ref CU)), cslCU⟩)
    (clsCU : PySem.W.clsIn K CU = some cdCCU)
    (supCU : PySem.W.ks_superIn K CU CU "__init__" = some (some (.builtin "ValueError.__init__")))
    (sveCU : PySem.W.subIn K (.ref CU) (.type "ValueError") = some true)
    (mroCU : PySem.W.mroIn K CU (.ref CU) = some true)
    (sbd : PySem.W.subIn K (.type "dict") (.ref C) = some false)
    (sbi : PySem.W.subIn K (.type "int") (.ref C) = some false)
    (kd : PySem.W.kitOne K (.type "dict") (.ref C) = some false)
    (ki : PySem.W.kitOne K (.type "int") (.ref C) = some false)
     : LawG l w K CX0 8 63 "_law_script" mg fa h := by
  have e := hfa.symm.trans (PySem.W.mg_of X G aLa)
  cases e
  refine ⟨PySem.W.fnOf "law" "law" (defArgs sLaw5) (defBody sLaw5) (defScope sLaw5) .none kVLa dcLa pmLa anLa cdLa ctLa, [], spLaw K, fun p hp => (by cases hp), fun p hp => (by cases hp), fun p hp => (by cases hp), fun s v => .of_eq rfl, fun H a ns hl hH hS => ⟨a, ns, rfl, hS, hl, fun _ => rfl⟩, fun base kb hb hTB => ?_⟩
  have int_ := PySem.W.mg_none_of X G zint
  have len_ := PySem.W.mg_none_of X G zlen
  have abs_ := PySem.W.mg_none_of X G zabs
  have isinstance_ := PySem.W.mg_none_of X G zisinstance
  have bool_ := PySem.W.mg_none_of X G zbool
  have str_ := PySem.W.mg_none_of X G zstr
  have all_ := PySem.W.mg_none_of X G zall
  have range_ := PySem.W.mg_none_of X G zrange
  have dict_ := PySem.W.mg_none_of X G zdict
  have sorted_ := PySem.W.mg_none_of X G zsorted
  have super_ := PySem.W.mg_none_of X G zsuper
  have repr_ := PySem.W.mg_none_of X G zrepr
  have list_ := PySem.W.mg_none_of X G zlist
  have max_ := PySem.W.mg_none_of X G zmax
  have ValueError_ := PySem.W.mg_none_of X G zValueError
  have gPL := PySem.W.mg_of X G aPL
  have gLE := PySem.W.mg_of X G aLE
  have gML := PySem.W.mg_of X G aML
  have gMC := PySem.W.mg_of X G aMC
  have gC := PySem.W.mg_of X G aC
  have FII := fun_mk (st := sIsInt) lII cII kII
  have bII := FII.binds (ps := ["value"]) fun _ _ _ _ _ _ us hl => match us, hl with | [_], _ => rfl
  have mII := PySem.W.mg_of X G aII
  have FIP := fun_mk (st := sIsPlace) lIP cIP kIP
  have bIP := FIP.binds (ps := ["value"]) fun _ _ _ _ _ _ us hl => match us, hl with | [_], _ => rfl
  have mIP := PySem.W.mg_of X G aIP
  have FIS := fun_mk (st := sIsStretch) lIS cIS kIS
  have bIS := FIS.binds (ps := ["begin", "many"]) fun _ _ _ _ _ _ us hl => match us, hl with | [_, _], _ => rfl
  have mIS := PySem.W.mg_of X G aIS
  have FNS := fun_mk (st := sNeed) lNS cNS kNS
  have bNS := FNS.binds (ps := ["begin", "many"]) fun _ _ _ _ _ _ us hl => match us, hl with | [_, _], _ => rfl
  have mNS := PySem.W.mg_of X G aNS
  have FNa := fun_mk (st := sName) lNa cNa kNa
  have bNa := FNa.binds (ps := ["value"]) fun _ _ _ _ _ _ us hl => match us, hl with | [_], _ => rfl
  have mNa := PySem.W.mg_of X G aNa
  have FNN := fun_mk (st := sNew) lNN cNN kNN
  have bNN := FNN.binds (ps := ["spaces", "name"]) fun _ _ _ _ _ _ us hl => match us, hl with | [_, _], _ => rfl
  have mNN := PySem.W.mg_of X G aNN
  have FIC := fun_mk (st := sCont) lIC cIC kIC
  have bIC := FIC.binds (ps := ["value"]) fun _ _ _ _ _ _ us hl => match us, hl with | [_], _ => rfl
  have mIC := PySem.W.mg_of X G aIC
  have FNC := fun_mk (st := sNCont) lNC cNC kNC
  have bNC := FNC.binds (ps := ["value"]) fun _ _ _ _ _ _ us hl => match us, hl with | [_], _ => rfl
  have mNC := PySem.W.mg_of X G aNC
  have FSt := fun_mk (st := sState) lSt cSt kSt
  have bSt := FSt.binds (ps := ["_law_script"]) fun _ _ _ _ _ _ us hl => match us, hl with | [_], _ => rfl
  have mSt := PySem.W.mg_of X G aSt
  have FDr := fun_mk (st := sDraw) lDr cDr kDr
  have bDr := FDr.binds (ps := ["_law_draw_here", "_law_below"]) fun _ _ _ _ _ _ us hl => match us, hl with | [_, _], _ => rfl
  have mDr := PySem.W.mg_of X G aDr
  have FPi := fun_mk (st := sPick) lPi cPi kPi
  have bPi := FPi.binds (ps := ["_law_draw_here", "_law_some"]) fun _ _ _ _ _ _ us hl => match us, hl with | [_, _], _ => rfl
  have mPi := PySem.W.mg_of X G aPi
  have FWh := fun_mk (st := sWhole) lWh cWh kWh
  have bWh := FWh.binds (ps := ["_law_thing_here"]) fun _ _ _ _ _ _ us hl => match us, hl with | [_], _ => rfl
  have mWh := PySem.W.mg_of X G aWh
  have FLS := fun_mk (st := sLStretch) lLS cLS kLS
  have bLS := FLS.binds (ps := ["_law_first", "_law_size"]) fun _ _ _ _ _ _ us hl => match us, hl with | [_, _], _ => rfl
  have mLS := PySem.W.mg_of X G aLS
  have FLN := fun_mk (st := sLName) lLN cLN kLN
  have bLN := FLN.binds (ps := ["_law_thing_here"]) fun _ _ _ _ _ _ us hl => match us, hl with | [_], _ => rfl
  have mLN := PySem.W.mg_of X G aLN
  have FNwF := fun_mk (st := sNewF) lNwF cNwF kNwF
  have bNwF := FNwF.binds (ps := ["_law_model", "_law_thing_here"]) fun _ _ _ _ _ _ us hl => match us, hl with | [_, _], _ => rfl
  have mNwF := PySem.W.mg_of X G aNwF
  have FFa := fun_mk (st := sFault) lFa cFa kFa
  have bFa := FFa.binds (ps := ["_law_model", "_law_row_here"]) fun _ _ _ _ _ _ us hl => match us, hl with | [_, _], _ => rfl
  have mFa := PySem.W.mg_of X G aFa
  have FDo := fun_mk (st := sDone) lDo cDo kDo
  have bDo := FDo.binds (ps := ["_law_model", "_law_row_here"]) fun _ _ _ _ _ _ us hl => match us, hl with | [_, _], _ => rfl
  have mDo := PySem.W.mg_of X G aDo
  have FAs := fun_mk (st := sAsked) lAs cAs kAs
  have bAs := FAs.binds (ps := ["_law_memory", "_law_row_here"]) fun _ _ _ _ _ _ us hl => match us, hl with | [_, _], _ => rfl
  have mAs := PySem.W.mg_of X G aAs
  have FTi := fun_mk (st := sTitles) lTi cTi kTi
  have bTi := FTi.binds (ps := ["_law_draw_here"]) fun _ _ _ _ _ _ us hl => match us, hl with | [_], _ => rfl
  have mTi := PySem.W.mg_of X G aTi
  have FRo := fun_mk (st := sRow) lRo cRo kRo
  have bRo := FRo.binds (ps := ["_law_draw_here", "_law_titles_here", "_law_model"]) fun _ _ _ _ _ _ us hl => match us, hl with | [_, _, _], _ => rfl
  have mRo := PySem.W.mg_of X G aRo
  have FSa := fun_mk (st := sSame) lSa cSa kSa
  have bSa := FSa.binds (ps := ["_law_memory", "_law_model"]) fun _ _ _ _ _ _ us hl => match us, hl with | [_, _], _ => rfl
  have mSa := PySem.W.mg_of X G aSa
  have FLa := fun_mk (st := sLaw5) lLa cLa kLa
  have bLa := FLa.binds (ps := ["_law_script"]) fun _ _ _ _ _ _ us hl => match us, hl with | [_], _ => rfl
  have mLa := PySem.W.mg_of X G aLa
  have FMx := fun_mk (st := sMixed) lMx cMx kMx
  have bMx := FMx.binds (ps := ["_law_draw_here", "_law_some"]) fun _ _ _ _ _ _ us hl => match us, hl with | [_, _], _ => rfl
  have mMx := PySem.W.mg_of X G aMx
  have FLed := fun_mk (st := sLed) lLed cLed kLed
  have bLed := FLed.binds (ps := ["_law_draw_here", "_law_titles_here", "_law_memory", "_law_model", "_law_many"]) fun _ _ _ _ _ _ us hl => match us, hl with | [_, _, _, _, _], _ => rfl
  have mLed := PySem.W.mg_of X G aLed
  have FReb := fun_mk (st := sRebuilt) lReb cReb kReb
  have bReb := FReb.binds (ps := ["_law_draw_here", "_law_model"]) fun _ _ _ _ _ _ us hl => match us, hl with | [_, _], _ => rfl
  have mReb := PySem.W.mg_of X G aReb
  have FOd := fun_mk (st := sOdd) lOd cOd kOd
  have bOd := FOd.binds (ps := ["_law_draw_here", "_law_model"]) fun _ _ _ _ _ _ us hl => match us, hl with | [_, _], _ => rfl
  have mOd := PySem.W.mg_of X G aOd
  have clC : Cls K C := ⟨pgC, hdC, poC, saC⟩
  have FEq := fun_mk (st := sPEq) lEq cEq kEq
  have bEq := FEq.binds (ps := ["self", "other"]) fun _ _ _ _ _ _ us hl => match us, hl with | [_, _], _ => rfl
  have mmEq : Meth K C "__eq__" fEq := ⟨aEq, iEq, kEq⟩
  have FCop := fun_mk (st := sCopy) lCop cCop kCop
  have bCop := FCop.binds (ps := ["self"]) fun _ _ _ _ _ _ us hl => match us, hl with | [_], _ => rfl
  have mmCop : Meth K C "copy" fCop := ⟨aCop, iCop, kCop⟩
  have FIn := fun_mk (st := sPI) lIn cIn kIn
  have bIn := FIn.binds (ps := ["self"]) fun _ _ _ _ _ _ us hl => match us, hl with | [_], _ => rfl
  have mmIn : Meth K C "__init__" fIn := ⟨aIn, iIn, kIn⟩
  have FIns := fun_mk (st := sIn) lIns cIns kIns
  have bIns := FIns.binds (ps := ["self", "space"]) fun _ _ _ _ _ _ us hl => match us, hl with | [_, _], _ => rfl
  have mmIns : Meth K C "inside" fIns := ⟨aIns, iIns, kIns⟩
  have FAdd := fun_mk (st := sAdd) lAdd cAdd kAdd
  have bAdd := FAdd.binds (ps := ["self", "space"]) fun _ _ _ _ _ _ us hl => match us, hl with | [_, _], _ => rfl
  have mmAdd : Meth K C "add" fAdd := ⟨aAdd, iAdd, kAdd⟩
  have FDro := fun_mk (st := sDrop) lDro cDro kDro
  have bDro := FDro.binds (ps := ["self", "space"]) fun _ _ _ _ _ _ us hl => match us, hl with | [_, _], _ => rfl
  have mmDro : Meth K C "drop" fDro := ⟨aDro, iDro, kDro⟩
  have FMap := fun_mk (st := sMap) lMap cMap kMap
  have bMap := FMap.binds (ps := ["self", "space", "begin", "many"]) fun _ _ _ _ _ _ us hl => match us, hl with | [_, _, _, _], _ => rfl
  have mmMap : Meth K C "map" fMap := ⟨aMap, iMap, kMap⟩
  have FNF := fun_mk (st := sNF) lNF cNF kNF
  have bNF := FNF.binds (ps := ["self", "inside", "begin", "many"]) fun _ _ _ _ _ _ us hl => match us, hl with | [_, _, _, _], _ => rfl
  have mmNF : Meth K C "need_free" fNF := ⟨aNF, iNF, kNF⟩
  have FUnm := fun_mk (st := sUnmap) lUnm cUnm kUnm
  have bUnm := FUnm.binds (ps := ["self", "space", "begin", "many"]) fun _ _ _ _ _ _ us hl => match us, hl with | [_, _, _, _], _ => rfl
  have mmUnm : Meth K C "unmap" fUnm := ⟨aUnm, iUnm, kUnm⟩
  have FFor := fun_mk (st := sFork) lFor cFor kFor
  have bFor := FFor.binds (ps := ["self", "space", "child"]) fun _ _ _ _ _ _ us hl => match us, hl with | [_, _, _], _ => rfl
  have mmFor : Meth K C "fork" fFor := ⟨aFor, iFor, kFor⟩
  have FMov := fun_mk (st := sMove) lMov cMov kMov
  have bMov := FMov.binds (ps := ["self", "space", "begin", "many", "to"]) fun _ _ _ _ _ _ us hl => match us, hl with | [_, _, _, _, _], _ => rfl
  have mmMov : Meth K C "move" fMov := ⟨aMov, iMov, kMov⟩
  have FNPl := fun_mk (st := sNP) lNPl cNPl kNPl
  have bNPl := FNPl.binds (ps := ["self", "space", "place"]) fun _ _ _ _ _ _ us hl => match us, hl with | [_, _, _], _ => rfl
  have mmNPl : Meth K C "need_place" fNPl := ⟨aNPl, iNPl, kNPl⟩
  have FWri := fun_mk (st := sWrite) lWri cWri kWri
  have bWri := FWri.binds (ps := ["self", "space", "place", "value"]) fun _ _ _ _ _ _ us hl => match us, hl with | [_, _, _, _], _ => rfl
  have mmWri : Meth K C "write" fWri := ⟨aWri, iWri, kWri⟩
  have FRea := fun_mk (st := sRead) lRea cRea kRea
  have bRea := FRea.binds (ps := ["self", "space", "place"]) fun _ _ _ _ _ _ us hl => match us, hl with | [_, _, _], _ => rfl
  have mmRea : Meth K C "read" fRea := ⟨aRea, iRea, kRea⟩
  have FSpa := fun_mk (st := sSpaces) lSpa cSpa kSpa
  have bSpa := FSpa.binds (ps := ["self"]) fun _ _ _ _ _ _ us hl => match us, hl with | [_], _ => rfl
  have mmSpa : Meth K C "spaces" fSpa := ⟨aSpa, iSpa, kSpa⟩
  have FPla := fun_mk (st := sPlaces) lPla cPla kPla
  have bPla := FPla.binds (ps := ["self", "space"]) fun _ _ _ _ _ _ us hl => match us, hl with | [_, _], _ => rfl
  have mmPla : Meth K C "places" fPla := ⟨aPla, iPla, kPla⟩
  have gCBN := PySem.W.mg_of X G aCBN
  have gCB := PySem.W.mg_of X G aCB
  have gCV := PySem.W.mg_of X G aCV
  have gCS := PySem.W.mg_of X G aCS
  have OXCS : OexC K CS := ⟨⟨_, _, _, _, _, _, _, _, _, _, _, _, _, _, _, lCS, rvCS⟩, saCS, bCS, tCS, kCS⟩
  have STCS : SupT l.prog K mg CS ccCS cdaCS "NoSpace.__init__" := ⟨OXCS, iiCS, ciCS, ⟨_, _, _, _, _, _, lcdCS, v2CS, fiCS⟩, ⟨_, _, _, lccCS⟩, ⟨_, clsCS⟩, supCS, sveCS, opq, mroCS, super_, topS⟩
  have SECS : SupE l.prog w K mg base "NoSpace" "name" CS := ⟨gCS, OXCS, _, _, aiCS, tiCS, ok_excCS STCS noCS liCS, fun s us _ hl => match us, hl with | [_, _], _ => .of_eq rfl⟩
  have gCT := PySem.W.mg_of X G aCT
  have OXCT : OexC K CT := ⟨⟨_, _, _, _, _, _, _, _, _, _, _, _, _, _, _, lCT, rvCT⟩, saCT, bCT, tCT, kCT⟩
  have STCT : SupT l.prog K mg CT ccCT cdaCT "Taken.__init__" := ⟨OXCT, iiCT, ciCT, ⟨_, _, _, _, _, _, lcdCT, v2CT, fiCT⟩, ⟨_, _, _, lccCT⟩, ⟨_, clsCT⟩, supCT, sveCT, opq, mroCT, super_, topS⟩
  have SECT : SupE l.prog w K mg base "Taken" "name" CT := ⟨gCT, OXCT, _, _, aiCT, tiCT, ok_excCT STCT noCT liCT, fun s us _ hl => match us, hl with | [_, _], _ => .of_eq rfl⟩
  have gCL := PySem.W.mg_of X G aCL
  have OXCL : OexC K CL := ⟨⟨_, _, _, _, _, _, _, _, _, _, _, _, _, _, _, lCL, rvCL⟩, saCL, bCL, tCL, kCL⟩
  have STCL : SupT l.prog K mg CL ccCL cdaCL "NoPlace.__init__" := ⟨OXCL, iiCL, ciCL, ⟨_, _, _, _, _, _, lcdCL, v2CL, fiCL⟩, ⟨_, _, _, lccCL⟩, ⟨_, clsCL⟩, supCL, sveCL, opq, mroCL, super_, topS⟩
  have SECL : SupE l.prog w K mg base "NoPlace" "place" CL := ⟨gCL, OXCL, _, _, aiCL, tiCL, ok_excCL STCL noCL liCL, fun s us _ hl => match us, hl with | [_, _], _ => .of_eq rfl⟩
  have gCU := PySem.W.mg_of X G aCU
  have OXCU : OexC K CU := ⟨⟨_, _, _, _, _, _, _, _, _, _, _, _, _, _, _, lCU, rvCU⟩, saCU, bCU, tCU, kCU⟩
  have STCU : SupT l.prog K mg CU ccCU cdaCU "Used.__init__" := ⟨OXCU, iiCU, ciCU, ⟨_, _, _, _, _, _, lcdCU, v2CU, fiCU⟩, ⟨_, _, _, lccCU⟩, ⟨_, clsCU⟩, supCU, sveCU, opq, mroCU, super_, topS⟩
  have SECU : SupE l.prog w K mg base "Used" "place" CU := ⟨gCU, OXCU, _, _, aiCU, tiCU, ok_excCU STCU noCU liCU, fun s us _ hl => match us, hl with | [_, _], _ => .of_eq rfl⟩
  have TB0 : TB mg := ⟨int_, len_, abs_⟩
  have TC0 : TC K mg := ⟨TB0, isinstance_, bool_, _, gPL⟩
  have TD0 : TD K mg := ⟨TC0, str_, all_, ⟨_, gLE⟩, ⟨_, gML⟩, ⟨_, gMC⟩⟩
  have TP : PlT K C := ⟨clC, n1C⟩
  have GII := ok_is_integer (P := l.prog) (w := w) (base := base) FII TC0
  have GIP := ok_is_place (P := l.prog) (w := w) (base := base) FIP TC0 GII mII kII bII
  have GIS := ok_is_stretch (P := l.prog) (w := w) (base := base) FIS TC0 GII mII kII bII GIP mIP kIP bIP
  have GNS := ok_need (P := l.prog) (w := w) (base := base) FNS ⟨gCB, xCB, kCB, bCB, tCB⟩ ⟨_, _, GIS, mIS, kIS, bIS⟩
  have HNS : Has l.prog w K mg base (L2.CX l.prog w) 4 "need_stretch" ["begin", "many"] (spNeed CB) := ⟨_, _, GNS, mNS, kNS, bNS⟩
  have HII : Has l.prog w K mg base CX0 1 "is_integer" ["value"] spIsInt := ⟨_, _, GII, mII, kII, bII⟩
  have HNa : Has l.prog w K mg base CX0 1 "is_name" ["value"] spName := ⟨_, _, ok_name FNa TD0, mNa, kNa, bNa⟩
  have HNN : Has l.prog w K mg base (L2.CX l.prog w) 3 "need_new" ["spaces", "name"] (spNew CBN CT) := ⟨_, _, ok_new FNN ⟨gCBN, xCBN, kCBN, bCBN, tCBN⟩ SECT HNa, mNN, kNN, bNN⟩
  have HIC : Has l.prog w K mg base CX0 2 "is_contents" ["value"] spCont := ⟨_, _, ok_cont FIC TD0 HII, mIC, kIC, bIC⟩
  have HNC : Has l.prog w K mg base (L2.CX l.prog w) 3 "need_contents" ["value"] (spNCont CV) := ⟨_, _, ok_ncont FNC ⟨gCV, xCV, kCV, bCV, tCV⟩ HIC, mNC, kNC, bNC⟩
  have HIns : HasM l.prog w K mg base (L2.CX l.prog w) 3 C "inside" ["self", "space"] (spIn C CS) := ⟨_, _, mmIns, ok_inside FIns TP TD0 SECS, bIns⟩
  have HNF : HasM l.prog w K mg base (L2.CX l.prog w) 3 C "need_free" ["self", "inside", "begin", "many"] (spNF C CU) := ⟨_, _, mmNF, ok_nfree FNF range_ SECU, bNF⟩
  have HNP : HasM l.prog w K mg base (L2.CX l.prog w) 4 C "need_place" ["self", "space", "place"] (spNP C CS CL) := ⟨_, _, mmNPl, ok_nplace FNPl TP HIns HII SECL, bNPl⟩
  have R : PlK l.prog w K mg base C ⟨CBN, CT, CS, CL, CV, CB, CU⟩ := ⟨TP, ⟨_, _, mmAdd, ok_add FAdd TP HNN, bAdd⟩, ⟨_, _, mmDro, ok_drop FDro TP HIns, bDro⟩, ⟨_, _, mmMap, ok_map FMap TP range_ HIns HNF HNS, bMap⟩, ⟨_, _, mmUnm, ok_unmap FUnm TP range_ HIns HNS, bUnm⟩,
    ⟨_, _, mmMov, ok_move FMov TP range_ HIns HNF HNS SECL, bMov⟩, ⟨_, _, mmWri, ok_write FWri TP HNP HNC, bWri⟩, ⟨_, _, mmRea, ok_read FRea TP HNP, bRea⟩, ⟨_, _, mmPla, ok_places FPla TP sorted_ HIns, bPla⟩, ⟨_, _, mmFor, ok_fork FFor TP dict_ HIns HNN, bFor⟩⟩
  have HI : ∃ fI fdI, Mk K C fI ∧ FnOk l.prog w K mg base CX0 1 fI fdI ["self"] (spPI C) ∧ Binds K fdI ["self"] [] := ⟨_, _, ⟨mkC, aIn, iIn, kC⟩, ok_pinit FIn TP, bIn⟩
  have HSp : HasM l.prog w K mg base CX0 1 C "spaces" ["self"] (spSpaces C) := ⟨_, _, mmSpa, ok_spaces FSpa TP sorted_, bSpa⟩
  have TI : InT K C := ⟨clC, ccC, cn, ct, cmC⟩
  have HC : HasM l.prog w K mg base CX0 3 C "copy" ["self"] (spCopy C) := ⟨_, _, mmCop, ok_copy FCop TP dict_ gC HI, bCop⟩
  have GDr := ok_draw (P := l.prog) (w := w) (base := base) FDr TB0
  have HDr : Has l.prog w K mg base CX0 1 "_law_draw" ["_law_draw_here", "_law_below"] spDraw := ⟨_, _, GDr, mDr, kDr, bDr⟩
  have GPi := ok_pick (P := l.prog) (w := w) (base := base) FPi TB0 GDr mDr kDr bDr
  have GPiS := ok_pickS (P := l.prog) (w := w) (base := base) FPi TB0 GDr mDr kDr bDr
  have HPi : Has l.prog w K mg base CX0 2 "_law_pick" ["_law_draw_here", "_law_some"] spPick := ⟨_, _, GPi, mPi, kPi, bPi⟩
  have GWh := ok_whole (P := l.prog) (w := w) (base := base) FWh TC0
  have HWh : Has l.prog w K mg base CX0 1 "_law_is_whole" ["_law_thing_here"] spIsInt := ⟨_, _, GWh, mWh, kWh, bWh⟩
  have HLS : Has l.prog w K mg base CX0 2 "_law_is_stretch" ["_law_first", "_law_size"] spLS := ⟨_, _, ok_lstretch FLS GWh mWh kWh bWh, mLS, kLS, bLS⟩
  have HLN : Has l.prog w K mg base CX0 1 "_law_is_name" ["_law_thing_here"] spName := ⟨_, _, ok_lname FLN TD0, mLN, kLN, bLN⟩
  have HNwF : Has l.prog w K mg base CX0 2 "_law_new_fault" ["_law_model", "_law_thing_here"] spNewF := ⟨_, _, ok_newf FNwF HLN, mNwF, kNwF, bNwF⟩
  have GSa := ok_same (P := l.prog) (w := w) (base := base) lSa cSa sorted_ repr_ R HSp
  have HMx : Has l.prog w K mg base CX0 2 "_law_mixed" ["_law_draw_here", "_law_some"] spMixed := ⟨_, _, ok_mixed FMx list_ len_ HDr, mMx, kMx, bMx⟩
  have HLed : Has l.prog w K mg base CX0 7 "_law_led" ["_law_draw_here", "_law_titles_here", "_law_memory", "_law_model", "_law_many"] (spLed C) := ⟨_, _, ok_led FLed range_ ⟨_, _, ok_row FRo sorted_ max_ HDr HPi, mRo, kRo, bRo⟩ ⟨_, _, ok_fault FFa TD0 range_ HNwF HWh HLS, mFa, kFa, bFa⟩ ⟨_, _, ok_done FDo range_ sorted_ dict_, mDo, kDo, bDo⟩ ⟨_, _, ok_asked FAs R, mAs, kAs, bAs⟩, mLed, kLed, bLed⟩
  have HReb : Has l.prog w K mg base CX0 6 "_law_rebuilt" ["_law_draw_here", "_law_model"] (spRebuilt C) := ⟨_, _, ok_rebuilt FReb sorted_ R gC HI HMx, mReb, kReb, bReb⟩
  have HOd : Has l.prog w K mg base CX0 3 "_law_odd" ["_law_draw_here", "_law_model"] spOdd := ⟨_, _, ok_odd FOd sorted_ dict_ int_ HDr HPi, mOd, kOd, bOd⟩
  exact ok_law lLa cLa range_ dict_ R TI gC HI HC ⟨_, _, ok_peq2 FEq TP TI isinstance_ gC, aEq, iEq, bEq⟩ kd ki (by simp [PySem.W.notFirst]) (by simp [PySem.W.notFirst, sbd]) (by simp [PySem.W.notFirst, sbi]) ⟨_, _, ok_state FSt TB0, mSt, kSt, bSt⟩ HDr ⟨_, _, ok_titles FTi range_ HDr GPi GPiS mPi kPi bPi, mTi, kTi, bTi⟩ HLed HReb HOd GSa mSa kSa bSa
end Bm
open PySem PySem.W PyProof.Rows
set_option maxRecDepth 100000 in
set_option maxHeartbeats 0 in
theorem PySem.Challenge.cw_backmaps_k05_plain_copies_are_equal_and_holds : PySem.Challenge.rw_backmaps_k05_plain_copies_are_equal_and.Holds := by
  w_on; o_law; k_head; (case hw => w_witness2)
  k_fill
  refine L3.walk_g (l := PySem.Challenge.rw_backmaps_k05_plain_copies_are_equal_and) (n := 63) (k := 8) (CX := fun _ => L2.CX0) (x := "_law_script") rfl (by decide) rfl ⟨rfl, by decide, by decide⟩ (fun w h Y => PySem.W.kIn_of Y) ?F (fun _ _ _ _ _ z => z)
  case F =>
    intro w mg fa h Y KX G hmg
    refine' Bm.all_mk KX G hmg ?zint ?zlen ?zabs ?zisinstance ?zbool ?zstr ?zall ?zrange ?zdict ?zsorted ?zsuper ?zrepr ?zlist ?zmax ?zValueError ?aPL ?aLE ?aML ?aMC ?aC ?aII ?lII ?cII ?kII ?aIP ?lIP ?cIP ?kIP ?aIS ?lIS ?cIS ?kIS ?aNS ?lNS ?cNS ?kNS ?aNa ?lNa ?cNa ?kNa ?aNN ?lNN ?cNN ?kNN ?aIC ?lIC ?cIC ?kIC ?aNC ?lNC ?cNC ?kNC ?aSt ?lSt ?cSt ?kSt ?aDr ?lDr ?cDr ?kDr ?aPi ?lPi ?cPi ?kPi ?aWh ?lWh ?cWh ?kWh ?aLS ?lLS ?cLS ?kLS ?aLN ?lLN ?cLN ?kLN ?aNwF ?lNwF ?cNwF ?kNwF ?aFa ?lFa ?cFa ?kFa ?aDo ?lDo ?cDo ?kDo ?aAs ?lAs ?cAs ?kAs ?aTi ?lTi ?cTi ?kTi ?aRo ?lRo ?cRo ?kRo ?aSa ?lSa ?cSa ?kSa ?aLa ?lLa ?cLa ?kLa ?aMx ?lMx ?cMx ?kMx ?aLed ?lLed ?cLed ?kLed ?aReb ?lReb ?cReb ?kReb ?aOd ?lOd ?cOd ?kOd ?cn ?ct ?pgC ?hdC ?poC ?saC ?mkC ?kC ?n1C ?ccC ?cmC ?aEq ?iEq ?lEq ?cEq ?kEq ?aCop ?iCop ?lCop ?cCop ?kCop ?aIn ?iIn ?lIn ?cIn ?kIn ?aIns ?iIns ?lIns ?cIns ?kIns ?aAdd ?iAdd ?lAdd ?cAdd ?kAdd ?aDro ?iDro ?lDro ?cDro ?kDro ?aMap ?iMap ?lMap ?cMap ?kMap ?aNF ?iNF ?lNF ?cNF ?kNF ?aUnm ?iUnm ?lUnm ?cUnm ?kUnm ?aFor ?iFor ?lFor ?cFor ?kFor ?aMov ?iMov ?lMov ?cMov ?kMov ?aNPl ?iNPl ?lNPl ?cNPl ?kNPl ?aWri ?iWri ?lWri ?cWri ?kWri ?aRea ?iRea ?lRea ?cRea ?kRea ?aSpa ?iSpa ?lSpa ?cSpa ?kSpa ?aPla ?iPla ?lPla ?cPla ?kPla ?aCBN ?kCBN ?bCBN ?tCBN ?xCBN ?aCB ?kCB ?bCB ?tCB ?xCB ?aCV ?kCV ?bCV ?tCV ?xCV ?aCS ?kCS ?bCS ?tCS ?lCS ?rvCS ?saCS ?iiCS ?noCS ?aiCS ?tiCS ?liCS ?ciCS ?lcdCS ?v2CS ?fiCS ?lccCS ?clsCS ?supCS ?sveCS ?mroCS ?opq ?topS ?aCT ?kCT ?bCT ?tCT ?lCT ?rvCT ?saCT ?iiCT ?noCT ?aiCT ?tiCT ?liCT ?ciCT ?lcdCT ?v2CT ?fiCT ?lccCT ?clsCT ?supCT ?sveCT ?mroCT ?aCL ?kCL ?bCL ?tCL ?lCL ?rvCL ?saCL ?iiCL ?noCL ?aiCL ?tiCL ?liCL ?ciCL ?lcdCL ?v2CL ?fiCL ?lccCL ?clsCL ?supCL ?sveCL ?mroCL ?aCU ?kCU ?bCU ?tCU ?lCU ?rvCU ?saCU ?iiCU ?noCU ?aiCU ?tiCU ?liCU ?ciCU ?lcdCU ?v2CU ?fiCU ?lccCU ?clsCU ?supCU ?sveCU ?mroCU ?sbd ?sbi ?kd ?ki
    (case zint => k_is)
    (case zlen => k_is)
    (case zabs => k_is)
    (case zisinstance => k_is)
    (case zbool => k_is)
    (case zstr => k_is)
    (case zall => k_is)
    (case zrange => k_is)
    (case zdict => k_is)
    (case zsorted => k_is)
    (case zsuper => k_is)
    (case zrepr => k_is)
    (case zlist => k_is)
    (case zmax => k_is)
    (case zValueError => k_is)
    (case aPL => k_is)
    (case aLE => k_is)
    (case aML => k_is)
    (case aMC => k_is)
    (case aC => k_is)
    (case aII => k_is)
    (case lII => k_is)
    (case cII => k_is)
    (case kII => k_is)
    (case aIP => k_is)
    (case lIP => k_is)
    (case cIP => k_is)
    (case kIP => k_is)
    (case aIS => k_is)
    (case lIS => k_is)
    (case cIS => k_is)
    (case kIS => k_is)
    (case aNS => k_is)
    (case lNS => k_is)
    (case cNS => k_is)
    (case kNS => k_is)
    (case aNa => k_is)
    (case lNa => k_is)
    (case cNa => k_is)
    (case kNa => k_is)
    (case aNN => k_is)
    (case lNN => k_is)
    (case cNN => k_is)
    (case kNN => k_is)
    (case aIC => k_is)
    (case lIC => k_is)
    (case cIC => k_is)
    (case kIC => k_is)
    (case aNC => k_is)
    (case lNC => k_is)
    (case cNC => k_is)
    (case kNC => k_is)
    (case aSt => k_is)
    (case lSt => k_is)
    (case cSt => k_is)
    (case kSt => k_is)
    (case aDr => k_is)
    (case lDr => k_is)
    (case cDr => k_is)
    (case kDr => k_is)
    (case aPi => k_is)
    (case lPi => k_is)
    (case cPi => k_is)
    (case kPi => k_is)
    (case aWh => k_is)
    (case lWh => k_is)
    (case cWh => k_is)
    (case kWh => k_is)
    (case aLS => k_is)
    (case lLS => k_is)
    (case cLS => k_is)
    (case kLS => k_is)
    (case aLN => k_is)
    (case lLN => k_is)
    (case cLN => k_is)
    (case kLN => k_is)
    (case aNwF => k_is)
    (case lNwF => k_is)
    (case cNwF => k_is)
    (case kNwF => k_is)
    (case aFa => k_is)
    (case lFa => k_is)
    (case cFa => k_is)
    (case kFa => k_is)
    (case aDo => k_is)
    (case lDo => k_is)
    (case cDo => k_is)
    (case kDo => k_is)
    (case aAs => k_is)
    (case lAs => k_is)
    (case cAs => k_is)
    (case kAs => k_is)
    (case aTi => k_is)
    (case lTi => k_is)
    (case cTi => k_is)
    (case kTi => k_is)
    (case aRo => k_is)
    (case lRo => k_is)
    (case cRo => k_is)
    (case kRo => k_is)
    (case aSa => k_is)
    (case lSa => k_is)
    (case cSa => k_is)
    (case kSa => k_is)
    (case aLa => k_is)
    (case lLa => k_is)
    (case cLa => k_is)
    (case kLa => k_is)
    (case aMx => k_is)
    (case lMx => k_is)
    (case cMx => k_is)
    (case kMx => k_is)
    (case aLed => k_is)
    (case lLed => k_is)
    (case cLed => k_is)
    (case kLed => k_is)
    (case aReb => k_is)
    (case lReb => k_is)
    (case cReb => k_is)
    (case kReb => k_is)
    (case aOd => k_is)
    (case lOd => k_is)
    (case cOd => k_is)
    (case kOd => k_is)
    (case cn => k_is)
    (case ct => k_is)
    (case pgC => k_is)
    (case hdC => k_is)
    (case poC => k_is)
    (case saC => k_is)
    (case mkC => k_is)
    (case kC => k_is)
    (case n1C => k_is)
    (case ccC => k_is)
    (case cmC => k_is)
    (case aEq => k_is)
    (case iEq => k_is)
    (case lEq => k_is)
    (case cEq => k_is)
    (case kEq => k_is)
    (case aCop => k_is)
    (case iCop => k_is)
    (case lCop => k_is)
    (case cCop => k_is)
    (case kCop => k_is)
    (case aIn => k_is)
    (case iIn => k_is)
    (case lIn => k_is)
    (case cIn => k_is)
    (case kIn => k_is)
    (case aIns => k_is)
    (case iIns => k_is)
    (case lIns => k_is)
    (case cIns => k_is)
    (case kIns => k_is)
    (case aAdd => k_is)
    (case iAdd => k_is)
    (case lAdd => k_is)
    (case cAdd => k_is)
    (case kAdd => k_is)
    (case aDro => k_is)
    (case iDro => k_is)
    (case lDro => k_is)
    (case cDro => k_is)
    (case kDro => k_is)
    (case aMap => k_is)
    (case iMap => k_is)
    (case lMap => k_is)
    (case cMap => k_is)
    (case kMap => k_is)
    (case aNF => k_is)
    (case iNF => k_is)
    (case lNF => k_is)
    (case cNF => k_is)
    (case kNF => k_is)
    (case aUnm => k_is)
    (case iUnm => k_is)
    (case lUnm => k_is)
    (case cUnm => k_is)
    (case kUnm => k_is)
    (case aFor => k_is)
    (case iFor => k_is)
    (case lFor => k_is)
    (case cFor => k_is)
    (case kFor => k_is)
    (case aMov => k_is)
    (case iMov => k_is)
    (case lMov => k_is)
    (case cMov => k_is)
    (case kMov => k_is)
    (case aNPl => k_is)
    (case iNPl => k_is)
    (case lNPl => k_is)
    (case cNPl => k_is)
    (case kNPl => k_is)
    (case aWri => k_is)
    (case iWri => k_is)
    (case lWri => k_is)
    (case cWri => k_is)
    (case kWri => k_is)
    (case aRea => k_is)
    (case iRea => k_is)
    (case lRea => k_is)
    (case cRea => k_is)
    (case kRea => k_is)
    (case aSpa => k_is)
    (case iSpa => k_is)
    (case lSpa => k_is)
    (case cSpa => k_is)
    (case kSpa => k_is)
    (case aPla => k_is)
    (case iPla => k_is)
    (case lPla => k_is)
    (case cPla => k_is)
    (case kPla => k_is)
    (case aCBN => k_is)
    (case kCBN => k_is)
    (case bCBN => k_is)
    (case tCBN => k_is)
    (case xCBN => k_exc)
    (case aCB => k_is)
    (case kCB => k_is)
    (case bCB => k_is)
    (case tCB => k_is)
    (case xCB => k_exc)
    (case aCV => k_is)
    (case kCV => k_is)
    (case bCV => k_is)
    (case tCV => k_is)
    (case xCV => k_exc)
    (case aCS => k_is)
    (case kCS => k_is)
    (case bCS => k_is)
    (case tCS => k_is)
    (case lCS => k_is)
    (case rvCS => kernel_rfl)
    (case saCS => k_is)
    (case iiCS => kernel_rfl)
    (case noCS => k_is)
    (case aiCS => k_is)
    (case tiCS => k_is)
    (case liCS => k_is)
    (case ciCS => k_is)
    (case lcdCS => k_is)
    (case v2CS => rfl)
    (case fiCS => kernel_rfl)
    (case lccCS => k_is)
    (case clsCS => k_is)
    (case supCS => kernel_rfl)
    (case sveCS => k_is)
    (case mroCS => k_is)
    (case opq => k_is)
    (case topS => kernel_rfl)
    (case aCT => k_is)
    (case kCT => k_is)
    (case bCT => k_is)
    (case tCT => k_is)
    (case lCT => k_is)
    (case rvCT => kernel_rfl)
    (case saCT => k_is)
    (case iiCT => kernel_rfl)
    (case noCT => k_is)
    (case aiCT => k_is)
    (case tiCT => k_is)
    (case liCT => k_is)
    (case ciCT => k_is)
    (case lcdCT => k_is)
    (case v2CT => rfl)
    (case fiCT => kernel_rfl)
    (case lccCT => k_is)
    (case clsCT => k_is)
    (case supCT => kernel_rfl)
    (case sveCT => k_is)
    (case mroCT => k_is)
    (case aCL => k_is)
    (case kCL => k_is)
    (case bCL => k_is)
    (case tCL => k_is)
    (case lCL => k_is)
    (case rvCL => kernel_rfl)
    (case saCL => k_is)
    (case iiCL => kernel_rfl)
    (case noCL => k_is)
    (case aiCL => k_is)
    (case tiCL => k_is)
    (case liCL => k_is)
    (case ciCL => k_is)
    (case lcdCL => k_is)
    (case v2CL => rfl)
    (case fiCL => kernel_rfl)
    (case lccCL => k_is)
    (case clsCL => k_is)
    (case supCL => kernel_rfl)
    (case sveCL => k_is)
    (case mroCL => k_is)
    (case aCU => k_is)
    (case kCU => k_is)
    (case bCU => k_is)
    (case tCU => k_is)
    (case lCU => k_is)
    (case rvCU => kernel_rfl)
    (case saCU => k_is)
    (case iiCU => kernel_rfl)
    (case noCU => k_is)
    (case aiCU => k_is)
    (case tiCU => k_is)
    (case liCU => k_is)
    (case ciCU => k_is)
    (case lcdCU => k_is)
    (case v2CU => rfl)
    (case fiCU => kernel_rfl)
    (case lccCU => k_is)
    (case clsCU => k_is)
    (case supCU => kernel_rfl)
    (case sveCU => k_is)
    (case mroCU => k_is)
    (case sbd => k_is)
    (case sbi => k_is)
    (case kd => kit_is)
    (case ki => kit_is)
