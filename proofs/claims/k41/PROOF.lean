import PyProof.Rows.All
import Wide.All
import OpenK.AllK
import Wide.FinOn
import HandS.ForMost
import HandS.ForExc
import HandS.Lambda
import HandS.EndTab
import HandS.IsInst
import HandS.ExcValue
import HandS.ExcIs
import PyProof.FactsAll.object_2
import PyProof.InstNe
import KE.KExcIs
import HandS.ExcInit
import HandS.ExcField
import KE.KExcSuper
import PyProof.ReprRoads
import HandS.Defaults
import HandS.MakeKwOnly
import HandS.SetFor
import HandS.OwnEq
import PyProof.ReprLen
import HandS.More
import PyProof.Rows.SortShellAny
import PyProof.Rows.SortStr
import PyProof.DictUpdate
import HandS.DictComp
import HandS.DeepEq
import HandS.Walk
import HandS.TupAny
import HandS.Deep
import HandS.SortInts
import HandS.Wide
import HandS.Zip
import HandS.SetKeys
import HandS.Style
import HandS.Strs
import HandS.NoneIn
import KE.GoesEnum
import HandS.Small
import HandS.Flow
import HandS.Property
import HandS.MakeKw
import PySem.Challenge.RW_backmaps_k41_the_simple_rule
set_option Elab.async false
set_option linter.all false
set_option maxRecDepth 100000
set_option maxHeartbeats 4000000
/-! further rules: a caught exception kept as a value; isinstance of it; == and != by an own __eq__ with either answer -/
namespace L3
open PySem PySem.Spec PyProof.Rows L2

/-- an exception object of the class cls, its own dict at d, held as a value -/
def ExV (cls : Value) (d : Option Addr) (a : Addr) : HO := .ext fun h => ∃ (oe : Obj) (vs : Array Value), h.get? a = some oe ∧ Zc cls d oe ∧ oe.data = .fields vs
theorem exV_ok {P : Program} {w : World} {H : Hp} {h : Heap} {a : Addr} {cls : Value} {d : Option Addr} {oe : Obj} {vs : Array Value} (e : h.get? a = some oe) (z : Zc cls d oe) (hd : oe.data = .fields vs) : ObjOk P w H h a (ExV cls d a) :=
  ⟨⟨oe, vs, e, z, hd⟩, ⟨oe, e⟩, fun _ _ ⟨o, v, q, r⟩ k => ⟨o, v, k o q, r⟩⟩
section
variable {X : Cx} {pins : List (Addr × Obj)} {σ : L2.St} {H : Hp} {s sI : Shared}
/-- an object that is new since sI is tracked from now on -/
theorem track (J : Inv X pins σ H s) (JI : Inv X pins σ H sI) {a : Addr} {oe : Obj} {vs : Array Value} {cls : Value} {d : Option Addr} (na : H a = none) (new : sI.heap.get? a = none) (he : s.heap.get? a = some oe) (hz : Zc cls d oe) (hd : oe.data = .fields vs) :
    Inv X pins σ (upd H a (ExV cls d a)) s := by
  have nI : ∀ b o, sI.heap.get? b = some o → b ≠ a := fun b o e z => by
    rw [z, new] at e
    cases e
  have nH : ∀ b u, H b = some u → b ≠ a := fun b u e => ne_of_none e na
  refine ⟨J.ok, J.os, J.bare, ⟨J.base.keep, J.base.slot, fun b o e n hx => ?_, J.base.there, fun b xs e => ?_, fun b o u e => ?_, fun b ps e => ?_⟩, J.loc, J.cell, ?_, fun x c e => ?_, fun p hp => ?_, ?_, J.len⟩
  · obtain ⟨o', e'⟩ := JI.base.there b o e hx
    rw [upd_ne (nI b o' e')]
    exact J.base.free b o e n hx
  · have q := J.base.tups b xs e
    rw [upd_ne (nH b _ q)]
    exact q
  · have q := J.base.frzs b o u e
    rw [upd_ne (nH b _ q)]
    exact q
  · obtain ⟨m, q⟩ := J.base.tbls b ps e
    exact ⟨m, by rw [upd_ne (nH b _ q)]; exact q⟩
  · obtain ⟨m, ⟨o, es, ep, ho, r⟩, _⟩ := JI.loc
    rw [upd_ne (nI _ _ ho)]
    exact J.free
  · obtain ⟨v, o, ho, _⟩ := JI.cell x c e
    rw [upd_ne (nI _ _ ho)]
    exact J.freeC x c e
  · obtain ⟨e1, _⟩ := JI.pin p hp
    obtain ⟨g1, g2, g3, g4, g5⟩ := J.pin p hp
    exact ⟨g1, by rw [upd_ne (nI _ _ e1)]; exact g2, g3, g4, g5⟩
  · exact J.hok.laidN (fun _ _ e => e) na (exV_ok he hz hd)
/-- an exception in the air at a, from here on an object of the abstract heap: what an except clause's suite starts from -/
theorem kept_at (hs : X.stack = X.env :: X.outer) {B : Heap} {sI : Shared} {a : Addr} {cls : Value} {d : Option Addr} (I : Inv X pins σ H sI) (old : ∀ b o, sI.heap.get? b = some o → b ∉ frs X.stack → B.get? b = some o)
    (fly : HandSPX.FlyingZ B (X.env :: X.outer) a (Zc cls d) s.heap) (up : sI.heap.UpToSlots s.heap) (ho : s.os = sI.os) (hb : AllBare s.gens) (na : H a = none) :
    Inv (X.suite a (X.pn ++ pins)) [] σ (upd H a (ExV cls d a)) s := by
  obtain ⟨oe, vs, he, hz, hd⟩ := fly.there
  have off : a ∉ frs X.stack := by
    rw [hs]
    intro hm
    obtain ⟨_, o, e, bad⟩ := fly.2.2.1.mem hm
    cases he.symm.trans e
    exact bad vs hd
  have fresh : sI.heap.get? a = none := Option.eq_none_iff_forall_ne_some.mpr fun o e => by
    have z := old a o e off
    rw [fly.2.1] at z
    cases z
  have K := track (I.landed old fly.1 up ho hb) I na fresh he hz hd
  exact { ok := K.ok.suite _ _, os := K.os, bare := K.bare, base := K.base, loc := K.loc, cell := K.cell, free := K.free, freeC := K.freeC, pin := fun p hp => K.pin p (by simpa using hp), hok := K.hok, len := K.len }
/-- behind the suite -/
theorem out_of_suite {a : Addr} {rest : List (Addr × Obj)} (ok : X.Ok) (K : Inv (X.suite a (X.pn ++ pins)) rest σ H s) : Inv X pins σ H s where
  ok := ok
  os := K.os
  bare := K.bare
  base := K.base
  loc := K.loc
  cell := K.cell
  free := K.free
  freeC := K.freeC
  pin := fun p hp => K.pin p (List.mem_append.mpr (.inl hp))
  hok := K.hok
  len := K.len
end
/-- the ends of an except clause's suite: the name at i goes -/
def goes (i : Nat) (D : Ends) : Ends := ⟨fun τ G => D.nx (τ.set i none) G, D.rt, fun τ G => D.bk (τ.set i none) G, fun τ G => D.ct (τ.set i none) G⟩
/-- what 'except x as n' wishes, if it catches all that the body raises, and the exception is held as a value from the suite on; n is at the slot i of m -/
def wTrk (K : PySem.W.Frag) (c : Value) (i m : Nat) (ts : Addr → TS) (D : Ends) : WX := fun cls d τ G => τ.length = m → PySem.W.exmOne K cls c = some true ∧ ∀ a, G a = none → ts a (goes i D) (τ.set i (some (.ref a))) (upd G a (ExV cls d a))
section
variable {X : Cx} {x n : Str} {c : Value} {i : Nat} {body suite : List Stmt} {b₀ : Stmt} {np pos pos' : Pos} {tb : WX → TS} {ts : Addr → TS}
/-- the clause, at an exception that flies -/
theorem clause_trk {pins : List (Addr × Obj)} {D : Ends} {e : Value} {s₁ : Shared} (ok : X.Ok) (hs : X.stack = X.env :: X.outer) (hf : X.env.frame = some X.env.locals) (hN : X.N.Nodup) (hi : X.N[i]? = some n) (hln : X.env.kindOf n = some .local) (hc : Names X x c)
    (hsu : ∀ (a : Addr) (pn : List (Addr × Obj)), PSs (X.suite a pn) (b₀ :: suite) (ts a)) {xe : Value → Shared → Prop} (air : XE (X.tr (X.pn ++ pins) xe) (wTrk X.K c i X.N.length ts D) e s₁) :
    wpAny (model X.prog X.w) X.A (noteFrame e X.env) (fun _ s₂ => wpAny (model X.prog X.w) X.A (setFlight e none) (fun _ s₃ => wpAny (model X.prog X.w) X.A (handleBy e X.env [.ExceptHandler (some (.Name x np)) (some n) (b₀ :: suite) pos']) (SP X pins D) X.xe s₃) X.xe s₂) X.xe s₁ := by
  have off : ∀ {σ₆ : L2.St} {H₆ : Hp} {s₆ : Shared} {Q : Shared → Prop} {a : Addr}, Inv (X.suite a (X.pn ++ pins)) [] σ₆ H₆ s₆ → (∀ s₇, Inv X pins (σ₆.set i none) H₆ s₇ → Q s₇) →
      wpAny (model X.prog X.w) X.A (do bindName X.env n .none; unbindBehindTheSuite X.env n pos') (fun _ s₇ => Q s₇) X.xe s₆ := fun K q => gone_ok (out_of_suite ok K) hN hi hln q
  rcases air with ⟨a, B, sI, rest, τ, G, cls, d, rfl, J', old, up, sky, na, ho, hb, wish⟩
  have J := J'.ofTry ok
  obtain ⟨mt, run⟩ := wish J'.len
  have kept := fun (h : Heap) (fl : HandSPX.FlyingZ B (X.env :: X.outer) a (Zc cls d) h) (u : sI.heap.UpToSlots h) => kept_at (s := { s₁ with heap := h }) hs J old fl u ho hb na
  apply Sky.land Zc.steady (ok.frames.trans (congrArg some hs)) hf (by rw [← hs]; exact sky)
  intro h₃ fly₃ up₃
  have K₃ := kept h₃ fly₃ (up.trans up₃)
  obtain ⟨oe, vs, he, hz, _⟩ := fly₃.there
  apply wpAny_handleBy_cons (codeAny_handlers_test ?_) (by intro q; cases q)
  have ask := PySem.W.exm_one (M := model X.prog X.w) K₃.kIn (e := a) (fun A Q E s k q => wpAny_typeOf_ref (k _ _ he) (hz.1.symm ▸ q)) mt
  have name : ∀ {Q : Value → Shared → Prop} {E : Value → Shared → Prop}, Q c { s₁ with heap := h₃ } → wpAny (model X.prog X.w) (X.A.mark (some (.ref a))) (eval (.Name x np) X.env) Q E { s₁ with heap := h₃ } := by
    intro Q E q
    rcases hc with ⟨hg, nd, own | ⟨no, bb, nn⟩⟩
    · exact ld_glob (X := X.suite a (X.pn ++ pins)) K₃ hg own q nd
    · exact ld_blt (X := X.suite a (X.pn ++ pins)) K₃ hg no bb q nn nd
  apply name
  apply ask.here
  apply codeAny_handlers_suite_as
  apply HandSPX.lands_againZ fly₃
  intro h₄ fly₄ up₄
  apply store_ok (X := X.suite a (X.pn ++ pins)) (v := .ref a) (kept h₄ fly₄ ((up.trans up₃).trans up₄)) hN hi (.inl hln) rfl _ (.inr hln)
  intro s₅ K₅
  apply wpAny_mono ((hsu a (X.pn ++ pins)).run [] s₅ _ _ _ K₅ (run a na)) _ fun _ _ z => z.elim
  intro f s₆ e₆
  cases f with
  | ret u =>
    obtain ⟨v, _, _, K, r, q⟩ := e₆
    exact off K fun _ J₇ => ⟨v, _, _, J₇, r, q⟩
  | next => exact (match e₆ with | ⟨_, _, K, q⟩ => off K fun _ J₇ => ⟨_, _, J₇, q⟩)
  | brk => exact (match e₆ with | ⟨_, _, K, q⟩ => off K fun _ J₇ => ⟨_, _, J₇, q⟩)
  | cont => exact (match e₆ with | ⟨_, _, K, q⟩ => off K fun _ J₇ => ⟨_, _, J₇, q⟩)
/-- try: body / except x as n: suite, where x catches all that the body raises -/
theorem ps_try_trk (hs : X.stack = X.env :: X.outer) (hf : X.env.frame = some X.env.locals) (hN : X.N.Nodup) (hi : X.N[i]? = some n) (hln : X.env.kindOf n = some .local) (hc : Names X x c)
    (hb : ∀ (W : WX) (pn : List (Addr × Obj)) (xe : Value → Shared → Prop), Takes (X.tr pn xe) W → PassesOwn (model X.prog X.w) X.A X.env xe → PSs (X.tr pn xe) body (tb W))
    (hsu : ∀ (a : Addr) (pn : List (Addr × Obj)), PSs (X.suite a pn) (b₀ :: suite) (ts a)) :
    PS X (.Try body [.ExceptHandler (some (.Name x np)) (some n) (b₀ :: suite) pos'] [] [] pos) (fun D τ G => tb (wTrk X.K c i X.N.length ts D) D τ G) where
  run pins s τ G D I h := by
    apply wpAny_Try_except
    refine wpAny_mono ((hb (wTrk X.K c i X.N.length ts D) (X.pn ++ pins) _ (fun _ _ air => clause_trk I.ok hs hf hN hi hln hc hsu air) PassesOwn.looking).run [] s τ G D (I.toTry _) h) ?_ fun _ _ r => r
    intro f s₁ e₁
    cases f with
    | ret u => exact (match e₁ with | ⟨v, _, _, K, r, q⟩ => ⟨v, _, _, K.ofTry I.ok, r, q⟩)
    | next => exact (match e₁ with | ⟨_, _, K, q⟩ => wpAny_execs_nil ⟨_, _, K.ofTry I.ok, q⟩)
    | brk => exact (match e₁ with | ⟨_, _, K, q⟩ => ⟨_, _, K.ofTry I.ok, q⟩)
    | cont => exact (match e₁ with | ⟨_, _, K, q⟩ => ⟨_, _, K.ofTry I.ok, q⟩)
end
end L3
namespace L3
open PySem PySem.Spec PyProof.Rows L2
/-! ### isinstance of any of these -/
/-- what x is: a value of a kind that TyX tells, or a kept exception of an own class -/
inductive TyV (K : PySem.W.Frag) (H : Hp) : V → Value → Prop where
  | base {x : V} {t : Value} (h : TyX K H x t) : TyV K H x t
  | exc {a D : Addr} (h : H a = some (ExV (.ref D) none a)) (c : L2.ExcC K D) : TyV K H (.ref a) (.ref D)
  | excd {a D dd : Addr} {fs : List (Str × V)} (h : H a = some (ExV (.ref D) (some dd) a)) (hd : H dd = some (.xd fs)) (c : L2.ExcC K D) (hno : ¬ ("__class__" : Str) ∈ fs.map (·.1)) : TyV K H (.ref a) (.ref D)
def rIsV (K : PySem.W.Frag) : List V → Hp → VK → Prop := fun xs H Q => ∃ (x c : V) (t u : Value) (b : Bool), xs = [x, c] ∧ ClsV c u ∧ TyV K H x t ∧ PySem.W.kitOne K t u = some b ∧ Q (.bl b) H
theorem excC_kit {K : PySem.W.Frag} {D x : Addr} {ox : Obj} {od : Option Obj} (c : L2.ExcC K D) : PySem.W.KitX K (.ref x) (.ref D) (fun h => PySem.W.InstAt h x ox D od) :=
  PySem.W.kitx_exc (by obtain ⟨cd, hc, _⟩ := PySem.W.any_some c.hd; rw [hc]; rfl) c.hg c.hk c.hs c.ha c.hn c.ht c.hm
section
variable {X : Cx} {pins : List (Addr × Obj)} {σ : L2.St} {H : Hp} {s : Shared}
theorem exv_inst (I : Inv X pins σ H s) {a D : Addr} (h : H a = some (ExV (.ref D) none a)) : ∃ ox, PySem.W.InstAt s.heap a ox D none := by
  obtain ⟨⟨oe, vs, e, z, hd⟩, _, _⟩ := I.hok a _ h
  refine ⟨oe, ?_⟩
  obtain ⟨oc, od, oda, osl⟩ := oe
  obtain ⟨h1, h2⟩ := z
  dsimp only at h1 h2 hd
  subst h1 h2 hd
  exact ⟨e, rfl, rfl, trivial⟩
theorem exv_instd (I : Inv X pins σ H s) {a D dd : Addr} {fs : List (Str × V)} (h : H a = some (ExV (.ref D) (some dd) a)) (hd : H dd = some (.xd fs)) : ∃ ox od, PySem.W.InstAt s.heap a ox D (some od) ∧ s.heap.get? dd = some od := by
  obtain ⟨⟨oe, vs, e, z, hdt⟩, _, _⟩ := I.hok a _ h
  obtain ⟨mA, ⟨od, es, ep, e2, r⟩, _⟩ := (show ObjOk X.prog X.w H s.heap dd (.xd fs) from I.hok dd _ hd)
  refine ⟨oe, od, ?_, e2⟩
  obtain ⟨oc, o2, oda, osl⟩ := oe
  obtain ⟨h1, h2⟩ := z
  dsimp only at h1 h2 hdt
  subst h1 h2 hdt
  exact ⟨e, rfl, rfl, e2⟩
/-- what the library's isinstance rules ask -/
theorem kitV_of {x : V} {u t : Value} (I : Inv X pins σ H s) (rx : RelV x u) (ty : TyV X.K H x t) : ∃ P : Heap → Prop, PySem.W.KitX X.K u t P ∧ P s.heap ∧ u ≠ .builtin "__main__.__loader__#opaque" := by
  cases ty with
  | base h => exact kit_of I rx h
  | @exc a D h c =>
    obtain rfl : u = .ref a := rx
    obtain ⟨ox, J⟩ := exv_inst I h
    exact ⟨_, excC_kit c, J, fun z => nomatch z⟩
  | @excd a D dd fs h hd c hno =>
    obtain rfl : u = .ref a := rx
    obtain ⟨ox, od, J, _⟩ := exv_instd I h hd
    exact ⟨_, excC_kit c, J, fun z => nomatch z⟩
end
theorem call_isV {X : Cx} : CallR X (.builtin "isinstance") (rIsV X.K) := by
  rintro pins s σ H xs us Q I r ⟨x, c, t, u, b, rfl, k, ty, e, q⟩
  obtain ⟨_, _, rfl, r1, r2⟩ := vals2 r
  have e2 := k.eq r2
  subst e2
  obtain ⟨P, Z, p, hx⟩ := kitV_of I r1 ty
  exact PySem.W.kia_one Z I.kIn p e hx fun n => ⟨.bl b, H, I.tok n, rfl, q⟩
/-! ### == and != by an own __eq__ -/
/-- x == y, x an instance of the class at C whose __eq__ is the text's own -/
def rOwnEq (K : PySem.W.Frag) (C : Addr) (sp : Sp) (E : XK) (neg : Bool) : R2 := fun x y H Q => ∃ (a dx : Addr) (fs : List (Str × V)) (tb : Value), x = .ref a ∧ H a = some (.ins C dx fs) ∧ TyV K H y tb ∧ PySem.W.notFirst K C tb = true ∧
  sp [x, y] H (fun v H' => ∃ b, v = .bl b ∧ Q (.bl (if neg then !b else b)) H') E
section
variable {prog : Program} {w : World} {A : Around} {E : Value → Shared → Prop} {s : Shared} {K : PySem.W.Frag} {x C L f : Addr} {h₀ : Heap} {m : Str → Option Value} {ox : Obj} {od : Option Obj} {name : Str} {b tb : Value}
open PySem.W in
/-- a special method that the class has as a builtin is called with the instance ahead -/
theorem ifBound_B {M : Model} {id : String} {args : List Value} {Q : Option Value → Shared → Prop} (X : K.In s.heap) (I : InstAt s.heap x ox C od) (hs : findIn K (.ref C) name = some (some (.builtin id))) (hb : ∀ self, bindSpecial (.builtin id) self = pure (.builtin id, [self]))
    (h : wpAny M A (call (.builtin id) (.ref x :: args)) (fun v => Q (some v)) E s) : wpAny M A (callSpecialIfBound? (.ref x) name args) Q E s := by
  have ended : wpAny M A (call (.builtin id) ([.ref x] ++ args) >>= fun v => pure (some v)) Q E s :=
    wpAny_bind (wpAny_mono h (fun _ _ => wpAny_pure) fun _ _ e => e)
  unfold callSpecialIfBound? bindSpecialIfBound?
  apply wpAny_holding
  iterate 3 apply wpAny_bind
  apply I.type.here
  apply (looks_findIn X hs).here
  apply wpAny_bind
  apply wpAny_askSetting
  apply wpAny_ite
  split <;> rw [hb]
  all_goals repeat (first | exact ended | apply wpAny_tryCatch | apply wpAny_bind | apply wpAny_pure)
open PySem.W in
/-- object.__ne__ of an instance whose __eq__ is the text's own -/
theorem objNe_own {Q : Fin → Shared → Prop} (X : K.In s.heap) (I : InstAt s.heap x ox C od) (hu : A.units < cLine) (hs : findIn K (.ref C) "__eq__" = some (some (.ref f))) (hf : isFn K (.ref f) = true)
    (h : wpAny (model prog w) A (call (.ref f) [.ref x, b]) (fun v s' => ∃ r, v = .bool r ∧ Q (.done (.ret (.bool (!r)))) s') E s) :
    wpAny (model prog w) A (Builtin.«object.__ne__» ⟨[.ref x, b], []⟩) Q E s := by
  have eqd := fun (R : Option Value → Shared → Prop) (z : ∀ r s', Q (.done (.ret (.bool (!r)))) s' → R (some (.bool r)) s') =>
    ifBound_K (args := [b]) (Q := R) X I hs hf (wpAny_mono h (fun _ s' ⟨r, e, q⟩ => e ▸ z r s' q) fun _ _ e => e)
  unfold Builtin.«object.__ne__»
  repeat (first
    | (with_reducible apply wpAny_cRoomFor hu)
    | (apply wpAny_bind (m := callSpecialIfBound? (.ref x) (Str.ofString "__eq__") [b]); apply eqd; intro r s' q)
    | exact q
    | exact wpAny_pure q
    | exact wpAny_truthy_bool q
    | (apply wpAny_bind (m := truthy (.bool _)); apply wpAny_truthy_bool)
    | wp_step)
open PySem.W in
/-- the comparison's own answer, where the left side is asked first and answers -/
theorem asked_first {Q : Value → Shared → Prop} (hu : A.units < cLine) (X : K.In s.heap) (I : InstAt s.heap x ox C od) (hb : Looks (model prog w) s.heap (typeOf b) tb) (hn : notFirst K C tb = true)
    (one : wpAny (model prog w) A (tryCompare (.ref x) (cmpInfo .NotEq).2.1 b) (fun r s' => ∃ v, r = some v ∧ Q v s') E s) : wpAny (model prog w) A (richCompare .NotEq (.ref x) b) Q E s := by
  have no : (tb != .ref C) = true → subIn K tb (.ref C) = some false := fun z => by
    have hn' : (tb == .ref C || subIn K tb (.ref C) == some false) = true := hn
    rw [show (tb == .ref C) = false from by simpa [bne] using z, Bool.false_or] at hn'
    exact beq_iff_eq.mp hn'
  have rest := fun (k : Option Value → Sem Value) (hk : ∀ v, k (some v) = pure v) => wpAny_bind (f := k) (wpAny_mono one (fun r s' ⟨v, e, q⟩ => show wpAny (model prog w) A (k r) Q E s' by rw [e, hk]; exact wpAny_pure q) fun _ _ e => e)
  simp only [richCompare, oneThing_ref]
  apply wpAny_holding
  apply wpAny_bind
  apply wpAny_cRoomFor hu
  apply wpAny_bind
  apply I.type.here
  apply wpAny_bind
  apply hb.here
  by_cases q : (Value.ref C != tb) = true
  · rw [if_pos q]
    apply wpAny_bind
    apply (looks_subIn X (no (bne_comm.trans q))).here
    exact rest _ fun _ => rfl
  · rw [if_neg q]
    exact wpAny_bind (wpAny_pure (rest _ fun _ => rfl))
open PySem.W in
theorem cmp_neOwn {Q : Value → Shared → Prop} (hu : A.units + 1 < cLine) (X : K.In s.heap) (I : InstAt s.heap x ox C od) (hb : Looks (model prog w) s.heap (typeOf b) tb) (hn : notFirst K C tb = true) (hs : findIn K (.ref C) "__eq__" = some (some (.ref f))) (hf : isFn K (.ref f) = true)
    (hsN : findIn K (.ref C) "__ne__" = some (some (.builtin "object.__ne__"))) (hm : mroIn K C (.type "object") = some true)
    (h : wpAny (model prog w) A.in1 (call (.ref f) [.ref x, b]) (fun v s' => ∃ r, v = .bool r ∧ Q (.bool (!r)) s') E s) : wpAny (model prog w) A (richCompare .NotEq (.ref x) b) Q E s := by
  apply asked_first (Nat.lt_of_succ_lt hu) X I hb hn
  unfold tryCompare
  apply wpAny_bind
  apply ifBound_B X I hsN F.slot_object_ne.bind
  apply wpAny_call (codeAny_call_builtin F.slot_object_ne.plain F.cmpEntry_ne (check_slot F.cmpKind_ne F.cmpSplit_ne (I.type.andThen (looks_mroIn X hm)) (F.cmpArgs_ne _ _) _))
  exact objNe_own X I (A := A.in1) hu hs hf (wpAny_mono h (fun _ _ ⟨r, e, q⟩ => ⟨r, e, wpAny_pure ⟨_, rfl, q⟩⟩) fun _ _ e => e)
end
section
variable {X : Cx} {CX : CXT} {n : Nat} {C f : Addr} {fd : FuncData} {ps : List Str} {sp : Sp} {E : XK}
/-- the call of an own __eq__ that answers with a bool -/
theorem call_eq {A' : Around} {pins : List (Addr × Obj)} {s : Shared} {σ : L2.St} {H : Hp} {a : Addr} {y : V} {u : Value} {Q : Bool → Hp → Prop} (F : FnOk X.prog X.w X.K X.mg X.base CX n f fd ps sp) (hb : L2.Binds X.K fd ps []) (hx : Passes CX X E) (I : Inv X pins σ H s) (ry : RelV y u)
    (hr : Room n A') (he : Env0 X.prog X.w X.K X.mg X.base A' X.stack s H) (hsp : sp [.ref a, y] H (fun v H' => ∃ b, v = .bl b ∧ Q b H') E) :
    wpAny (model X.prog X.w) A' (call (.ref f) [.ref a, u]) (fun v s' => ∃ b, v = .bool b ∧ ∃ H', Inv X pins σ H' s' ∧ Q b H') X.xe s := by
  have bound := hb s [.ref a, u] I.kIn (by simpa using F.len _ _ _ _ hsp)
  apply wpAny_call (codeAny_mono (F.run A' X.stack s H ⟨[.ref a, u], []⟩ [.ref a, u] [.ref a, y] _ E hr he (by simpa using bound) (.cons rfl (.cons ry .nil)) hsp) _)
  rintro (e | fl) s' hq
  · exact hx pins σ H s e s' I hq
  · cases fl with
    | ret v =>
      obtain ⟨_, H', I', rz, b, rfl, q⟩ := I.after hq
      exact ⟨b, rz, H', I', q⟩
    | _ => exact hq.elim
theorem op_eqOwn (F : FnOk X.prog X.w X.K X.mg X.base CX n f fd ps sp) (hs : PySem.W.findIn X.K (.ref C) "__eq__" = some (some (.ref f))) (hf : PySem.W.isFn X.K (.ref f) = true) (hb : L2.Binds X.K fd ps []) (hx : Passes CX X E) (hr : Room n X.A) :
    OpR X (compareOp .Eq) (rOwnEq X.K C sp E false) := by
  rintro pins s σ H x y v u Q I rx ry ⟨a, dx, fs, tb, rfl, ha, ty, hn, hsp⟩
  cases rx
  obtain ⟨_, ⟨od, J, _⟩⟩ := (ins_get I.hok ha).imp fun _ z => z.1.look
  obtain ⟨P, Z, p, _⟩ := kitV_of I ry ty
  obtain ⟨m, hF⟩ := I.fr
  exact PySem.W.cmp_K (op := .Eq) (tb := tb) hr.units0 hF I.ok.mod.kin J (Z.ty _ _ I.kIn p) hn hs hf
    (wpAny_mono (call_eq F hb hx I ry hr I.env0 hsp) (fun _ _ ⟨b, e, H', I', q⟩ => e ▸ ⟨.bl b, H', I', rfl, q⟩) fun _ _ e => e)
theorem op_neOwn (F : FnOk X.prog X.w X.K X.mg X.base CX n f fd ps sp) (hs : PySem.W.findIn X.K (.ref C) "__eq__" = some (some (.ref f))) (hf : PySem.W.isFn X.K (.ref f) = true) (hsN : PySem.W.findIn X.K (.ref C) "__ne__" = some (some (.builtin "object.__ne__")))
    (hm : PySem.W.mroIn X.K C (.type "object") = some true) (hb : L2.Binds X.K fd ps []) (hx : Passes CX X E) (hr : Room (n + 1) X.A) :
    OpR X (compareOp .NotEq) (rOwnEq X.K C sp E true) := by
  rintro pins s σ H x y v u Q I rx ry ⟨a, dx, fs, tb, rfl, ha, ty, hn, hsp⟩
  cases rx
  obtain ⟨_, ⟨od, J, _⟩⟩ := (ins_get I.hok ha).imp fun _ z => z.1.look
  obtain ⟨P, Z, p, _⟩ := kitV_of I ry ty
  exact cmp_neOwn (by have := hr.un; omega) I.kIn J (Z.ty _ _ I.kIn p) hn hs hf hsN hm
    (wpAny_mono (call_eq F hb hx I ry hr.in1 I.env0.in1 hsp) (fun _ _ ⟨b, e, H', I', q⟩ => ⟨b, e, .bl (!b), H', I', rfl, q⟩) fun _ _ e => e)
end
end L3
set_option maxRecDepth 100000
set_option maxHeartbeats 4000000
/-! promises that hold where nothing is being shown yet (no guards): calls of such defs, and the law's end -/
namespace L3
open PySem PySem.Spec PyProof.Rows L2 LamX
/-- a def's promise, where no object is being shown -/
structure FnG (P : Program) (w : World) (K : PySem.W.Frag) (mg : Str → Option Value) (base : Heap) (CX : CXT) (k : Nat) (f : Addr) (fd : FuncData) (ps : List Str) (sp : Sp) : Prop where
  len : ∀ vs H Q E, sp vs H Q E → vs.length = ps.length
  run : ∀ (A : Around) (outer : List Env) (s : Shared) (H : Hp) (args : Args) (us : List Value) (vs : List V) (Q : VK) (E : XK), A.guards = some [] → Room k A → Env0 P w K mg base A outer s H → BindsTo s fd args (ps.zip us) → Vals vs us → sp vs H Q E →
    codeAny (model P w) A (.call (.ref f) args) (CR CX outer P w H s Q E) s
theorem FnG.of {P : Program} {w : World} {K : PySem.W.Frag} {mg : Str → Option Value} {base : Heap} {CX : CXT} {k : Nat} {f : Addr} {fd : FuncData} {ps : List Str} {sp : Sp} (F : FnOk P w K mg base CX k f fd ps sp) : FnG P w K mg base CX k f fd ps sp :=
  ⟨F.len, fun A outer s H args us vs Q E _ => F.run A outer s H args us vs Q E⟩
section
variable {X : Cx} {CX : CXT} {k : Nat} {f : Addr} {fd : FuncData} {ps : List Str} {sp : Sp} {E : XK} {ds : List Value} {dvs : List V}
theorem run_g {pins : List (Addr × Obj)} {σ : L2.St} {H : Hp} {s : Shared} {Q : VK} {us : List Value} {vs : List V} (F : FnG X.prog X.w X.K X.mg X.base CX k f fd ps sp) (gd : X.A.guards = some []) (hr : Room k X.A) (hb : L2.Binds X.K fd ps ds) (hd : Vals dvs ds) (hx : Passes CX X E)
    (I : Inv X pins σ H s) (r : Vals vs us) (h : sp (vs ++ dvs) H Q E) : wpAny (model X.prog X.w) X.A (call (.ref f) us) (EP X pins σ Q) X.xe s := by
  have all : Vals (vs ++ dvs) (us ++ ds) := r.append hd
  have long : (us ++ ds).length = ps.length := all.length ▸ F.len _ _ _ _ h
  apply wpAny_call
  refine codeAny_mono (F.run X.A X.stack s H ⟨us, []⟩ _ _ Q E gd hr I.env0 (hb s us I.kIn long) all h) ?_
  rintro (e | fl) s' hq
  · exact hx pins σ H s e s' I hq
  · cases fl with
    | ret u => exact I.after hq
    | _ => exact hq.elim
/-- f(e, ..) -/
theorem pe_callG {x : Str} {p pos : Pos} {e : Expr} {es : List Expr} {t : TA} (F : FnG X.prog X.w X.K X.mg X.base CX k f fd ps sp) (gd : X.A.guards = some []) (hr : Room k X.A) (hg : Gl X x) (hm : X.mg x = some (.ref f)) (hk : PySem.W.keepIn X.K (.ref f) = true) (hb : L2.Binds X.K fd ps ds) (hd : Vals dvs ds) (hx : Passes CX X E)
    (ha : PA X (e :: es) t) (hdb : (x == ("__debug__" : Str)) = false := by decide) (he : starEach (e :: es) X.env = (false, eval e X.env) :: starEach es X.env := by rfl) (hpl : (backTo pos (starEach es X.env)).any (·.1) = false := by rfl) :
    PE X (.Call (.Name x p) (e :: es) [] pos) (tCall sp dvs E t) where
  run pins s σ H Q I h := by
    apply wpAny_Call_Name_kw
    apply ld_glob I hg hm _ hdb
    refine PySem.W.callWith_K (h₀ := X.base) I.ok.mod.kin hk (thn (ha.run pos pins s σ H _ I h) ?_) he hpl
    rintro us s₁ ⟨vs, H₁, I₁, r, q⟩
    exact ⟨I₁.kIn, run_g F gd hr hb hd hx I₁ r q⟩
end
/-- a def whose body's readings want that nothing is being shown -/
theorem fn_g {CX : CXT} {P : Program} {w : World} {K : PySem.W.Frag} {mg : Str → Option Value} {base : Heap} {k : Nat} {f : Addr} {name qual : Str} {params : Arguments} {body : List Stmt} {scope : Scope} {dV kV doc pm cdv ct oc : Value} {an od : Option Addr} {osl : Array (Option Value)} {N ps : List Str} {sp : Sp}
    (lk : K.lookup f = some ⟨oc, od, .func (PySem.W.fnOf name qual params body scope dV kV doc pm an cdv ct), osl⟩) (hcd : PySem.W.codeIn K cdv qual = true) (S : FnScope N ps scope) (hl : ∀ vs H Q E, sp vs H Q E → vs.length = ps.length)
    (h : ∀ (A : Around) (outer : List Env) (s : Shared) (H : Hp) (vs : List V) (Q : VK) (E : XK), (A.deeper (envOfC qual scope s.heap.objs.size f cdv)).guards = some [] → Room k (A.deeper (envOfC qual scope s.heap.objs.size f cdv)) → sp vs H Q E →
      ∃ t, PSs (cxOf CX P w K mg base N qual scope f cdv A outer s H E) body t ∧ t { nx := fun _ H' => Q .non H', rt := Q } (L2.start N vs) H) :
    FnG P w K mg base CX (k + 1) f (PySem.W.fnOf name qual params body scope dV kV doc pm an cdv ct) ps sp :=
  ⟨hl, fun A outer s H args us vs Q E gd hr e0 hb r hs => run_ofS lk hcd S hr e0 hb r (hl _ _ _ _ hs) fun hr' => h A outer s H vs Q E gd hr' hs⟩
section
variable {K : PySem.W.Frag} {h : Heap} {ts : List Addr} {a : Addr} {vs : Array Value} {xs : List V}
/-- what is tracked as the law begins: the tables, and the script's list as it stands (if the written part has it not) -/
def H₀ (K : PySem.W.Frag) (ts : List Addr) (a : Addr) (vs : Array Value) (xs : List V) : Hp := fun b =>
  if b ∈ ts then some (.tbl #[]) else if b = a ∧ (K.lookup a).isNone = true then some (.frz { cls := .type "list", data := .seq vs } (.lst xs)) else none
theorem H₀_tab {b : Addr} (e : b ∈ ts) : H₀ K ts a vs xs b = some (.tbl #[]) := if_pos e
theorem H₀_at (n : a ∉ ts) (k : K.lookup a = none) : H₀ K ts a vs xs a = some (.frz { cls := .type "list", data := .seq vs } (.lst xs)) := by
  unfold H₀
  rw [if_neg n, if_pos ⟨rfl, by rw [k]; rfl⟩]
theorem H₀_cases (b : Addr) : H₀ K ts a vs xs b = none ∨ (b ∈ ts ∧ H₀ K ts a vs xs b = some (.tbl #[])) ∨ (b = a ∧ K.lookup a = none ∧ H₀ K ts a vs xs b = some (.frz { cls := .type "list", data := .seq vs } (.lst xs))) := by
  unfold H₀
  by_cases t : b ∈ ts
  · exact .inr (.inl ⟨t, if_pos t⟩)
  · rw [if_neg t]
    by_cases e : b = a ∧ (K.lookup a).isNone = true
    · exact .inr (.inr ⟨e.1, Option.isNone_iff_eq_none.mp e.2, if_pos e⟩)
    · exact .inl (if_neg e)
theorem H₀_off (hT : ∀ b ∈ ts, h.get? b = some { cls := .none, data := .fields #[] }) (ha : h.get? a = some { cls := .type "list", data := .seq vs }) {b : Addr} {o : Obj} (e : h.get? b = some o) (n1 : ∀ v n, o.data ≠ .seq v n) (n2 : o.data ≠ .fields #[]) : H₀ K ts a vs xs b = none := by
  rcases H₀_cases (K := K) (ts := ts) (a := a) (vs := vs) (xs := xs) b with z | ⟨t, _⟩ | ⟨rfl, _, _⟩
  · exact z
  · obtain rfl := Option.some.inj (e.symm.trans (hT b t))
    exact (n2 rfl).elim
  · obtain rfl := Option.some.inj (e.symm.trans ha)
    exact (n1 _ _ rfl).elim
end
section
variable {P : Program} {w : World} {K : PySem.W.Frag} {mg mb : Str → Option Value} {CX : CXT} {k : Nat} {fa a : Addr} {cs : List (Addr × Addr)} {fd : FuncData} {x : Str} {sp : Sp} {s₁ : Shared} {vs : List Value} {ns : List Int}
theorem law_g (KX : K.In s₁.heap) (hns : s₁.heap.Ns mainGlobals mg) (hb : s₁.heap.Ns builtinsNs mb) (hbb : ∀ x : Str, x ≠ "__name__" → mb x = bootBuiltins x) (hlim : s₁.heap.NoLimit) (hg : s₁.gens = #[])
    (hT : ∀ p ∈ cs, s₁.heap.get? p.2 = some { cls := .none, data := .fields #[] }) (nT : ∀ p ∈ cs, K.lookup p.2 = none) (C : ∀ p ∈ cs, PySem.W.CodeHd s₁.heap p.1 p.2) (hbm : ∃ (bm : Addr) (ob : Obj), mg "__builtins__" = some (.ref bm) ∧ bm ≠ builtinsNs ∧ s₁.heap.get? bm = some ob ∧ ob.cls = .type "module" ∧ ob.dict = some builtinsNs ∧ ob.data = .plain)
    (ha : s₁.heap.get? a = some { cls := .type "list", data := .seq vs.toArray }) (hi : IntsAre vs ns) (hl : ns.length ≤ sizeLine) (hr : Room k callerA)
    (F : ∀ base : Heap, K.In base → base.Ns mainGlobals mg → (∀ p ∈ cs, TabB base mg p.1 p.2) → FnG P w K mg base CX k fa fd [x] sp) (hbind : ∀ (s : Shared) (u : Value), BindsTo s fd ⟨[u], []⟩ [(x, u)])
    (hsp : ∀ H : Hp, (∀ p ∈ cs, H p.2 = some (.tbl #[])) → SqL K H a (ns.map V.int) → sp [.ref a] H (fun v _ => v = .bl true) fun _ _ _ => False)
    (hCX : ∀ H e s', CX [] H s₁ (fun _ _ _ => False) e s' → False) :
    codeAny (model P w) callerA (.call (.ref fa) ⟨[.ref a], []⟩) (fun r s' => r = .ok (.ret (.bool true)) ∧ OldK s₁.heap s'.heap ∧ s'.os = s₁.os ∧ AllBare s'.gens) s₁ := by
  have values := vals_ints hi
  have long : vs.length = ns.length := hi.length
  have tab : ∀ b ∈ cs.map (·.2), s₁.heap.get? b = some { cls := .none, data := .fields #[] } := fun b m => by
    obtain ⟨p, hp, rfl⟩ := List.mem_map.mp m
    exact hT p hp
  have mem : ∀ p ∈ cs, p.2 ∈ cs.map (·.2) := fun p hp => List.mem_map_of_mem hp
  have na : a ∉ cs.map (·.2) := fun m => by
    cases ha.symm.trans (tab a m)
  let H : Hp := H₀ K (cs.map (·.2)) a vs.toArray (ns.map V.int)
  have stays : ∀ {b o}, s₁.heap.get? b = some o → (∀ v n, o.data ≠ .seq v n) → o.data ≠ .fields #[] → (hidT s₁.heap H).get? b = some o := fun e n1 n2 => hidT_get e (H₀_off tab ha e n1 n2)
  have space : ∀ {b m}, s₁.heap.Ns b m → (hidT s₁.heap H).Ns b m := fun ⟨o, es, ep, e, d, r⟩ => ⟨o, es, ep, stays e (fun _ _ z => by rw [d] at z; cases z) (fun z => by rw [d] at z; cases z), d, r⟩
  have inK : K.In (hidT s₁.heap H) := fun b o e => hidT_get (KX b o e) (by
    rcases H₀_cases (K := K) (ts := cs.map (·.2)) (a := a) (vs := vs.toArray) (xs := ns.map V.int) b with z | ⟨m, _⟩ | ⟨rfl, n, _⟩
    · exact z
    · obtain ⟨p, hp, rfl⟩ := List.mem_map.mp m
      cases (nT p hp).symm.trans e
    · cases n.symm.trans e)
  have mod : L2.Mod K mg (hidT s₁.heap H) := ⟨inK, space hns, ⟨mb, space hb, hbb⟩, hlim.elim fun mc z => ⟨mc, space z.1, z.2⟩⟩
  have tables : ∀ p ∈ cs, TabB (hidT s₁.heap H) mg p.1 p.2 := fun p hp => by
    have at_ := hT p hp
    have apart : ∀ {q o}, s₁.heap.get? q = some o → o.data ≠ .fields #[] → q ≠ p.2 := fun e n z => by
      rw [z, at_] at e
      exact n (Option.some.inj e ▸ rfl)
    constructor
    · obtain ⟨o, us, file, tf, flags, tg, inF, text, tt, e, c, d, r⟩ := C p hp
      exact ⟨o, us, file, tf, flags, tg, inF, text, tt, stays e (fun _ _ z => by rw [d] at z; cases z) (fun z => by rw [d] at z; cases z; cases r.1), c, d, r⟩
    · obtain ⟨bm, ob, b1, b2, b3, b4, b5, b6⟩ := hbm
      refine ⟨bm, ob, b1, b2, fun z => ?_, apart b3 (fun z => by rw [b6] at z; cases z), stays b3 (fun _ _ z => by rw [b6] at z; cases z) (fun z => by rw [b6] at z; cases z), b4, b5, b6⟩
      obtain ⟨o, es, ep, e, d, _⟩ := hns
      obtain rfl := Option.some.inj ((z ▸ b3).symm.trans e)
      cases b6.symm.trans d
    · obtain ⟨o, es, ep, e, d, _⟩ := hns
      exact apart e fun z => by rw [d] at z; cases z
  have held : HOk P w H s₁.heap := fun b u e => by
    rcases H₀_cases (K := K) (ts := cs.map (·.2)) (a := a) (vs := vs.toArray) (xs := ns.map V.int) b with z | ⟨m, z⟩ | ⟨rfl, _, z⟩ <;> cases e.symm.trans z
    · exact tab b m
    · exact ⟨ha, by rw [List.length_map]; exact hl, vs, _, values, ha⟩
  have script : SqL K H a (ns.map V.int) := by
    cases n : K.lookup a with
    | none => exact .inl (.inr ⟨_, H₀_at na n⟩)
    | some o =>
      obtain rfl := Option.some.inj ((KX a o n).symm.trans ha)
      exact .inr ⟨_, vs.toArray, _, n, rfl, rfl, rfl, by rw [List.size_toArray, long]; exact hl, by simpa using values⟩
  have tracked : ∀ p ∈ cs, H p.2 = some (.tbl #[]) := fun p hp => H₀_tab (mem p hp)
  have e0 : Env0 P w K mg (hidT s₁.heap H) callerA [] s₁ H := ⟨rfl, mod, fun b o e => of_hidT e, Nat.le_of_eq (hidT_size _ _), trivial, fun b m => (List.not_mem_nil m).elim, held, .of_eq hg⟩
  refine codeAny_mono ((F _ inK (space hns) tables).run callerA [] s₁ H ⟨[.ref a], []⟩ [.ref a] [.ref a] _ _ rfl hr e0 (hbind s₁ (.ref a)) (.cons rfl .nil) (hsp H tracked script)) ?_
  rintro (e | fl) s' q
  · exact (hCX H e s' q).elim
  cases fl with
  | ret u =>
    obtain ⟨v, H', os, bare, un, held', rv, rfl⟩ := q
    obtain rfl : u = .bool true := rv
    have kept : ∀ b o, b ∉ cs.map (·.2) → s₁.heap.get? b = some o → s'.heap.get? b = some o := fun b o n e => by
      rcases H₀_cases (K := K) (ts := cs.map (·.2)) (a := a) (vs := vs.toArray) (xs := ns.map V.int) b with z | ⟨m, _⟩ | ⟨rfl, _, z⟩
      · exact un.keep b o e z (fun m => (List.not_mem_nil m).elim) (by simp)
      · exact (n m).elim
      · obtain ⟨e', _⟩ : ObjOk P w H' s'.heap b (.frz _ _) := held' b _ (un.frzs b _ _ z)
        exact e'.trans (ha.symm.trans e)
    have grown : ∀ p ∈ cs, ∃ more : Array Value, s'.heap.get? p.2 = some { cls := .none, data := .fields more } := fun p hp => by
      obtain ⟨more, z⟩ := un.tbls p.2 #[] (tracked p hp)
      exact ⟨_, held' p.2 _ z⟩
    refine ⟨rfl, ⟨fun b o e => ?_, fun b o e => ?_⟩, os, bare⟩
    · by_cases m : b ∈ cs.map (·.2)
      · obtain ⟨p, hp, rfl⟩ := List.mem_map.mp m
        obtain ⟨more, g⟩ := grown p hp
        obtain rfl := Option.some.inj ((tab _ m).symm.trans e)
        exact .inr (.inl ⟨((C p hp).tab (hT p hp)).isCodeTable, rfl, #[], more, rfl, by rw [Array.empty_append]; exact g⟩)
      · exact .inl (kept b o m e)
    · by_cases m : b ∈ cs.map (·.2)
      · obtain ⟨p, hp, rfl⟩ := List.mem_map.mp m
        exact (grown p hp).elim fun _ g => ⟨_, g⟩
      · exact ⟨o, kept b o m e⟩
  | _ => exact q.elim
end
/-- what is known of the law's promise at the head's heap h -/
def LawG (l : PySem.W.OpenLaw) (w : World) (K : PySem.W.Frag) (CX : CXT) (k n : Nat) (x : Str) (mg : Str → Option Value) (fa : Addr) (h : Heap) : Prop :=
  ∃ (fd : FuncData) (cs : List (Addr × Addr)) (sp : Sp), (∀ p ∈ cs, h.get? p.2 = some { cls := .none, data := .fields #[] }) ∧ (∀ p ∈ cs, K.lookup p.2 = none) ∧ (∀ p ∈ cs, PySem.W.CodeHd h p.1 p.2) ∧ (∀ (s : Shared) (u : Value), BindsTo s fd ⟨[u], []⟩ [(x, u)]) ∧
    (∀ (H : Hp) (a : Addr) (ns : List Int), ns.length ≤ n → (∀ p ∈ cs, H p.2 = some (.tbl #[])) → SqL K H a (ns.map V.int) → sp [.ref a] H (fun v _ => v = .bl true) fun _ _ _ => False) ∧
    ∀ base : Heap, K.In base → base.Ns mainGlobals mg → (∀ p ∈ cs, TabB base mg p.1 p.2) → FnG l.prog w K mg base CX k fa fd [x] sp
theorem walk_g {l : PySem.W.OpenLaw} {n k : Nat} {q : Program} {loose : List Str} {XP : (Str → Option Value) → Heap → Prop} {YP : World → Heap → Prop} {d : DefRec} {K : Params → PySem.W.Frag} {CX : World → CXT} {x : Str}
    (hn : l.most = some n) (hn2 : n ≤ sizeLine) (hdf : d.params.defaults = []) (hr : Room k callerA) (hY : ∀ (w : World) (h : Heap), YP w h → (K w.params).In h)
    (F : ∀ (w : World) (mg : Str → Option Value) (fa : Addr) (h : Heap), YP w h → (K w.params).In h → h.Ns mainGlobals mg → mg d.name = some (.ref fa) → LawG l w (K w.params) (CX w) k n x mg fa h)
    (hCX : ∀ (w : World) (H : Hp) (s : Shared) (e : Value) (s' : Shared), CX w [] H s (fun _ _ _ => False) e s' → False) : PySem.W.WalkO q loose XP YP l.row.toRowW d [] (fun f vs => PySem.call f vs) := by
  apply Att.attach_callB hn hdf
  intro w s₀ s₁ mg mb fa o pm cd doc a vs ns G Y ho hd hcd hmg hobj hints hlen _ hg
  obtain ⟨fd, cs, sp, hT, nT, C, hb, hsp, hF⟩ := F w mg fa _ Y (hY w _ Y) G.T.g hmg
  exact law_g (hY w _ Y) G.T.g G.T.b G.T.builtins G.T.nolimit hg hT nT C G.T.bmain hobj hints (Nat.le_trans hlen hn2) hr hF hb (fun H hH hS => hsp H a ns hlen hH hS) fun H e s' => hCX w H s₁ e s'
end L3
set_option maxRecDepth 100000
set_option maxHeartbeats 4000000
/-! an exception whose __init__ says super().__init__(text) and then stores what it got -/
namespace L3
open PySem PySem.Spec PyProof.Rows L2 PySem.W
/-- what the written part says of the class at C and its __init__'s code -/
structure SupT (P : Program) (K : Frag) (mg : Str → Option Value) (C cc cda : Addr) (qual : Str) : Prop where
  T : OexC K C
  ii : excInitIn K C [.type "ValueError", .type "Exception", .type "BaseException", .type "object"] "ValueError.__new__" = true
  hcd : codeIn K (.ref cda) qual = true
  file : ∃ (ccl : Value) (cdd : Option Addr) (vs : Array Value) (ccs : Array (Option Value)) (file : Str) (tf : Tok), K.lookup cda = some ⟨ccl, cdd, .fields vs, ccs⟩ ∧ vs[2]? = some (.str file tf) ∧ ((P.main.file : Str) == file) = true
  cell : ∃ (cl : Value) (cld : Option Addr) (csl : Array (Option Value)), K.lookup cc = some ⟨cl, cld, .cell (some (.ref C)), csl⟩
  cls : ∃ cdC, clsIn K C = some cdC
  sup : ks_superIn K C C "__init__" = some (some (.builtin "ValueError.__init__"))
  sve : subIn K (.ref C) (.type "ValueError") = some true
  opq : nsIn K cStatics "thirdparty.any" = some none
  mro : mroIn K C (.ref C) = some true
  nosup : mg "super" = none
  top : (P.main.scope.names.lookup ("super" : Str)).isSome = false
section
variable {P : Program} {w : World} {K : Frag} {mg : Str → Option Value} {base : Heap} {A : Around} {E : Value → Shared → Prop}
/-- super(): the object that looks behind the class -/
theorem super_here {C cc cda x f : Addr} {qual q : Str} {h₀ : Heap} {L : Addr} {m : Str → Option Value} {news : List (Addr × Obj)} {body : List Stmt} {scope : Scope} {p0 p1 : Pos} {attr : Str} {whole : Sem Value} {fd : FuncData} {ar : Arg} {ox : Obj} {odx : Option Obj} {oc : Value} {od : Option Addr} {osl : Array (Option Value)} {s : Shared} {Q : Value → Shared → Prop}
    (S : SupT P K mg C cc cda qual) (M : Mod K mg h₀) (F : Fr h₀ L s.heap m) (N : News h₀ L s.heap news) (lk : K.lookup f = some ⟨oc, od, .func fd, osl⟩) (hp : (fd.params.posonlyargs ++ fd.params.args).head? = some ar) (hv : m ar.arg = some (.ref x)) (I : InstAt s.heap x ox C odx)
    (hat : (attr == ("__class__" : Str)) = false) (hks : scope.names.lookup ("super" : Str) = some .globalImplicit) (hkc : scope.names.lookup ("__class__" : Str) = some .free) (hka : scope.names.lookup ar.arg = some .local) (hk : scope.kind = .function)
    (h : ∀ so h', Fr h₀ L h' m → News h₀ L h' ((so, ks_superObj C x C) :: news) → (∀ p ∈ news, p.1 < so) → Q (.ref so) { s with heap := h' }) :
    PySem.wpAt (model P w) A (.func body (ksEnv q scope L f (.ref cda) cc)) (attributeBase (.Call (.Name "super" p0) [] [] p1) attr (ksEnv q scope L f (.ref cda) cc) whole) Q E s := by
  obtain ⟨_, _, vs, _, file, tf, hcode, hvs, hfile⟩ := S.file
  obtain ⟨_, _, _, hcell⟩ := S.cell
  obtain ⟨cd, hcl⟩ := S.cls
  obtain ⟨mb, hblt, hboot⟩ := M.blt
  have X : K.In s.heap := M.kin.keeps F.keep
  obtain ⟨oC, there, isc⟩ : ∃ o, s.heap.get? C = some o ∧ o.data = .cls cd := by
    revert hcl
    unfold clsIn
    split
    · rename_i e
      intro z
      exact ⟨_, X _ _ e, by cases z; rfl⟩
    · exact fun z => nomatch z
  apply ks_wpAt_super_base (env := ksEnv q scope L f (.ref cda) cc) hks hkc hat rfl (X _ _ lk) rfl hp rfl (X _ _ hcode) rfl hvs hfile S.top
  apply ks_loadName_global (env := ksEnv q scope L f (.ref cda) cc) hk hks
  apply Calls.loadGlobal_builtin (env := ksEnv q scope L f (.ref cda) cc) (M.glob.keeps F.keep) S.nosup (hblt.keeps F.keep) ((hboot _ (by decide +kernel)).trans (by first | boot_by_name | kernel_rfl))
  refine ⟨rfl, ?_⟩
  apply wpAny_loadName_free (env := ksEnv q scope L f (.ref cda) cc) hk hkc rfl ⟨_, X _ _ hcell, rfl⟩
  apply wpAny_loadName_local (env := ksEnv q scope L f (.ref cda) cc) hk hka F.ns hv
  obtain ⟨hh, g, d, t, os⟩ := s
  apply ks_wpAny_isType_cls there isc
  refine ⟨rfl, ?_⟩
  apply ks_wpAny_call_super there isc I.at_ I.cls
  · intro c e
    have n := I.no
    unfold notCls at n
    rw [e] at n
    cases n
  · exact looks_mroIn X S.mro
  · intro h' e k
    obtain ⟨F', N', lt⟩ := ks_newsPush (s := ⟨hh, g, d, t, os⟩) F N rfl e k
    exact h _ _ F' N' lt
/-- super().__init__(text), then the rest: the exception has other args, all else stays -/
theorem sup_first {C cc cda a t₁ f : Addr} {qual q : Str} {h₀ : Heap} {L : Addr} {m : Str → Option Value} {rest : List Stmt} {body : List Stmt} {scope : Scope} {p0 p1 p2 p3 p4 p5 : Pos} {txt : Str} {j : Nat} {fd : FuncData} {ar : Arg} {oc : Value} {od : Option Addr} {osl : Array (Option Value)} {s : Shared} {Q : Flow → Shared → Prop}
    (S : SupT P K mg C cc cda qual) (M : Mod K mg h₀) (F : Fr h₀ L s.heap m) (N : News h₀ L s.heap [(a, excObj C t₁ none .none)]) (lk : K.lookup f = some ⟨oc, od, .func fd, osl⟩) (hp : (fd.params.posonlyargs ++ fd.params.args).head? = some ar) (hv : m ar.arg = some (.ref a))
    (hks : scope.names.lookup ("super" : Str) = some .globalImplicit) (hkc : scope.names.lookup ("__class__" : Str) = some .free) (hka : scope.names.lookup ar.arg = some .local) (hk : scope.kind = .function)
    {pl : Sem Bool} (he : eval (.Call (.Attribute (.Call (.Name "super" p0) [] [] p1) "__init__" p2) [.Constant (.str txt) j p3] [] p4) (ksEnv q scope L f (.ref cda) cc) = (do
      let ov ← attributeBase (.Call (.Name "super" p0) [] [] p1) "__init__" (ksEnv q scope L f (.ref cda) cc) (eval (.Call (.Name "super" p0) [] [] p1) (ksEnv q scope L f (.ref cda) cc))
      standAt p2.atName
      let (g, first) ← holding [ov] (getMethod ov "__init__" pl)
      callWith p4 g first (backTo p4 (starEach [.Constant (.str txt) j p3] (ksEnv q scope L f (.ref cda) cc))) []))
    (hs : swapsWith (.Call (.Attribute (.Call (.Name "super" p0) [] [] p1) "__init__" p2) [.Constant (.str txt) j p3] [] p4) none p5.line (ksEnv q scope L f (.ref cda) cc) = pure false) (hi : interactive (ksEnv q scope L f (.ref cda) cc) = false)
    (h : ∀ t₂ h' k', Fr h₀ L h' m → News h₀ L h' [(a, excObj C t₂ none .none)] → wpAny (model P w) A (execs rest (ksEnv q scope L f (.ref cda) cc)) Q E { s with heap := h', toks := k' }) :
    PySem.wpAt (model P w) A (.func body (ksEnv q scope L f (.ref cda) cc)) (execs (.Expr (.Call (.Attribute (.Call (.Name "super" p0) [] [] p1) "__init__" p2) [.Constant (.str txt) j p3] [] p4) p5 :: rest) (ksEnv q scope L f (.ref cda) cc)) Q E s := by
  have I : InstAt s.heap a (excObj C t₁ none .none) C none := .of_exc0 N List.mem_cons_self
  refine ks_wpAt_execs_cons (ks_wpAt_Expr_any (ks_wpAt_MethodCall (pl := pl) ?_ he) hi hs)
  apply super_here S M F N lk hp hv I rfl hks hkc hka hk
  intro so h₁ F₁ N₁ lt₁
  have I₁ : InstAt h₁ a (excObj C t₁ none .none) C none := .of_exc0 N₁ (.tail _ List.mem_cons_self)
  apply kxs_method (s := { s with heap := h₁ }) kxs_ValueError F₁ M.kin N₁ List.mem_cons_self I₁ S.opq S.sup S.sve (by decide)
  intro u h₂ F₂ N₂ lt₂
  refine kxs_callWith1 N₂ List.mem_cons_self (Calls.spliced_cons (Calls.Constant_str (k := j) (pos := p3) (Calls.spliced_nil ?_)))
  have na : a < so := lt₁ _ List.mem_cons_self
  have nu : a < u := lt₂ (a, _) (.tail _ List.mem_cons_self)
  refine ⟨kxs_at N₂ List.mem_cons_self, ?_⟩
  refine kxs_call F₂ M.kin N₂ PySem.F.excBase_ValueError S.ii List.mem_cons_self (.tail (Nat.ne_of_gt nu) (.tail (Nat.ne_of_gt na) (.head fun _ z => nomatch z))) (by show 1 ≤ sizeLine; decide) ?_
  intro t₂ h₃ F₃ N₃ _
  exact wpAt_of_wpAny (h t₂ h₃ _ F₃ fun p hp => N₃ p (.tail _ (.tail _ (.tail _ hp))))
/-- where an exception gets its dict: what else lies in the heap stays -/
theorem exc_fills {fs₀ : List Addr} {H : Hp} {h h' : Heap} {a C dx t₂ : Addr} {fs : List (Str × V)} {mA : Str → Option Value} (hok : HOk P w H h) (ea : H a = some (exo a C none)) (dn : h.objs.size ≤ dx) (k : ∀ b o, b ≠ a → h.get? b = some o → h'.get? b = some o)
    (hx : h'.get? a = some (excObj C t₂ (some dx) .none)) (hn : h'.Ns1 dx mA) (r : ∀ g, RelO (fs.lookup g) (mA g)) :
    Un fs₀ [] H (upd (upd H dx (exd dx fs)) a (exo a C (some dx))) h h' ∧ HOk P w (upd (upd H dx (exd dx fs)) a (exo a C (some dx))) h' := by
  have nd : H dx = none := hok.fresh dn
  have off : ∀ {b o}, H b = some o → b ≠ dx := fun e => ne_of_none e nd
  have other : ∀ {b o}, H b = some o → (∀ d, o ≠ exo a C d) → b ≠ a := fun e n z => n none (Option.some.inj ((z ▸ e).symm.trans ea))
  have keep : ∀ {b o}, H b = some o → (∀ d, o ≠ exo a C d) → (upd (upd H dx (exd dx fs)) a (exo a C (some dx))) b = some o := fun e n => by rw [upd_ne (other e n), upd_ne (off e), e]
  have none_a : ∀ {b}, H b = none → b ≠ a := fun n z => by rw [z, ea] at n; cases n
  have old : ∀ {b o}, h.get? b = some o → b ≠ dx := fun e => Nat.ne_of_lt (Nat.lt_of_lt_of_le (Heap.lt_size e) dn)
  constructor
  · constructor
    · exact fun b o e n _ _ => k b o (none_a n) e
    · exact fun b o e n _ _ => ⟨o.slots, k b o (none_a n) e⟩
    · exact fun b o e n _ => by rw [upd_ne (none_a n), upd_ne (old e)]; exact n
    · intro b o e _
      by_cases z : b = a
      · exact ⟨_, z ▸ hx⟩
      · exact ⟨o, k b o z e⟩
    · exact fun b xs e => keep e fun d z => exo_tup z.symm
    · exact fun b o u e => keep e fun d z => exo_frz z.symm
    · exact fun b ps e => ⟨#[], by rw [keep e fun d z => exo_tbl z.symm]; simp⟩
  · intro b o e
    by_cases z : b = a
    · subst z
      obtain rfl := Option.some.inj (upd_same.symm.trans e)
      exact exo_ok hx
    rw [upd_ne z] at e
    by_cases y : b = dx
    · subst y
      obtain rfl := Option.some.inj (upd_same.symm.trans e)
      exact exd_ok hn r
    rw [upd_ne y] at e
    refine (hok b o e).stay (fun c v hc q => k c v (hc.elim (fun c' => c' ▸ z) fun c' => other c' fun d x => exo_own x.symm) q) (fun c hc => keep hc fun d x => exo_own x.symm) fun c xs hc => keep hc fun d x => exo_tup x.symm
/-- what such an __init__ promises -/
def spSup (C : Addr) (x : Str) : Sp := fun vs H Q _ => ∃ (a : Addr) (y : V), vs = [.ref a, y] ∧ H a = some (exo a C none) ∧ ∀ dx, H dx = none → dx ≠ a → Q .non (upd (upd H dx (exd dx [(x, y)])) a (exo a C (some dx)))
theorem ok_sup {CX : CXT} {C cc cda f : Addr} {name qual x : Str} {params : Arguments} {scope : Scope} {dV kV doc pm ct oc : Value} {an od : Option Addr} {osl : Array (Option Value)} {p0 p1 p2 p3 p4 p5 q1 q2 q3 q4 : Pos} {txt : Str} {j : Nat} {ar : Arg}
    (S : SupT P K mg C cc cda qual) (hno : findIn K (.ref C) x = some none)
    (lk : K.lookup f = some ⟨oc, od, .func (ksFn name qual params [.Expr (.Call (.Attribute (.Call (.Name "super" p0) [] [] p1) "__init__" p2) [.Constant (.str txt) j p3] [] p4) p5, .Assign [.Attribute (.Name "self" q1) x q2] (.Name x q3) q4] scope dV kV doc pm an (.ref cda) ct cc), osl⟩)
    (hp : (params.posonlyargs ++ params.args).head? = some ar) (har : ar.arg = ("self" : Str)) (hx : x ≠ "self") (hd : (x == ("__debug__" : Str)) = false)
    (hks : scope.names.lookup ("super" : Str) = some .globalImplicit) (hkc : scope.names.lookup ("__class__" : Str) = some .free) (hka : scope.names.lookup ("self" : Str) = some .local) (hkx : scope.names.lookup x = some .local) (hk : scope.kind = .function)
    (hcell : ∀ x ∈ scope.names, x.2 ≠ .cell) (hco : scope.isCoroutine = false) (hgen : scope.isGenerator = false)
    {pl : Sem Bool} (he : ∀ L, eval (.Call (.Attribute (.Call (.Name "super" p0) [] [] p1) "__init__" p2) [.Constant (.str txt) j p3] [] p4) (ksEnv qual scope L f (.ref cda) cc) = (do
      let ov ← attributeBase (.Call (.Name "super" p0) [] [] p1) "__init__" (ksEnv qual scope L f (.ref cda) cc) (eval (.Call (.Name "super" p0) [] [] p1) (ksEnv qual scope L f (.ref cda) cc))
      standAt p2.atName
      let (g, first) ← holding [ov] (getMethod ov "__init__" pl)
      callWith p4 g first (backTo p4 (starEach [.Constant (.str txt) j p3] (ksEnv qual scope L f (.ref cda) cc))) []))
    (hs : ∀ L, swapsWith (.Call (.Attribute (.Call (.Name "super" p0) [] [] p1) "__init__" p2) [.Constant (.str txt) j p3] [] p4) none p5.line (ksEnv qual scope L f (.ref cda) cc) = pure false) (hi : ∀ L, interactive (ksEnv qual scope L f (.ref cda) cc) = false)
    (hs2 : ∀ L, swapsWith (.Name x q3) (some (.Attribute (.Name "self" q1) x q2)) q4.line (ksEnv qual scope L f (.ref cda) cc) = pure false) :
    FnOk P w K mg base CX 1 f (ksFn name qual params [.Expr (.Call (.Attribute (.Call (.Name "super" p0) [] [] p1) "__init__" p2) [.Constant (.str txt) j p3] [] p4) p5, .Assign [.Attribute (.Name "self" q1) x q2] (.Name x q3) q4] scope dV kV doc pm an (.ref cda) ct cc) ["self", x] (spSup C x) := by
  refine ⟨fun vs H Q E ⟨_, _, e, _⟩ => by rw [e]; rfl, fun A outer s H args us vs Q E hr e0 hb r hsp => ?_⟩
  obtain ⟨a, y, rfl, ha, fin⟩ := hsp
  obtain ⟨_, u, rfl, r1, ry⟩ := vals2 r
  cases r1
  have up : ∀ b o, base.get? b = some o → s.heap.get? b = some o := fun b o e => (e0.bs b o e).1
  have KX : K.In s.heap := e0.mod.kin.keeps up
  obtain ⟨t₁, hat⟩ := exo_at e0.hok ha
  have off : ∀ b o, base.get? b = some o → b ∉ [a] := fun b o e z => by
    have n := (e0.bs b o e).2
    rw [List.mem_singleton.mp z, ha] at n
    cases n
  have up₀ : ∀ b o, base.get? b = some o → (hideAll s.heap [a]).get? b = some o := fun b o e => hideAll_get _ (up b o e) (off b o e)
  obtain ⟨mb, hb1, hb2⟩ := e0.mod.blt
  have M : Mod K mg (hideAll s.heap [a]) := ⟨e0.mod.kin.keeps up₀, e0.mod.glob.keeps up₀, ⟨mb, hb1.keeps up₀, hb2⟩, e0.mod.nolimit.keeps up₀⟩
  refine ks_codeAny_call_defAt (body := _) hr.depth (KX _ _ lk) rfl (e0.mod.nolimit.keeps up) (codeRec_of KX S.hcd) rfl hb hcell ?_ (fun h₁ hns hk₁ => ?_) hco hgen hk
  · intro p hp
    simp at hp
    rcases hp with rfl | rfl
    · exact hka
    · exact hkx
  have F : Fr (hideAll s.heap [a]) s.heap.objs.size h₁ _ := ⟨hns, fun b o e => hk₁ b o (of_hideAll _ e), Nat.le_of_eq (hideAll_size _ _)⟩
  have N : News (hideAll s.heap [a]) s.heap.objs.size h₁ [(a, excObj C t₁ none .none)] := fun p hp => by
    rw [List.mem_singleton.mp hp]
    exact ⟨hk₁ _ _ hat, Nat.ne_of_lt (Heap.lt_size hat), hideAll_none _ List.mem_cons_self⟩
  obtain ⟨nm, qn, NN, bs, bm, sn, sub, ab, col, dd, k0, k1, k2, k3, k5, hC, hbm⟩ := S.T.cls
  have hcl : clsIn K C = some { name := nm, bases := bs, mro := .ref C :: bm, ns := NN, qualname := qn, hasDict := true, slotNames := sn, subclasses := sub, abstract := ab, collection := col, hasDel := false } := by
    unfold clsIn
    rw [hC] <;> rfl
  refine sup_first (q := qual) (L := s.heap.objs.size) S M F N lk hp ?_ hks hkc (har ▸ hka) hk (he _) (hs _) (hi _) ?_
  · rw [har]
    show List.lookup ("self" : Str) [(x, u), (("self" : Str), Value.ref a)] = _
    rw [List.lookup_cons, show (("self" : Str) == x) = false from beq_eq_false_iff_ne.mpr fun z => hx z.symm]
    rfl
  intro t₂ h₂ k₂ F₂ N₂
  have M₂ : K.In h₂ := M.kin.keeps F₂.keep
  have at₂ := (N₂ _ List.mem_cons_self).1
  refine wpAny_execs_cons (plainObj_wpAny_Assign_Attribute (wpAny_Name (wpAny_loadName_local (env := ksEnv qual scope s.heap.objs.size f (.ref cda) cc) hk hkx F₂.ns (v := u) ?_ (wpAny_Name (wpAny_loadName_local (env := ksEnv qual scope s.heap.objs.size f (.ref cda) cc) hk hka F₂.ns (v := .ref a) ?_ ?_))) hd) (hs2 _))
  · show List.lookup x [(x, u), (("self" : Str), Value.ref a)] = _
    rw [List.lookup_cons, beq_self_eq_true]
  · show List.lookup ("self" : Str) [(x, u), (("self" : Str), Value.ref a)] = _
    rw [List.lookup_cons, show (("self" : Str) == x) = false from beq_eq_false_iff_ne.mpr fun z => hx z.symm]
    rfl
  refine set_plain (ox := excObj C t₂ none .none) (od := none) M₂ (.of_exc0 N₂ List.mem_cons_self) S.T.sa ?_
  refine HandSPX.exc_osa M₂ at₂ hcl (show HandSPX.refsVE (.ref C :: bm) = true from hbm) rfl hno fun h₃ k₃ dx keep₃ dn dne hx₃ hn₃ => ?_
  have big : s.heap.objs.size ≤ dx := by
    obtain ⟨_, _, _, e, _⟩ := F₂.ns
    exact Nat.le_trans (Nat.le_of_lt (Heap.lt_size e)) dn
  obtain ⟨un, hok⟩ := exc_fills (P := P) (w := w) (fs₀ := frs outer) (fs := [(x, y)]) e0.hok ha big (fun b o n e => keep₃ b o n (F₂.keep b o (hideAll_get _ e fun z => n (List.mem_singleton.mp z)))) hx₃ hn₃ (relO_put (fs := []) ry fun _ => True.intro)
  exact wpAny_execs_nil ⟨.non, _, rfl, e0.bare, un, hok, rfl, fin dx (e0.hok.fresh big) dne⟩
end
/-- an attribute of a kept exception -/
def tExf (C : Addr) (n : Str) (te : TE) : TE := fun σ H Q => te σ H fun x H₁ => ∃ (a d : Addr) (fs : List (Str × V)) (v : V), x = .ref a ∧ H₁ a = some (ExV (.ref C) (some d) a) ∧ H₁ d = some (.xd fs) ∧ fs.lookup n = some v ∧ Q v H₁
theorem pe_exf {X : Cx} {C : Addr} {e : Expr} {te : TE} {pos : Pos} {n : Str} (T : XfC X.K C) (hno : findIn X.K (.ref C) n = some none) (he : PE X e te) (hb : attributeBase e n X.env (eval e X.env) = eval e X.env := by rfl) : PE X (.Attribute e n pos) (tExf C n te) where
  run pins s σ H Q I h := by
    apply attr_of hb
    apply thn (he.run pins s σ H _ I h)
    rintro u s₁ ⟨_, H₁, I₁, rx, a, d, fs, v, rfl, ea, ed, l, q⟩
    obtain rfl : u = .ref a := rx
    have tracked : ObjOk X.prog X.w H₁ s₁.heap d (.xd fs) := I₁.hok d _ ed
    obtain ⟨mA, ns, rel⟩ := tracked
    obtain ⟨od, there, look⟩ := lookIn_ns ns
    have rn := rel n
    rw [l] at rn
    obtain ⟨u, hu, ru⟩ := RelO.some_of rn
    obtain ⟨⟨oe, vs, he', hz, hd⟩, _⟩ := I₁.hok a _ ea
    have J : InstAt s₁.heap a oe C (some od) := ⟨he', hz.1, by unfold notCls; rw [hd] <;> rfl, hz.2.symm ▸ there⟩
    exact HandSPX.exc_get I₁.kIn J T.ga T.gg T.exC (findObj_own T.hdC hno rfl ((look n).trans (congrArg some hu))) (handed_of ru) ⟨v, H₁, I₁.tok _, ru, q⟩
end L3
set_option maxRecDepth 100000
set_option maxHeartbeats 4000000
/-! repr of data; methods by keywords; list.count of bools -/
namespace L3
open PySem PySem.Spec PyProof.Rows L2
/-- a dict of ints -/
def dInt (ps : List (Int × Int)) : List (Key × V) := ps.map fun p => (Sum.inl p.1, V.int p.2)
/-- a value and the data that it is -/
inductive ThV (H : Hp) : V → PyData → Prop where
  | non : ThV H .non .none
  | bl (b : Bool) : ThV H (.bl b) (.bool b)
  | int (i : Int) : ThV H (.int i) (.int i)
  | str (x : Str) : ThV H (.str x) (.str x)
  | lst {a : Addr} {ns : List Int} (e : H a = some (.lst (ns.map V.int))) : ThV H (.ref a) (.list (ns.map .int))
  | tup {a : Addr} {ns : List Int} (e : H a = some (.tup (ns.map V.int))) : ThV H (.ref a) (.tuple (ns.map .int))
  | dct {a : Addr} {ps : List (Int × Int)} (e : H a = some (.dK (dInt ps))) : ThV H (.ref a) (.dict (ps.map fun p => (.int p.1, .int p.2)))
theorem ThV.mono {H H' : Hp} {v : V} {d : PyData} (h : ThV H v d) (k : ∀ a o, v = .ref a → H a = some o → (∀ ps, o ≠ .tbl ps) → H' a = some o) : ThV H' v d := by
  cases h with
  | non => exact .non
  | bl b => exact .bl b
  | int i => exact .int i
  | str x => exact .str x
  | lst e => exact .lst (k _ _ rfl e fun ps z => nomatch z)
  | tup e => exact .tup (k _ _ rfl e fun ps z => nomatch z)
  | dct e => exact .dct (k _ _ rfl e fun ps z => nomatch z)
/-- what can be shown -/
def Fits (d : PyData) : Prop := d.showable = true ∧ d.shown.length ≤ 10000 ∧ ∀ i, d = .int i → i.natAbs < 2 ^ 80
def rRepr : List V → Hp → VK → Prop := fun xs H Q => ∃ v d, xs = [v] ∧ ThV H v d ∧ Fits d ∧ Q (.str d.shown) H
theorem reads_ints {h : Heap} : ∀ {ns : List Int} {us : List Value}, Vals (ns.map V.int) us → ReadsAll h us (ns.map .int) []
  | [], _, r => by cases r; exact .nil
  | n :: ns, _, r => by
    cases r with
    | cons r₁ r₂ =>
      obtain ⟨t, rfl⟩ := r₁
      exact .cons (.int n t) (reads_ints r₂)
theorem pairs_read {prog : Program} {w : World} {h : Heap} : ∀ {ps : List (Int × Int)} {vs : List (Key × Value)} {es : List DictEntry}, KV (dInt ps) vs → Pairs (mixKind prog w) es vs → ReadsAll h (es.map (·.key)) (ps.map fun p => .int p.1) [] ∧ ReadsAll h (es.map (·.val)) (ps.map fun p => .int p.2) []
  | [], _, _, r, p => by
    cases r
    cases p
    exact ⟨.nil, .nil⟩
  | (i, j) :: ps, _, _, r, p => by
    cases r with
    | cons r₁ r₂ =>
      cases p with
      | cons k e p' =>
        obtain ⟨e1, t, e2⟩ := r₁
        obtain ⟨a, b⟩ := pairs_read r₂ p'
        rw [← e1] at k
        rcases keyIs_shape (k := Sum.inl i) k with ⟨i', t', z, ek⟩ | ⟨x, t', z, _⟩
        · obtain rfl := Sum.inl.inj z
          exact ⟨by rw [List.map_cons, ek]; exact .cons (.int i t') a, by rw [List.map_cons, e, e2]; exact .cons (.int j t) b⟩
        · exact nomatch z
/-- objects were made, none of them tracked -/
theorem grown {X : Cx} {pins : List (Addr × Obj)} {σ : L2.St} {H : Hp} {s : Shared} {h' : Heap} {t' : Nat} (I : Inv X pins σ H s) (k : ∀ b o, s.heap.get? b = some o → h'.get? b = some o) : Inv X pins σ H { s with heap := h', toks := t' } :=
  I.un ⟨fun b o e _ _ _ => k b o e, fun b o e _ _ _ => ⟨o.slots, k b o e⟩, fun _ _ _ n _ => n, fun b o e _ => ⟨o, k b o e⟩, fun _ _ e => e, fun _ _ _ e => e, fun b ps e => ⟨#[], by rw [e]; simp⟩⟩
    fun b o e => (I.hok b o e).stay (fun c v _ q => k c v q) (fun _ q => q) fun _ _ q => q
theorem depth_ints : ∀ ns : List Int, PyData.depthAll (ns.map .int) ≤ 1
  | [] => by decide
  | n :: ns => by
    have ih := depth_ints ns
    simp only [List.map_cons, PyData.depthAll, PyData.depth]
    omega
theorem depth_pairs : ∀ ps : List (Int × Int), PyData.depthKv (ps.map fun p => (.int p.1, .int p.2)) ≤ 1
  | [] => by decide
  | p :: ps => by
    have ih := depth_pairs ps
    simp only [List.map_cons, PyData.depthKv, PyData.depth]
    omega
theorem noDict : ∀ ns : List Int, PyData.hasDictAll (ns.map .int) = false
  | [] => rfl
  | n :: ns => by
    simp only [List.map_cons, PyData.hasDictAll, PyData.hasDict]
    rw [noDict ns]
    rfl
section
variable {X : Cx} {k : Nat}
theorem call_repr (gd : X.A.guards = some []) (hr : Room k X.A) : CallR X (.builtin "repr") rRepr := by
  rintro pins s σ H xs us Q I r ⟨v, d, rfl, t, ⟨h1, h3, _⟩, q⟩
  obtain ⟨u, rfl, ru⟩ := vals1 r
  have h2 : d.shown.length ≤ sizeLine := by rw [sizeLine_eq]; omega
  have room := hr.un
  have shown : ∀ {a : Addr} {as : List Addr}, u = .ref a → Reads s.heap u d as → (d.hasDict = true → sysModules ∉ as) → d.depth ≤ 9 → wpAny (model X.prog X.w) X.A (call (.builtin "repr") [u]) (EP X pins σ Q) X.xe s := by
    rintro a as rfl rd hs hd
    exact repr_of_reads' rd h1 hs gd (by omega) (fun _ _ e => e) (fun h' u' tk keep => ⟨.str d.shown, H, grown I keep, ⟨_, rfl⟩, q⟩) h2
  cases t with
  | non => cases ru; exact P.repr_of_none ⟨.str _, H, I.tok _, ⟨_, rfl⟩, q⟩
  | bl b => cases ru; exact P.repr_of_bool ⟨.str _, H, I.tok _, ⟨_, rfl⟩, q⟩
  | int i => obtain ⟨_, rfl⟩ := ru; exact P.repr_of_int (by simpa [PyData.showable] using h1) ⟨.str _, H, I.tok _, ⟨_, rfl⟩, q⟩
  | str x => obtain ⟨_, rfl⟩ := ru; exact P.repr_of_str ⟨.str _, H, I.tok _, ⟨_, rfl⟩, q⟩ h2
  | @lst a ns e =>
    obtain rfl : u = .ref a := ru
    obtain ⟨its, rv, ⟨o, n, ho, hc, _, hd⟩, _⟩ := I.list (SqL.of e)
    have dp := depth_ints ns
    exact shown rfl (.list ho hc hd (by simpa using reads_ints rv)) (fun z => absurd z (by simp only [PyData.hasDict]; rw [noDict ns]; decide)) (by simp only [PyData.depth]; omega)
  | @tup a ns e =>
    obtain rfl : u = .ref a := ru
    obtain ⟨its, rv, ⟨o, ho, hc, n, hd⟩, _⟩ := I.tuple (SqT.of e)
    have dp := depth_ints ns
    exact shown rfl (.tuple ho hc hd (by simpa using reads_ints rv)) (fun z => absurd z (by simp only [PyData.hasDict]; rw [noDict ns]; decide)) (by simp only [PyData.depth]; omega)
  | @dct a ps e =>
    obtain rfl : u = .ref a := ru
    have z : ObjOk X.prog X.w H s.heap a (.dK (dInt ps)) := I.hok a _ e
    obtain ⟨_, ns, vs, kv, o, es, n, ho, ⟨hc, _⟩, hd, _, pr, _⟩ := z
    obtain ⟨r1, r2⟩ := pairs_read kv pr
    have rd := Reads.dict (kvs := ps.map fun p => (.int p.1, .int p.2)) ho hc hd (by rw [List.map_map]; exact r1) (by rw [List.map_map]; exact r2)
    exact shown rfl rd (fun _ m => by simp at m; rw [m] at ns; simp at ns) (by have dp := depth_pairs ps; simp only [PyData.depth]; omega)
end
/-! ### methods called by keywords -/
def tMethK (C : Addr) (m : Str) (n q : Nat) (sp : Sp) (gV : List V → List V → List V) (E : XK) (ta : TE) (t tk : TA) : TE := fun σ H Q => ta σ H fun x H₁ => ∃ (a dx : Addr) (fs : List (Str × V)), x = .ref a ∧ H₁ a = some (.ins C dx fs) ∧ fs.lookup m = none ∧
  t σ H₁ fun vs H₂ => tk σ H₂ fun zs H₃ => vs.length = n ∧ zs.length = q ∧ sp (gV (.ref a :: vs) zs) H₃ Q E
section
variable {X : Cx} {CX : CXT} {k n : Nat} {C f : Addr} {fd : FuncData} {ps ks : List Str} {sp : Sp} {E : XK} {m : Str} {apos pos : Pos} {o e : Expr} {es : List Expr} {kws : List Keyword} {ta : TE} {t tk : TA} {g : List Value → List Value → List Value} {gV : List V → List V → List V} {pl : Sem Bool}
/-- o.m(k = v, ..) -/
theorem pe_methK0 (he : PE X o ta) (c : Cls X.K C) (hm : Meth X.K C m f) (F : FnOk X.prog X.w X.K X.mg X.base CX k f fd ps sp) (hr : Room k X.A) (hb : KBn X.K fd ps 1 ks g gV) (hx : Passes CX X E) (hkw : PK X kws tk)
    (hall : (backToKw pos (keywordEach kws X.env)).all (·.1.isSome) = true := by rfl) (hks : (backToKw pos (keywordEach kws X.env)).filterMap (·.1) = ks := by rfl)
    (hpl : ((backTo pos (starEach [] X.env)).any (·.1) || (backToKw pos (keywordEach kws X.env)).any (·.1.isNone)) = false := by rfl)
    (ht : eval (.Call (.Attribute o m apos) [] kws pos) X.env = (do
      let ov ← eval o X.env
      standAt apos.atName
      let (f, first) ← holding [ov] (getMethod ov m pl)
      callWith pos f first (backTo pos (starEach [] X.env)) (backToKw pos (keywordEach kws X.env))) := by rfl) :
    PE X (.Call (.Attribute o m apos) [] kws pos) (tMethK C m 0 ks.length sp gV E ta tNil tk) where
  run pins s σ H Q I h := by
    refine PySem.W.methodCall_KW (pl := pl) (thn (he.run pins s σ H _ I h) ?_) ht
    rintro u s₁ ⟨_, H₁, I₁, rx, a, dx, fs, rfl, ea, l, q⟩
    obtain rfl : u = .ref a := rx
    apply getmeth_ok I₁ ea c hm l
    refine PySem.W.callWith_KW0 (first := [.ref a]) (h₀ := X.base) I₁.ok.mod.kin hm.kp hall (thn (hkw.run pos pins s₁ σ H₁ _ I₁ q) ?_) hpl
    rintro ws s₂ ⟨zs, H₂, I₂, rz, _, l2, q₂⟩
    rw [hks]
    exact ⟨I₂.kIn, run_fnN (vs := [.ref a]) F hr hb hx I₂ (.cons rfl .nil) rz rfl l2 q₂⟩
/-- o.m(e, .., k = v, ..) -/
theorem pe_methKN (he : PE X o ta) (c : Cls X.K C) (hm : Meth X.K C m f) (F : FnOk X.prog X.w X.K X.mg X.base CX k f fd ps sp) (hr : Room k X.A) (hb : KBn X.K fd ps (n + 1) ks g gV) (hx : Passes CX X E) (ha : PA X (e :: es) t) (hkw : PK X kws tk)
    (hall : (backToKw pos (keywordEach kws X.env)).all (·.1.isSome) = true := by rfl) (hks : (backToKw pos (keywordEach kws X.env)).filterMap (·.1) = ks := by rfl)
    (hst : starEach (e :: es) X.env = (false, eval e X.env) :: starEach es X.env := by rfl) (hpl : ((backTo pos (starEach (e :: es) X.env)).any (·.1) || (backToKw pos (keywordEach kws X.env)).any (·.1.isNone)) = false := by rfl)
    (ht : eval (.Call (.Attribute o m apos) (e :: es) kws pos) X.env = (do
      let ov ← eval o X.env
      standAt apos.atName
      let (f, first) ← holding [ov] (getMethod ov m pl)
      callWith pos f first (backTo pos (starEach (e :: es) X.env)) (backToKw pos (keywordEach kws X.env))) := by rfl) :
    PE X (.Call (.Attribute o m apos) (e :: es) kws pos) (tMethK C m n ks.length sp gV E ta t tk) where
  run pins s σ H Q I h := by
    refine PySem.W.methodCall_KW (pl := pl) (thn (he.run pins s σ H _ I h) ?_) ht
    rintro u s₁ ⟨_, H₁, I₁, rx, a, dx, fs, rfl, ea, l, q⟩
    obtain rfl : u = .ref a := rx
    apply getmeth_ok I₁ ea c hm l
    refine PySem.W.callWith_KW (first := [.ref a]) (h₀ := X.base) I₁.ok.mod.kin hm.kp hall (thn (ha.run pos pins s₁ σ H₁ _ I₁ q) ?_) hpl hst
    rintro us s₂ ⟨vs, H₂, I₂, r, q₂⟩
    refine thn (hkw.run pos pins s₂ σ H₂ _ I₂ q₂) ?_
    rintro ws s₃ ⟨zs, H₃, I₃, rz, l1, l2, q₃⟩
    rw [hks]
    exact ⟨I₃.kIn, run_fnN (us := .ref a :: us) (vs := .ref a :: vs) F hr hb hx I₃ (.cons rfl r) rz (congrArg (· + 1) l1) l2 q₃⟩
end
/-! ### list.count of bools -/
def isBv (b : Bool) : Value → Bool | .bool c => c == b | _ => false
def rCntB (K : PySem.W.Frag) : V → List V → Hp → VK → Prop := fun x xs H Q => ∃ (p : Addr) (bs : List Bool) (b : Bool), x = .ref p ∧ xs = [.bl b] ∧ SqL K H p (bs.map V.bl) ∧ Q (.int (bs.count b : Nat)) H
theorem vals_bools : ∀ {bs : List Bool} {us : List Value}, Vals (bs.map V.bl) us → us = bs.map Value.bool
  | [], _, r => by cases r; rfl
  | b :: bs, _, r => by
    cases r with
    | cons r₁ r₂ =>
      cases r₁
      rw [vals_bools r₂]
      rfl
theorem count_bools (b : Bool) : ∀ bs : List Bool, (bs.map Value.bool).countP (isBv b) = bs.count b
  | [] => rfl
  | c :: bs => by
    rw [List.map_cons, List.countP_cons, List.count_cons, count_bools b bs]
    rfl
theorem mt_countB {X : Cx} : MtR X "list.count" (rCntB X.K) := by
  rintro pins s σ H x xs v us Q I rx rxs ⟨p, bs, b, rfl, rfl, hs, q⟩
  obtain rfl : v = .ref p := rx
  obtain ⟨u, rfl, ru⟩ := rxs.one
  cases ru
  obtain ⟨its, rv, ⟨⟨cls, dd, data, sl⟩, n, ho, hc, hdn, hd⟩, _⟩ := I.list hs
  dsimp only at hc hd
  subst hc hd
  obtain rfl := vals_bools rv
  refine call_meets PySem.F.slot_list_count ⟨_, ho, rfl⟩ PySem.F.entry_list_count (PySem.F.args_list_count_2 _ _) (SeqAt.list_countAt p (bs.map Value.bool).toArray n dd sl (.bool b) (isBv b)) ⟨ho, fun y hy => ?_, ?_⟩
  · obtain ⟨c, _, rfl⟩ := List.mem_map.mp (List.mem_toArray.mp hy)
    have z := eqAt_V (A := X.A.in1) (s := s) (x := .bl b) (y := .bl c) rfl rfl rfl rfl
    exact z
  · refine ⟨.int (bs.count b : Nat), H, I.tok _, ⟨s.toks, ?_⟩, q⟩
    rw [← count_bools b bs]
end L3
set_option maxRecDepth 100000
set_option maxHeartbeats 4000000
/-! nested data: lists and tuples of what ThV tells; its repr -/
namespace L3
open PySem PySem.Spec PyProof.Rows L2
mutual
/-- no lists within -/
def noLists : PyData → Bool
  | .list _ => false
  | .tuple xs => noListsAll xs
  | _ => true
def noListsAll : List PyData → Bool
  | [] => true
  | x :: xs => noLists x && noListsAll xs
end
mutual
inductive DaV (H : Hp) : V → PyData → Prop where
  | th {v : V} {p : PyData} (h : ThV H v p) : DaV H v p
  | lst {a : Addr} {xs : List V} {ds : List PyData} (e : H a = some (.lst xs)) (h : DaVs H xs ds) (n : PyData.hasDictAll ds = false) : DaV H (.ref a) (.list ds)
  | tup {a : Addr} {xs : List V} {ds : List PyData} (e : H a = some (.tup xs)) (h : DaVs H xs ds) (n : PyData.hasDictAll ds = false ∨ noListsAll ds = true) : DaV H (.ref a) (.tuple ds)
inductive DaVs (H : Hp) : List V → List PyData → Prop where
  | nil : DaVs H [] []
  | cons {v : V} {vs : List V} {d : PyData} {ds : List PyData} (h : DaV H v d) (t : DaVs H vs ds) : DaVs H (v :: vs) (d :: ds)
end
mutual
theorem DaV.same {H H' : Hp} (s : ∀ b o, H b = some o → H' b = some o) : ∀ {v : V} {d : PyData}, DaV H v d → DaV H' v d
  | _, _, .th h => .th (h.mono fun a o _ e _ => s a o e)
  | _, _, .lst e h n => .lst (s _ _ e) (DaVs.same s h) n
  | _, _, .tup e h n => .tup (s _ _ e) (DaVs.same s h) n
theorem DaVs.same {H H' : Hp} (s : ∀ b o, H b = some o → H' b = some o) : ∀ {vs : List V} {ds : List PyData}, DaVs H vs ds → DaVs H' vs ds
  | _, _, .nil => .nil
  | _, _, .cons h t => .cons (DaV.same s h) (DaVs.same s t)
end
section
variable {X : Cx} {pins : List (Addr × Obj)} {σ : L2.St} {H : Hp} {s : Shared}
def Off (as : List Addr) (d l : Bool) : Prop := (d = true → sysModules ∉ as) ∧ (l = true → sysModules ∉ as)
theorem Off.none {d l : Bool} : Off [] d l := ⟨fun _ => by simp, fun _ => by simp⟩
theorem th_reads (I : Inv X pins σ H s) {v : V} {d : PyData} {u : Value} (h : ThV H v d) (r : RelV v u) : ∃ as, Reads s.heap u d as ∧ Off as d.hasDict (noLists d) := by
  cases h with
  | non => cases r; exact ⟨_, .none, .none⟩
  | bl b => cases r; exact ⟨_, .bool b, .none⟩
  | int i => obtain ⟨t, rfl⟩ := r; exact ⟨_, .int i t, .none⟩
  | str x => obtain ⟨t, rfl⟩ := r; exact ⟨_, .str x t, .none⟩
  | @lst a ns e =>
    obtain rfl : u = .ref a := r
    obtain ⟨its, rv, ⟨o, n, ho, hc, _, hd⟩, _⟩ := I.list (SqL.of e)
    exact ⟨_, .list ho hc hd (by simpa using reads_ints rv), fun z => absurd z (by simp only [PyData.hasDict]; rw [noDict ns]; decide), fun z => nomatch z⟩
  | @tup a ns e =>
    obtain rfl : u = .ref a := r
    obtain ⟨its, rv, ⟨o, ho, hc, n, hd⟩, _⟩ := I.tuple (SqT.of e)
    exact ⟨_, .tuple ho hc hd (by simpa using reads_ints rv), .none⟩
  | @dct a ps e =>
    obtain rfl : u = .ref a := r
    have z : ObjOk X.prog X.w H s.heap a (.dK (dInt ps)) := I.hok a _ e
    obtain ⟨_, ns, vs, kv, o, es, n, ho, ⟨hc, _⟩, hd, _, pr, _⟩ := z
    obtain ⟨r1, r2⟩ := pairs_read kv pr
    have rd := Reads.dict (kvs := ps.map fun p => (.int p.1, .int p.2)) ho hc hd (by rw [List.map_map]; exact r1) (by rw [List.map_map]; exact r2)
    have off : sysModules ∉ a :: ([] : List Addr) ++ [] := fun m => by simp at m; rw [m] at ns; simp at ns
    exact ⟨_, rd, fun _ => off, fun _ => off⟩
mutual
theorem DaV.reads (I : Inv X pins σ H s) : ∀ {v : V} {d : PyData} {u : Value}, DaV H v d → RelV v u → ∃ as, Reads s.heap u d as ∧ Off as d.hasDict (noLists d)
  | _, _, _, .th h, r => th_reads I h r
  | _, _, u, @DaV.lst _ a xs ds e h n, r => by
    obtain rfl : u = .ref a := r
    obtain ⟨its, rv, ⟨o, k, ho, hc, _, hd⟩, _⟩ := I.list (SqL.of e)
    obtain ⟨as, q, _⟩ := DaVs.reads I h rv
    have none_ : (PyData.list ds).hasDict = true → sysModules ∉ a :: as := fun z => by
      have z' : PyData.hasDictAll ds = true := z
      rw [n] at z'
      cases z'
    have off : Off (a :: as) (PyData.list ds).hasDict (noLists (.list ds)) := ⟨none_, fun z => nomatch z⟩
    exact ⟨_, .list ho hc hd (by simpa using q), off⟩
  | _, _, u, @DaV.tup _ a xs ds e h n, r => by
    obtain rfl : u = .ref a := r
    obtain ⟨its, rv, ⟨o, ho, hc, k, hd⟩, _⟩ := I.tuple (SqT.of e)
    obtain ⟨as, q, nd⟩ := DaVs.reads I h rv
    refine ⟨_, .tuple ho hc hd (by simpa using q), ⟨fun z => ?_, fun z => nd z⟩⟩
    have z' : PyData.hasDictAll ds = true := z
    rcases n with n | n
    · rw [n] at z'; cases z'
    · exact nd n
theorem DaVs.reads (I : Inv X pins σ H s) : ∀ {vs : List V} {ds : List PyData} {us : List Value}, DaVs H vs ds → Vals vs us → ∃ as, ReadsAll s.heap us ds as ∧ (noListsAll ds = true → sysModules ∉ as)
  | _, _, us, .nil, r => by
    cases r
    exact ⟨_, .nil, fun _ => by simp⟩
  | _, _, us, @DaVs.cons _ v vs d ds h t, r => by
    cases r with
    | cons r1 r2 =>
      obtain ⟨as, q1, n1⟩ := DaV.reads I h r1
      obtain ⟨bs, q2, n2⟩ := DaVs.reads I t r2
      refine ⟨_, .cons q1 q2, fun z m => ?_⟩
      have z' : noLists d = true ∧ noListsAll ds = true := by simpa [noListsAll] using z
      rcases List.mem_append.mp m with m | m
      · exact n1.2 z'.1 m
      · exact n2 z'.2 m
end
end
/-- repr of such data -/
def rReprD : List V → Hp → VK → Prop := fun xs H Q => ∃ v d, xs = [v] ∧ DaV H v d ∧ d.showable = true ∧ d.depth ≤ 9 ∧ d.shown.length ≤ sizeLine ∧ Q (.str d.shown) H
theorem call_reprD {X : Cx} {k : Nat} (gd : X.A.guards = some []) (hr : Room k X.A) : CallR X (.builtin "repr") rReprD := by
  rintro pins s σ H xs us Q I r ⟨v, d, rfl, t, h1, h3, h2, q⟩
  obtain ⟨u, rfl, ru⟩ := vals1 r
  have room := hr.un
  obtain ⟨as, rd, nd⟩ := t.reads I ru
  have deep : ∀ {a : Addr}, u = .ref a → wpAny (model X.prog X.w) X.A (call (.builtin "repr") [u]) (EP X pins σ Q) X.xe s := by
    rintro a rfl
    exact repr_of_reads' rd h1 nd.1 gd (by omega) (fun _ _ e => e) (fun h' u' tk keep => ⟨.str d.shown, H, grown I keep, ⟨_, rfl⟩, q⟩) h2
  cases rd with
  | none => exact P.repr_of_none ⟨.str _, H, I.tok _, ⟨_, rfl⟩, q⟩
  | bool b => exact P.repr_of_bool ⟨.str _, H, I.tok _, ⟨_, rfl⟩, q⟩
  | int i => exact P.repr_of_int (by simpa [PyData.showable] using h1) ⟨.str _, H, I.tok _, ⟨_, rfl⟩, q⟩
  | str x => exact P.repr_of_str ⟨.str _, H, I.tok _, ⟨_, rfl⟩, q⟩ h2
  | list => exact deep rfl
  | tuple => exact deep rfl
  | dict => exact deep rfl
end L3
set_option maxRecDepth 100000
set_option maxHeartbeats 4000000
/-! sorted of a dict, of any length: all keys ints, or all texts -/
namespace L3
open PySem PySem.Spec PyProof.Rows L2
/-- the list's own sort of the values us leaves some ys that are Good -/
def Sorts (prog : Program) (w : World) (us : List Value) (Good : List V → Prop) : Prop := ∀ (A : Around) (t : Shared) (L n : Nat) (E : Value → Shared → Prop) (P : Fin → Shared → Prop), t.heap.get? L = some (seqObj "list" us.toArray n) →
  (∀ (out : Array Value) (ys : List V), Vals ys out.toList → Good ys → ys.length = us.length → P (.done (.ret .none)) { t with heap := sortedHeap t.heap L us out }) → wpAny (model prog w) A (Builtin.«list.sort» ⟨[.ref L], []⟩) P E t
theorem sorts_ints {prog : Program} {w : World} {us : List Value} {ns : List Int} (hI : IntsAre us ns) (hl : us.length ≤ sizeLine) : Sorts prog w us fun ys => ∃ zs : List Int, ys = zs.map V.int ∧ zs.Perm ns ∧ zs.Pairwise (· ≤ ·) := by
  intro A t L n E P at_ fin
  refine list_sort_treeAny at_ hI hl fun out zs o1 o2 o3 => fin out _ (vals_of_ints o1) ⟨zs, rfl, o2, o3⟩ ?_
  rw [List.length_map, o2.length_eq, hI.length]
theorem sorts_strs {prog : Program} {w : World} {us : List Value} {ss : List Str} (hS : StrsAre us ss) (hl : us.length ≤ sizeLine) : Sorts prog w us fun ys => ∃ zs : List Str, ys = zs.map V.str ∧ zs.Perm ss ∧ sortedS zs = true := by
  intro A t L n E P at_ fin
  refine list_sort_treeKAny strKind_oneLt at_ hS.keysOf (fun v1 v2 more e => keyKind_strs (by rw [← e]; exact hS)) hl fun st' o1 o2 => ?_
  obtain ⟨zs, z1, z2, z3⟩ := sorted_out_str hS o1 o2
  refine fin _ _ (vals_of_strs z1) ⟨zs, rfl, z2, z3⟩ ?_
  have e1 := (vals_of_strs z1).length
  have e2 := (vals_of_strs hS).length
  rw [List.length_map] at e1 e2 ⊢
  rw [z2.length_eq, e2]
/-- sorted(d) -/
def rSrtD (prog : Program) (w : World) : List V → Hp → VK → Prop := fun xs H Q => ∃ (a : Addr) (kvs : List (Key × V)) (Good : List V → Prop), xs = [.ref a] ∧ Rd H a (.dK kvs) ∧ (∀ us, Vals (kvs.map fun p => kV p.1) us → us.length ≤ sizeLine → Sorts prog w us Good) ∧
  ∀ ys p, Good ys → H p = none → Q (.ref p) (upd H p (.lst ys))
theorem call_srtD {X : Cx} (hcalm : X.calm = true) : CallR X (.builtin "sorted") (rSrtD X.prog X.w) := by
  rintro pins s σ H xs vals Q I rel ⟨a, kvs, Good, rfl, hd, sorts, q⟩
  obtain ⟨u, rfl, ru⟩ := vals1 rel
  obtain rfl : u = Value.ref a := ru
  obtain ⟨small, low, vs, rkv, dof⟩ := dk_rd I.hok hd
  obtain ⟨ep, standing⟩ := dof.dictAt
  have many : vs.length ≤ sizeLine := rkv.length ▸ small
  refine Calls.call_function_entry kind_sorted plain_sorted entry_sorted (args_sorted1 _) ?_
  unfold Builtin.«sorted»
  apply wpAny_bind (m := checkCount "sorted" 1 1 _)
  apply wpAny_pure
  apply wpAny_bind
  refine PySem.W.kdu_collect (A := X.A.in1) (PySem.W.kdl_dict (knd := mixKind X.prog X.w) (kvs := vs) (ep := ep) low) (I.ok.hd hcalm) standing many ?_
  intro h' tk acc old items
  have size : acc.toList.length = vs.length := by rw [Array.length_toList]; exact items.1
  have got : Vals (vs.map fun p => kV p.1) acc.toList := keys_at size fun j v e => items.2 j v (by rwa [Array.getElem?_toList] at e)
  have same : (kvs.map fun p => kV p.1) = vs.map fun p => kV p.1 := by
    have := congrArg (List.map kV) rkv.keys
    rw [List.map_map, List.map_map] at this
    exact this
  rw [← same] at got
  have short : acc.toList.length ≤ sizeLine := size ▸ many
  have J : Inv X pins σ H { s with heap := h', toks := tk } := I.kept old
  apply wpAny_bind
  refine wpAny_newList ?_ short
  have placed : (h'.push (seqObj "list" acc.toList.toArray 0)).get? h'.objs.size = some (seqObj "list" acc.toList.toArray 0) := Heap.get?_push_size _ rfl
  show wpAny _ _ _ _ _ { s with heap := h'.push (seqObj "list" acc.toList.toArray 0), toks := tk }
  apply wpAny_bind
  apply wpAny_holding
  refine wpAny_call_entry slot_list_sort ⟨_, placed, rfl⟩ entry_list_sort (sorts _ got short _ { s with heap := h'.push (seqObj "list" acc.toList.toArray 0), toks := tk } _ _ _ _ placed ?_) (args_list_sort _)
  intro out ys vys good len
  refine ⟨_, rfl, ?_⟩
  obtain ⟨n', at'⟩ := sortedHeap_at (vs := acc.toList) (out := out) placed
  have ok : ObjOk X.prog X.w (upd H h'.objs.size (.lst ys)) (sortedHeap (h'.push (seqObj "list" acc.toList.toArray 0)) h'.objs.size acc.toList out) h'.objs.size (.lst ys) :=
    ⟨len ▸ short, out.toList, n', vys, by rw [Array.toArray_toList]; exact at'⟩
  refine wpAny_pure ⟨_, rfl, .ref h'.objs.size, upd H h'.objs.size (.lst ys), J.laid (t' := tk) (fun b o e => ?_) (Nat.le_refl _) ok, rfl, q ys _ good (J.hok.fresh (Nat.le_refl _))⟩
  have below := Heap.lt_size e
  rw [sortedHeap_old (Nat.ne_of_lt below) (by rw [size_push']; exact Nat.lt_succ_of_lt below)]
  exact Heap.get?_push_of_some _ e
section
variable {prog : Program} {w : World} {a : Addr} {H : Hp} {Q : VK} {kvs : List (Key × V)}
theorem srt_ints {ks : List Int} (hd : Rd H a (.dK kvs)) (hk : kvs.map (·.1) = ks.map Sum.inl) (q : ∀ (zs : List Int) p, zs.Perm ks → zs.Pairwise (· ≤ ·) → H p = none → Q (.ref p) (upd H p (.lst (zs.map V.int)))) : rSrtD prog w [.ref a] H Q :=
  ⟨a, kvs, _, rfl, hd, fun us r hl => sorts_ints (ns := ks) (ints_of_vals (by
      have e := congrArg (List.map kV) hk
      rw [List.map_map, List.map_map] at e
      have e' : (kvs.map fun p => kV p.1) = ks.map V.int := e
      rwa [e'] at r)) hl, fun ys p ⟨zs, e, h1, h2⟩ n => e ▸ q zs p h1 h2 n⟩
theorem srt_strs {ks : List Str} (hd : Rd H a (.dK kvs)) (hk : kvs.map (·.1) = ks.map Sum.inr) (q : ∀ (zs : List Str) p, zs.Perm ks → sortedS zs = true → H p = none → Q (.ref p) (upd H p (.lst (zs.map V.str)))) : rSrtD prog w [.ref a] H Q :=
  ⟨a, kvs, _, rfl, hd, fun us r hl => sorts_strs (ss := ks) (strs_of_vals (by
      have e := congrArg (List.map kV) hk
      rw [List.map_map, List.map_map] at e
      have e' : (kvs.map fun p => kV p.1) = ks.map V.str := e
      rwa [e'] at r)) hl, fun ys p ⟨zs, e, h1, h2⟩ n => e ▸ q zs p h1 h2 n⟩
end
/-- sorted texts are one list -/
theorem lt_asym {xs ys : List Nat} (h : ltCps xs ys = false) (h' : ltCps ys xs = false) : xs = ys := by
  induction xs generalizing ys with
  | nil =>
    cases ys with
    | nil => rfl
    | cons y ys => simp [ltCps] at h
  | cons x xs ih =>
    cases ys with
    | nil => simp [ltCps] at h'
    | cons y ys =>
      simp only [ltCps] at h h'
      by_cases e : x = y
      · subst e
        simp at h h'
        rw [ih h h']
      · exfalso
        rcases Nat.lt_or_gt_of_ne e with l | l
        · simp [l] at h
        · simp [l] at h'
theorem lt_trans' : ∀ {xs ys zs : List Nat}, ltCps ys xs = false → ltCps zs ys = false → ltCps zs xs = false
  | [], [], zs, _, h => h
  | [], y :: ys, zs, _, h => by cases zs <;> simp [ltCps] at h ⊢
  | x :: xs, [], zs, h, _ => by simp [ltCps] at h
  | x :: xs, y :: ys, [], _, h => by simp [ltCps] at h
  | x :: xs, y :: ys, z :: zs, h, h' => by
    simp only [ltCps, Bool.or_eq_false_iff, decide_eq_false_iff_not, Bool.and_eq_false_iff, beq_eq_false_iff_ne] at h h' ⊢
    refine ⟨by omega, ?_⟩
    by_cases e : z = x
    · right
      have e1 : y = x := by omega
      have a : ltCps ys xs = false := by rcases h.2 with q | q <;> first | exact absurd e1 q | exact q
      have b : ltCps zs ys = false := by rcases h'.2 with q | q <;> first | (exact absurd (by omega) q) | exact q
      exact lt_trans' a b
    · exact .inl e
theorem rising_pair : ∀ (l : List Str) (p : Str), risingS p l = true → (p :: l).Pairwise fun x y => ltCps y.cps.toList x.cps.toList = false
  | [], p, _ => List.pairwise_singleton _ _
  | x :: l, p, h => by
    have h' : ltCps x.cps.toList p.cps.toList = false ∧ risingS x l = true := by simpa [risingS] using h
    have ih := rising_pair l x h'.2
    refine List.pairwise_cons.mpr ⟨fun y hy => ?_, ih⟩
    rcases List.mem_cons.mp hy with e | e
    · exact e ▸ h'.1
    · exact lt_trans' h'.1 ((List.pairwise_cons.mp ih).1 y e)
theorem sortedS_one {xs ys : List Str} (p : xs.Perm ys) (h1 : sortedS xs = true) (h2 : sortedS ys = true) : xs = ys := by
  have pw : ∀ l : List Str, sortedS l = true → l.Pairwise fun x y => ltCps y.cps.toList x.cps.toList = false := fun l h => by
    cases l with
    | nil => exact .nil
    | cons x l => exact rising_pair l x h
  refine p.eq_of_pairwise (fun x y _ _ a b => ?_) (pw _ h1) (pw _ h2)
  have := lt_asym b a
  cases x with
  | mk cx => cases y with
    | mk cy => 
      have : cx.toList = cy.toList := this
      rw [Array.toList_inj.mp this]
end L3
set_option maxRecDepth 100000
set_option maxHeartbeats 4000000
/-! != of two lists whose items are equal by their own == -/
namespace L3
open PySem PySem.Spec PySem.SeqAt PyProof.Rows L2
open AutoSeq1 (wpAny_loadPart')
open MeetsSeq MeetsSeq2 MeetsSeq3 SeqRoads2
section
variable {prog : Program} {w : World} {A : Around} {R : Result → Shared → Prop} {l b : Addr} {N : Nat} {I : Nat → Shared → Prop}
theorem ne_turns (hl : GQ.ListI prog w A (fun e s' => R (.error e) s') l b N I) (fin : ∀ s, I N s → R (.ok (.ret (.bool false))) s) : ∀ (left i : Nat), i + left = N → ∀ s, I i s →
    wpAny (model prog w) A.in1 (Builtin.«list.__eq__.loop» ⟨[.ref l, .ref b, rawInt i, rawInt 3], []⟩) (GQ.FinOf prog w A R) (fun e s' => R (.error e) s') s
  | 0, i, e, s, h => by
    obtain rfl : i = N := e
    obtain ⟨xs, ys, _, _, ex, ey, zx, zy, _⟩ := hl _ _ h
    have done := fin s h
    obtain ⟨hp, g, d, tk, os⟩ := s
    wp_walk using wpAny_loadPart' ex, wpAny_loadPart' ey
    rw [show xs[((i : Nat) : Int).toNat]? = none from by simp [zx], show ys[((i : Nat) : Int).toNat]? = none from by simp [zy]]
    wp_walk using wpAny_loadPart' ex, wpAny_loadPart' ey
    show R (.ok (.ret (.bool (xs.size != ys.size)))) _
    simpa [zx, zy] using done
  | left + 1, i, e, s, h => by
    obtain ⟨xs, ys, _, _, ex, ey, zx, zy, turn⟩ := hl _ _ h
    have ix : i < xs.size := by omega
    have iy : i < ys.size := by omega
    have step := turn ix iy
    obtain ⟨hp, g, d, tk, os⟩ := s
    wp_walk using wpAny_loadPart' ex, wpAny_loadPart' ey
    rw [show xs[((i : Nat) : Int).toNat]? = some xs[i] from by simp [ix], show ys[((i : Nat) : Int).toNat]? = some ys[i] from by simp [iy]]
    refine wpAny_bind (wpAny_mono step ?_ fun _ _ x => x)
    rintro r s₂ ⟨rfl, h₂⟩
    have rest := ne_turns hl fin left (i + 1) (by omega) s₂ h₂
    obtain ⟨hp2, g2, d2, tk2, os2⟩ := s₂
    wp_walk
    rw [show ((i : Int) + 1) = ((i + 1 : Nat) : Int) from by omega]
    exact ⟨plainId_quiet plain_eq_loop _, codeAny_builtin entry_eq_loop (by rw [Around.under_plainId plain_eq_loop _]; exact rest)⟩
theorem ne_lists (hl : GQ.ListI prog w A (fun e s' => R (.error e) s') l b N I) (fin : ∀ s, I N s → R (.ok (.ret (.bool false))) s) {s : Shared} (h : I 0 s) :
    wpAny (model prog w) A.in1 (Builtin.«list.__ne__» ⟨[.ref l, .ref b], []⟩) (GQ.FinOf prog w A R) (fun e s' => R (.error e) s') s := by
  obtain ⟨xs, ys, _, _, ex, ey, zx, zy, _⟩ := hl _ _ h
  have all := ne_turns hl fin N 0 (Nat.zero_add N) s h
  obtain ⟨hp, g, d, tk, os⟩ := s
  have sub := AutoSeq1.sub_list_list
  have same : ¬ (xs.size != ys.size) = true := by simp [zx, zy]
  wp_walk using wpAny_loadPart' ex, wpAny_loadPart' ey
  exact ⟨plainId_quiet plain_eq_loop _, codeAny_builtin entry_eq_loop (by rw [Around.under_plainId plain_eq_loop _]; exact all)⟩
end
section
variable {X : Cx} {n : Nat} {D : Eqv}
def rNeList (D : Eqv) : R2 := fun x y H Q => DList D x y H ∧ ∀ H', Ext H H' → Q (.bl false) H'
theorem op_neList (hD : Mon D) (h : EqG X n D) (hr : Room (n + 2) X.A) : OpR X (compareOp .NotEq) (rNeList D) := by
  rintro pins s σ H x y u v Q I rx ry ⟨⟨a, b, xs, ys, rfl, rfl, ha, hb, p⟩, q⟩
  cases rx
  cases ry
  have sb : Sub X (n + 1) X.A := ⟨hr.mono (by omega), rfl⟩
  show wpAny (model X.prog X.w) X.A (richCompare .NotEq (.ref a) (.ref b)) (EP X pins σ Q) X.xe s
  obtain ⟨_, _, _, _, ea⟩ := I.hok a _ ha
  obtain ⟨_, _, _, _, eb⟩ := I.hok b _ hb
  refine wpAny_richCompare_same_room (op := .NotEq) ⟨_, ea, rfl⟩ ⟨_, eb, rfl⟩ PySem.F.slot_list_ne (GQ.call_here PySem.F.slot_list_ne ⟨_, ea, rfl⟩ PySem.F.entry_list_ne (PySem.F.args_list_ne_2 _ _) ?_) hr.units0
  refine ne_lists (N := xs.length) (I := fun _ s' => LoopI X pins σ H s') (fun i s' hI => ?_) (fun s' hI => ?_) ⟨H, I, Ext.rfl'⟩
  · obtain ⟨H₁, I₁, e₁⟩ := id hI
    obtain ⟨_, its, k, r, e⟩ := I₁.hok a _ (e₁ _ _ ha)
    obtain ⟨_, its2, k2, r2, e2⟩ := I₁.hok b _ (e₁ _ _ hb)
    exact ⟨its.toArray, its2.toArray, k, k2, e, e2, by rw [List.size_toArray, ← r.length], by rw [List.size_toArray, ← r2.length, ← p.1], fun h1 h2 => turnG hD h sb p r r2 i h1 h2 s' hI⟩
  · obtain ⟨H₁, I₁, e₁⟩ := hI
    exact ⟨(fun z => nomatch z), .bl false, H₁, I₁, rfl, q H₁ e₁⟩
end
/-- the exception as it stands behind such an __init__ -/
theorem mk_sup {C : Addr} {x : Str} {y : V} {H : Hp} {Q : XK} {E : XK} (h : ∀ d, H d = none → Q (.ref C) (some d) (upd H d (.xd [(x, y)]))) : ∀ a, H a = none → spSup C x [.ref a, y] (upd H a (exo a C none))
    (fun v H₂ => v = .non ∧ ∃ (d : Addr) (fs : List (Str × V)), H₂ a = some (exo a C (some d)) ∧ H₂ d = some (exd d fs) ∧ H d = none ∧ Q (.ref C) (some d) (upd (L2.del H₂ a) d (.xd fs))) E := fun a na => by
  refine ⟨a, y, rfl, upd_same, fun d nd da => ⟨rfl, d, [(x, y)], upd_same, by rw [upd_ne da, upd_same], ?_, ?_⟩⟩
  · rw [upd_ne da] at nd
    exact nd
  · rw [upd_ne da] at nd
    have e : upd (L2.del (upd (upd (upd H a (exo a C none)) d (exd d [(x, y)])) a (exo a C (some d))) a) d (.xd [(x, y)]) = upd H d (.xd [(x, y)]) := by
      funext b
      by_cases z : b = d
      · rw [z, upd_same, upd_same]
      · rw [upd_ne z, upd_ne z]
        by_cases z' : b = a
        · rw [z', L2.del_same, na]
        · rw [L2.del_ne z', upd_ne z', upd_ne z, upd_ne z']
    rw [e]
    exact h d nd
end L3
set_option maxRecDepth 100000
set_option maxHeartbeats 4000000
/-! dicts: update by another dict -/
namespace L3
open PySem PySem.Spec PyProof.Rows L2
theorem length_mergeK : ∀ (ms ks : List (Key × V)), (mergeK ks ms).length ≤ ks.length + ms.length
  | [], ks => Nat.le_refl _
  | m :: ms, ks => by
    have h := length_mergeK ms (putK ks m.1 m.2)
    have e := length_putK ks m.1 m.2
    show (mergeK (putK ks m.1 m.2) ms).length ≤ _
    rw [List.length_cons]
    omega
/-- a.update(b), two dicts that are not one -/
def rUpdD : V → List V → Hp → VK → Prop := fun x xs H Q => ∃ (a b : Addr) (ks ms : List (Key × V)), x = .ref a ∧ xs = [.ref b] ∧ a ≠ b ∧ H a = some (.dK ks) ∧ H b = some (.dK ms) ∧ ks.length + ms.length ≤ sizeLine ∧ Q .non (upd H a (.dK (mergeK ks ms)))
theorem mt_updD {X : Cx} : MtR X "dict.update" rUpdD := by
  rintro pins s σ H x xs v us Q I rx rxs ⟨a, b, ks, ms, rfl, rfl, nab, ha, hb, hl, q⟩
  obtain rfl : v = .ref a := rx
  obtain ⟨u, rfl, ru⟩ := rxs.one
  obtain rfl : u = .ref b := ru
  obtain ⟨z1, lo1, vs, rel1, dd1⟩ := dk_of I.hok ha
  obtain ⟨z2, lo2, ws, rel2, dd2⟩ := dk_of I.hok hb
  refine call_meetsIn PySem.F.slot_dict_update dd1.typeIs PySem.F.entry_dict_update (PySem.F.args_dict_update_2 _ _) (meets_dict_update (mixKind X.prog X.w) a b nab lo2)
    ⟨vs, ws, dd1, dd2, (by rw [← rel1.length, ← rel2.length]; exact hl), fun h' d1 d2 hs => ?_⟩
  have J := d_write (t' := s.toks) (ob := .dK (mergeK ks ms)) I (by rw [ha]; exact True.intro) hs (let ⟨q, _, _, hq, _⟩ := d1; ⟨q, hq⟩) (dk_new (Nat.le_trans (length_mergeK ms ks) hl) lo1 (rel2.merge rel1) d1)
  exact ⟨.non, _, J, rfl, q⟩
/-- a dict comprehension over a walk of N turns: St says what holds ahead of the r-th one, the new dict stands at D -/
theorem dc_it {Jt : It} {N : Nat} {Gd : Hp → Prop} {Yl : Nat → Hp → V → Hp → Prop} (wk : Walk Jt N Gd Yl) {gg : TG} {tst : TT} {key val : TE} {own : List Nat} {σ : L2.St} {Ha : Hp} {D : Addr} {Fin : Hp → Prop} (St : Nat → Hp → Prop) (start : St 0 (upd Ha D (.dK []))) (keeps : ∀ r G, r ≤ N → St r G → Gd G)
    (turn : ∀ r x G G', r < N → St r G → Yl r G x G' → gg x (wipe σ own) G' fun τ G2 => wipe τ own = wipe σ own ∧ tst τ G2 fun ok G3 =>
      if ok = true then key τ G3 fun y G4 => val τ G4 fun z G5 => ∃ kvs k, y = kV k ∧ G5 D = some (.dK kvs) ∧ kvs.length < sizeLine ∧ St (r + 1) (upd G5 D (.dK (putK kvs k z))) else St (r + 1) G3) (done : ∀ G, St N G → Fin G) :
    ∃ Inv : Nat → Nat → Hp → Prop, (∃ m, Inv 0 m (upd Ha D (.dK []))) ∧ ∀ r m G, Inv r m G →
      (Jt.stop r G ∧ Fin G) ∨ (Jt.go r G ∧ ∃ Nx : Hp → Prop, (∀ G', Nx G' → ∃ m', m' < m ∧ Inv (r + 1) m' G') ∧ ∀ x G', Jt.yld r G x G' → gg x (wipe σ own) G' fun τ G2 => wipe τ own = wipe σ own ∧ tst τ G2 fun ok G3 =>
        if ok = true then key τ G3 fun y G4 => val τ G4 fun z G5 => ∃ kvs k, y = kV k ∧ G5 D = some (.dK kvs) ∧ kvs.length < sizeLine ∧ Nx (upd G5 D (.dK (putK kvs k z))) else Nx G3) := by
  refine ⟨fun r m G => (m = N - r ∧ r ≤ N) ∧ St r G, ⟨N, ⟨rfl, Nat.zero_le N⟩, start⟩, ?_⟩
  intro r m G hI
  obtain ⟨⟨em, hr⟩, hs⟩ := hI
  have gd := keeps r G hr hs
  rcases Nat.lt_or_ge r N with lt | ge
  · refine .inr ⟨wk.goes r G lt gd, St (r + 1), ?_, fun x G' hy => turn r x G G' lt hs (wk.yields r G x G' lt gd hy)⟩
    intro G' h'
    exact ⟨N - (r + 1), by omega, ⟨rfl, lt⟩, h'⟩
  · have er : r = N := Nat.le_antisymm hr ge
    subst er
    exact .inl ⟨wk.stops G gd, done G hs⟩
end L3
set_option maxRecDepth 100000
set_option maxHeartbeats 4000000
/-! the data layer: values as pure data; what a def owns; the relation of slots, data and heap -/
namespace Dl
open PySem PySem.Spec PyProof.Rows L2 L3

/-- pure data -/
inductive D where
  | non | bl (b : Bool) | int (i : Int) | str (s : Str)
  | lst (xs : List D) | tup (xs : List D) | dct (ps : List (Key × D)) | set (xs : List Int) | ins (C : Addr) (ps : List (Str × D))

mutual
/-- v is the data d, in the heap G -/
inductive Da (K : PySem.W.Frag) (G : Hp) : V → D → Prop where
  | non : Da K G .non .non
  | bl (b : Bool) : Da K G (.bl b) (.bl b)
  | int (i : Int) : Da K G (.int i) (.int i)
  | str (s : Str) : Da K G (.str s) (.str s)
  | lst {a : Addr} {xs : List V} {ds : List D} (e : G a = some (.lst xs)) (h : Das K G xs ds) : Da K G (.ref a) (.lst ds)
  | tup {a : Addr} {xs : List V} {ds : List D} (e : SqT K G a xs) (h : Das K G xs ds) : Da K G (.ref a) (.tup ds)
  | dct {a : Addr} {kvs : List (Key × V)} {ps : List (Key × D)} (e : Rd G a (.dK kvs)) (k : kvs.map (·.1) = ps.map (·.1)) (h : Das K G (kvs.map (·.2)) (ps.map (·.2))) : Da K G (.ref a) (.dct ps)
  | set {a : Addr} {S : Int → Bool} {n : Nat} {xs : List Int} (e : G a = some (.set S n)) (m : ∀ i, S i = decide (i ∈ xs)) (z : n = xs.length) : Da K G (.ref a) (.set xs)
  | ins {a C dx : Addr} {fs : List (Str × V)} {ps : List (Str × D)} (e : G a = some (.ins C dx fs)) (k : fs.map (·.1) = ps.map (·.1)) (h : Das K G (fs.map (·.2)) (ps.map (·.2))) : Da K G (.ref a) (.ins C ps)
inductive Das (K : PySem.W.Frag) (G : Hp) : List V → List D → Prop where
  | nil : Das K G [] []
  | cons {v : V} {vs : List V} {d : D} {ds : List D} (h : Da K G v d) (t : Das K G vs ds) : Das K G (v :: vs) (d :: ds)
end
/-- the object o is the data d, what is within lies in G -/
inductive Top (K : PySem.W.Frag) (G : Hp) : HO → D → Prop where
  | lst {xs : List V} {ds : List D} (h : Das K G xs ds) : Top K G (.lst xs) (.lst ds)
  | tup {xs : List V} {ds : List D} (h : Das K G xs ds) : Top K G (.tup xs) (.tup ds)
  | dct {kvs : List (Key × V)} {ps : List (Key × D)} (k : kvs.map (·.1) = ps.map (·.1)) (h : Das K G (kvs.map (·.2)) (ps.map (·.2))) : Top K G (.dK kvs) (.dct ps)
  | set {S : Int → Bool} {n : Nat} {xs : List Int} (m : ∀ i, S i = decide (i ∈ xs)) (z : n = xs.length) : Top K G (.set S n) (.set xs)
  | ins {C dx : Addr} {fs : List (Str × V)} {ps : List (Str × D)} (k : fs.map (·.1) = ps.map (·.1)) (h : Das K G (fs.map (·.2)) (ps.map (·.2))) : Top K G (.ins C dx fs) (.ins C ps)
/-- what is in G is so in G' (a dict may be locked, a table grow) -/
def Le (G G' : Hp) : Prop := ∀ a o, G a = some o → G' a = some o ∨ (∃ kvs, (o = .dK kvs ∨ ∃ ob, o = .frz ob (.dK kvs)) ∧ Rd G' a (.dK kvs)) ∨ ∃ ps, o = .tbl ps
theorem Le.refl {G : Hp} : Le G G := fun _ _ h => .inl h
theorem Le.of {G G' : Hp} (h : ∀ a o, G a = some o → G' a = some o) : Le G G' := fun a o e => .inl (h a o e)
theorem Le.ofN {G G' : Hp} (h : ∀ a o, G a = some o → (∀ ps, o ≠ .tbl ps) → G' a = some o) : Le G G' := fun a o e => by
  by_cases z : ∃ ps, o = .tbl ps
  · exact .inr (.inr z)
  · exact .inl (h a o e fun ps y => z ⟨ps, y⟩)
theorem Le.rd {G G' : Hp} (h : Le G G') {a : Addr} {kvs : List (Key × V)} (r : Rd G a (.dK kvs)) : Rd G' a (.dK kvs) := by
  rcases r with r | ⟨ob, r⟩
  · rcases h a _ r with e | ⟨ks, e | ⟨_, e⟩, q⟩ | ⟨_, e⟩
    · exact .inl e
    · cases e; exact q
    · cases e
    · cases e
  · rcases h a _ r with e | ⟨ks, e | ⟨_, e⟩, q⟩ | ⟨_, e⟩
    · exact .inr ⟨ob, e⟩
    · cases e
    · cases e; exact q
    · cases e
theorem Le.plain {G G' : Hp} (h : Le G G') {a : Addr} {o : HO} (e : G a = some o) (n1 : ∀ kvs, o ≠ .dK kvs) (n2 : ∀ ob kvs, o ≠ .frz ob (.dK kvs)) (n3 : ∀ ps, o ≠ .tbl ps := by exact fun _ z => nomatch z) : G' a = some o := by
  rcases h a o e with q | ⟨ks, q | ⟨ob, q⟩, _⟩ | ⟨ps, q⟩
  · exact q
  · exact (n1 _ q).elim
  · exact (n2 _ _ q).elim
  · exact (n3 _ q).elim
theorem Le.trans {G G1 G2 : Hp} (a : Le G G1) (b : Le G1 G2) : Le G G2 := fun c o e => by
  rcases a c o e with q | ⟨ks, q, r⟩ | z
  · exact b c o q
  · exact .inr (.inl ⟨ks, q, b.rd r⟩)
  · exact .inr (.inr z)
theorem Le.sqT {K : PySem.W.Frag} {G G' : Hp} (h : Le G G') {a : Addr} {xs : List V} (e : SqT K G a xs) : SqT K G' a xs := by
  rcases e with (e | ⟨ob, e⟩) | e
  · exact .inl (.inl (h.plain e (fun _ z => nomatch z) fun _ _ z => nomatch z))
  · exact .inl (.inr ⟨ob, h.plain e (fun _ z => nomatch z) fun _ _ z => nomatch z⟩)
  · exact .inr e
mutual
theorem Da.le {K : PySem.W.Frag} {G G' : Hp} (s : Le G G') : ∀ {v : V} {d : D}, Da K G v d → Da K G' v d
  | _, _, .non => .non
  | _, _, .bl b => .bl b
  | _, _, .int i => .int i
  | _, _, .str x => .str x
  | _, _, .lst e h => .lst (s.plain e (fun _ z => nomatch z) fun _ _ z => nomatch z) (Das.le s h)
  | _, _, .tup e h => .tup (s.sqT e) (Das.le s h)
  | _, _, .dct e k h => .dct (s.rd e) k (Das.le s h)
  | _, _, .set e m z => .set (s.plain e (fun _ z => nomatch z) fun _ _ z => nomatch z) m z
  | _, _, .ins e k h => .ins (s.plain e (fun _ z => nomatch z) fun _ _ z => nomatch z) k (Das.le s h)
theorem Das.le {K : PySem.W.Frag} {G G' : Hp} (s : Le G G') : ∀ {vs : List V} {ds : List D}, Das K G vs ds → Das K G' vs ds
  | _, _, .nil => .nil
  | _, _, .cons h t => .cons (Da.le s h) (Das.le s t)
end
theorem Top.le {K : PySem.W.Frag} {G G' : Hp} (s : Le G G') {o : HO} {d : D} (t : Top K G o d) : Top K G' o d := by
  cases t with
  | lst h => exact .lst (h.le s)
  | tup h => exact .tup (h.le s)
  | dct k h => exact .dct k (h.le s)
  | set m z => exact .set m z
  | ins k h => exact .ins k (h.le s)
/-- an object that is data is no table and no code object -/
theorem Top.off {K : PySem.W.Frag} {G : Hp} {o : HO} {d : D} (t : Top K G o d) : (∀ ps, o ≠ .tbl ps) ∧ ∀ p, o ≠ .ext p := by
  cases t <;> exact ⟨fun _ z => (nomatch z), fun _ z => (nomatch z)⟩
theorem tab_at {H H' : Hp} {P : Addr} {q : Str} (t : LamX.TabS H P q) (k : ∀ b o, H b = some o → ((b = P ∧ ∃ ps, o = .tbl ps) ∨ ∃ p, o = .ext p) → H' b = some o) : LamX.TabS H' P q := by
  obtain ⟨ps, h1, h2, h3⟩ := t
  refine ⟨ps, k _ _ h1 (.inl ⟨rfl, _, rfl⟩), h2, fun pos cv hc => ?_⟩
  obtain ⟨c, e1, e2⟩ := h3 pos cv hc
  exact ⟨c, e1, k _ _ e2 (.inr ⟨_, rfl⟩)⟩
/-- tables stay where another thing is changed -/
theorem tab_upd {H : Hp} {P a : Addr} {q : Str} {o o' : HO} (t : LamX.TabS H P q) (e : H a = some o) (n : (∀ ps, o ≠ .tbl ps) ∧ ∀ p, o ≠ .ext p) : LamX.TabS (upd H a o') P q :=
  tab_at t fun b u h z => by
    rw [upd_ne (fun y => by
      subst y
      rw [e] at h
      cases h
      rcases z with ⟨_, ps, z⟩ | ⟨p, z⟩
      · exact n.1 _ z
      · exact n.2 _ z)]
    exact h
theorem Da.ofTop {K : PySem.W.Frag} {G : Hp} {a : Addr} {o : HO} {d : D} (e : G a = some o) (t : Top K G o d) : Da K G (.ref a) d := by
  cases t with
  | lst h => exact .lst e h
  | tup h => exact .tup (SqT.of e) h
  | dct k h => exact .dct (.inl e) k h
  | set m z => exact .set e m z
  | ins k h => exact .ins e k h
section
variable {K : PySem.W.Frag} {G : Hp}
theorem Das.length : ∀ {vs : List V} {ds : List D}, Das K G vs ds → vs.length = ds.length
  | _, _, .nil => rfl
  | _, _, .cons _ t => by simp [Das.length t]
theorem Das.append : ∀ {vs ws : List V} {ds es : List D}, Das K G vs ds → Das K G ws es → Das K G (vs ++ ws) (ds ++ es)
  | _, _, _, _, .nil, h => h
  | _, _, _, _, .cons h t, q => .cons h (Das.append t q)
theorem Das.get : ∀ {vs : List V} {ds : List D} {i : Nat} {d : D}, Das K G vs ds → ds[i]? = some d → ∃ v, vs[i]? = some v ∧ Da K G v d
  | _, _, _, _, .nil, e => by simp at e
  | _, _, 0, _, .cons h _, e => by simp at e; subst e; exact ⟨_, rfl, h⟩
  | _, _, i + 1, d, .cons _ t, e => by
    obtain ⟨v, h1, h2⟩ := Das.get (i := i) (d := d) t (by simpa using e)
    exact ⟨v, by simpa using h1, h2⟩
theorem Das.getV : ∀ {vs : List V} {ds : List D} {i : Nat} {v : V}, Das K G vs ds → vs[i]? = some v → ∃ d, ds[i]? = some d ∧ Da K G v d
  | _, _, _, _, .nil, e => by simp at e
  | _, _, 0, _, .cons h _, e => by simp at e; subst e; exact ⟨_, rfl, h⟩
  | _, _, i + 1, d, .cons _ t, e => by
    obtain ⟨v, h1, h2⟩ := Das.getV (i := i) (v := d) t (by simpa using e)
    exact ⟨v, by simpa using h1, h2⟩
theorem Das.take : ∀ {vs : List V} {ds : List D} (n : Nat), Das K G vs ds → Das K G (vs.take n) (ds.take n)
  | _, _, 0, _ => .nil
  | _, _, _ + 1, .nil => .nil
  | _, _, n + 1, .cons h t => .cons h (Das.take n t)
theorem Das.drop : ∀ {vs : List V} {ds : List D} (n : Nat), Das K G vs ds → Das K G (vs.drop n) (ds.drop n)
  | _, _, 0, h => h
  | _, _, _ + 1, .nil => .nil
  | _, _, n + 1, .cons _ t => Das.drop n t
theorem Das.set {v : V} {d : D} (h : Da K G v d) : ∀ {vs : List V} {ds : List D} (i : Nat), Das K G vs ds → Das K G (vs.set i v) (ds.set i d)
  | _, _, _, .nil => .nil
  | _, _, 0, .cons _ t => .cons h t
  | _, _, i + 1, .cons q t => .cons q (Das.set h i t)
theorem Das.eraseIdx : ∀ {vs : List V} {ds : List D} (i : Nat), Das K G vs ds → Das K G (vs.eraseIdx i) (ds.eraseIdx i)
  | _, _, _, .nil => .nil
  | _, _, 0, .cons _ t => t
  | _, _, i + 1, .cons q t => .cons q (Das.eraseIdx i t)
theorem Das.dropLast {vs : List V} {ds : List D} (h : Das K G vs ds) : Das K G vs.dropLast ds.dropLast := by
  rw [List.dropLast_eq_take, List.dropLast_eq_take, h.length]
  exact h.take _
theorem Das.reverse : ∀ {vs : List V} {ds : List D}, Das K G vs ds → Das K G vs.reverse ds.reverse
  | _, _, .nil => .nil
  | _, _, .cons h t => by
    rw [List.reverse_cons, List.reverse_cons]
    exact t.reverse.append (.cons h .nil)
theorem Das.snoc {vs : List V} {ds : List D} {v : V} {d : D} (h : Das K G vs ds) (q : Da K G v d) : Das K G (vs ++ [v]) (ds ++ [d]) := h.append (.cons q .nil)
theorem das_ints : ∀ (ns : List Int), Das K G (ns.map V.int) (ns.map D.int)
  | [] => .nil
  | n :: ns => .cons (.int n) (das_ints ns)
theorem das_ints_of : ∀ {vs : List V} {ns : List Int}, Das K G vs (ns.map D.int) → vs = ns.map V.int
  | _, [], .nil => rfl
  | _, n :: ns, .cons (.int _) t => by rw [das_ints_of t]; rfl
theorem das_bools_of : ∀ {vs : List V} {ns : List Bool}, Das K G vs (ns.map D.bl) → vs = ns.map V.bl
  | _, [], .nil => rfl
  | _, n :: ns, .cons (.bl _) t => by rw [das_bools_of t]; rfl
theorem das_strs_of : ∀ {vs : List V} {ns : List Str}, Das K G vs (ns.map D.str) → vs = ns.map V.str
  | _, [], .nil => rfl
  | _, n :: ns, .cons (.str _) t => by rw [das_strs_of t]; rfl
end

/-! ### what is owned -/
/-- the heap without the addresses ws -/
def mns (ws : List Addr) (H : Hp) : Hp := fun a => if a ∈ ws then none else H a
theorem mns_some {ws : List Addr} {H : Hp} {a : Addr} {o : HO} (e : mns ws H a = some o) : a ∉ ws ∧ H a = some o := by
  unfold mns at e
  by_cases h : a ∈ ws
  · rw [if_pos h] at e; cases e
  · rw [if_neg h] at e; exact ⟨h, e⟩
theorem mns_of {ws : List Addr} {H : Hp} {a : Addr} {o : HO} (n : a ∉ ws) (e : H a = some o) : mns ws H a = some o := by
  unfold mns
  rw [if_neg n]
  exact e
theorem mns_le {ws : List Addr} {H : Hp} : Le (mns ws H) H := .of fun _ _ e => (mns_some e).2
/-- a data view: the object itself is read in H, what is within in G -/
inductive Db (K : PySem.W.Frag) (H G : Hp) : V → D → Prop where
  | non : Db K H G .non .non
  | bl (b : Bool) : Db K H G (.bl b) (.bl b)
  | int (i : Int) : Db K H G (.int i) (.int i)
  | str (s : Str) : Db K H G (.str s) (.str s)
  | lst {a : Addr} {xs : List V} {ds : List D} (e : H a = some (.lst xs)) (h : Das K G xs ds) : Db K H G (.ref a) (.lst ds)
  | tup {a : Addr} {xs : List V} {ds : List D} (e : SqT K G a xs) (h : Das K G xs ds) : Db K H G (.ref a) (.tup ds)
  | dct {a : Addr} {kvs : List (Key × V)} {ps : List (Key × D)} (e : Rd H a (.dK kvs)) (k : kvs.map (·.1) = ps.map (·.1)) (h : Das K G (kvs.map (·.2)) (ps.map (·.2))) : Db K H G (.ref a) (.dct ps)
  | set {a : Addr} {S : Int → Bool} {n : Nat} {xs : List Int} (e : H a = some (.set S n)) (m : ∀ i, S i = decide (i ∈ xs)) (z : n = xs.length) : Db K H G (.ref a) (.set xs)
  | ins {a C dx : Addr} {fs : List (Str × V)} {ps : List (Str × D)} (e : H a = some (.ins C dx fs)) (k : fs.map (·.1) = ps.map (·.1)) (h : Das K G (fs.map (·.2)) (ps.map (·.2))) : Db K H G (.ref a) (.ins C ps)
theorem Db.ofDa {K : PySem.W.Frag} {H G : Hp} (l : Le G H) {v : V} {d : D} (h : Da K G v d) : Db K H G v d := by
  cases h with
  | non => exact .non
  | bl b => exact .bl b
  | int i => exact .int i
  | str s => exact .str s
  | lst e h => exact .lst (l.plain e (fun _ z => nomatch z) fun _ _ z => nomatch z) h
  | tup e h => exact .tup e h
  | dct e k h => exact .dct (l.rd e) k h
  | set e m z => exact .set (l.plain e (fun _ z => nomatch z) fun _ _ z => nomatch z) m z
  | ins e k h => exact .ins (l.plain e (fun _ z => nomatch z) fun _ _ z => nomatch z) k h
theorem Db.ofTop {K : PySem.W.Frag} {H G : Hp} {a : Addr} {o : HO} {d : D} (e : H a = some o) (mu : Mut (some o)) (t : Top K G o d) : Db K H G (.ref a) d := by
  cases t with
  | lst h => exact .lst e h
  | tup h => exact mu.elim
  | dct k h => exact .dct (.inl e) k h
  | set m z => exact .set e m z
  | ins k h => exact .ins e k h
theorem Db.da {K : PySem.W.Frag} {H G : Hp} (l : Le G H) {v : V} {d : D} (h : Db K H G v d) : Da K H v d := by
  cases h with
  | non => exact .non
  | bl b => exact .bl b
  | int i => exact .int i
  | str s => exact .str s
  | lst e h => exact .lst e (h.le l)
  | tup e h => exact .tup (l.sqT e) (h.le l)
  | dct e k h => exact .dct e k (h.le l)
  | set e m z => exact .set e m z
  | ins e k h => exact .ins e k (h.le l)

/-- the draws: the state at d, its stock at st -/
def Dr (d st : Addr) (H : Hp) : Prop := ∃ (ms : List Int) (sp mx : Int), H d = some (.lst [.ref st, .int sp, .int mx]) ∧ H st = some (.lst (ms.map V.int)) ∧ 0 < ms.length ∧ ms.length ≤ 63 ∧ 0 ≤ mx ∧ mx < 2147483647

/-- a slot: unknown; data; an object of its own; an object of the caller's that may be changed; the draws; (a handle) what stands in a slot -/
inductive Sl where
  | no | imm (d : D) | own (d : D) | par (d : D) | drw | slot (i : Nat)
abbrev Rho := List Sl
/-- what a def's run is measured from -/
structure Base where
  H0 : Hp
  ws0 : List Addr
  ps : List (Nat × Addr)
  dr : Option (Addr × Addr)
def Base.P (B : Base) : List Addr := B.ps.map (·.2) ++ (match B.dr with | none => [] | some p => [p.1, p.2])
def Ent (K : PySem.W.Frag) (B : Base) (σ : L2.St) (H : Hp) (ws : List Addr) (v : V) : Sl → Prop
  | .no => True
  | .imm d => Da K (mns ws H) v d
  | .own d => ∃ a o, v = .ref a ∧ a ∈ ws ∧ B.H0 a = none ∧ H a = some o ∧ Mut (some o) ∧ Top K (mns ws H) o d
  | .par d => ∃ a o, v = .ref a ∧ a ∈ ws ∧ a ∈ B.ws0 ∧ H a = some o ∧ Mut (some o) ∧ Top K (mns ws H) o d
  | .drw => ∃ d st, B.dr = some (d, st) ∧ v = .ref d
  | .slot i => σ[i]? = some (some v)
def Sl.isOwn : Sl → Prop
  | .own _ => True
  | _ => False
structure Rel (K : PySem.W.Frag) (B : Base) (π : List (V × Sl)) (ρ : Rho) (σ : L2.St) (H : Hp) (ws : List Addr) : Prop where
  len : ρ.length = σ.length
  sl : ∀ (i : Nat) (x : Sl), ρ[i]? = some x → x ≠ .no → ∃ v, σ[i]? = some (some v) ∧ Ent K B σ H ws v x
  nsl : ∀ (i j : Nat), ρ[i]? ≠ some (.slot j)
  pn : ∀ p ∈ π, Ent K B σ H ws p.1 p.2
  npp : ∀ p ∈ π, ∀ d, p.2 ≠ .par d
  apS : ∀ (i j : Nat) (x y : Sl) (v w : V), ρ[i]? = some x → ρ[j]? = some y → x.isOwn → y.isOwn → σ[i]? = some (some v) → σ[j]? = some (some w) → i ≠ j → v ≠ w
  apP : π.Pairwise fun p q => p.2.isOwn → q.2.isOwn → p.1 ≠ q.1
  apX : ∀ p ∈ π, p.2.isOwn → ∀ (i : Nat) (x : Sl) (v : V), ρ[i]? = some x → x.isOwn → σ[i]? = some (some v) → p.1 ≠ v
  wl : ∀ a ∈ ws, a ∈ B.ws0 ∨ B.H0 a = none
  wg : ∀ a ∈ B.ws0, a ∈ ws
  w0 : ∀ a ∈ B.ws0, B.H0 a ≠ none
  keep : ∀ a o, B.H0 a = some o → a ∉ B.P → (∀ ps, o ≠ .tbl ps) → H a = some o
  tab : ∀ P q, LamX.TabS B.H0 P q → LamX.TabS H P q
  stay : ∀ a, B.H0 a ≠ none → H a ≠ none
  wsH : ∀ a ∈ ws, H a ≠ none
  ps : ∀ (i : Nat) (a : Addr), (i, a) ∈ B.ps → a ∈ B.ws0 ∧ σ[i]? = some (some (.ref a)) ∧ ∃ d, ρ[i]? = some (.par d)
  pr : ∀ (i : Nat) (d : D), ρ[i]? = some (.par d) → ∃ a, (i, a) ∈ B.ps
  psd : ∀ (i j : Nat) (a : Addr), (i, a) ∈ B.ps → (j, a) ∈ B.ps → i = j
  dr : ∀ d st, B.dr = some (d, st) → d ∈ B.ws0 ∧ st ∈ B.ws0 ∧ Dr d st H ∧ ∀ i a, (i, a) ∈ B.ps → a ≠ d ∧ a ≠ st
end Dl
set_option maxRecDepth 100000
set_option maxHeartbeats 4000000
/-! the data layer: how the relation goes on -/
namespace Dl
open PySem PySem.Spec PyProof.Rows L2 L3
theorem mns_in {ws : List Addr} {H : Hp} {a : Addr} {o : HO} (h : a ∈ ws) : mns ws (upd H a o) = mns ws H := by
  funext b
  unfold mns
  by_cases q : b ∈ ws
  · rw [if_pos q, if_pos q]
  · rw [if_neg q, if_neg q, upd_ne (fun z => q (by rw [z]; exact h))]
theorem mns_new {ws : List Addr} {H : Hp} {p : Addr} {o : HO} (n : H p = none) : Le (mns ws H) (mns ws (upd H p o)) := .of fun a u e => by
  obtain ⟨h, q⟩ := mns_some e
  exact mns_of h (by rw [upd_ne (ne_of_none q n)]; exact q)
theorem mns_newC {ws : List Addr} {H : Hp} {p : Addr} {o : HO} (n : H p = none) : Le (mns ws H) (mns (p :: ws) (upd H p o)) := .of fun a u e => by
  obtain ⟨h, q⟩ := mns_some e
  have ne := ne_of_none q n
  exact mns_of (fun z => (List.mem_cons.mp z).elim ne h) (by rw [upd_ne ne]; exact q)
/-- what a handle stands for -/
def rsv (r : Sl) (ρ : Rho) : Sl := match r with
  | .slot i => (ρ[i]?).getD .no
  | x => x
def Sl.dat : Sl → Option D
  | .imm d => some d
  | .own d => some d
  | .par d => some d
  | _ => none
def wd (r : Sl) (ρ : Rho) (k : D → Prop) : Prop := match (rsv r ρ).dat with
  | some d => k d
  | none => False
section
variable {K : PySem.W.Frag} {B : Base} {π : List (V × Sl)} {ρ : Rho} {σ : L2.St} {H : Hp} {ws : List Addr} {v : V} {x : Sl} {d : D} {p : Addr} {o : HO}
theorem Ent.grow {H' : Hp} {ws' : List Addr} (l : Le (mns ws H) (mns ws' H')) (k : ∀ a o, a ∈ ws → H a = some o → a ∈ ws' ∧ H' a = some o) (h : Ent K B σ H ws v x) : Ent K B σ H' ws' v x := by
  cases x with
  | no => trivial
  | imm d => exact Da.le l h
  | own d =>
    obtain ⟨a, o, e, m, n, ho, mu, t⟩ := h
    obtain ⟨m', ho'⟩ := k a o m ho
    exact ⟨a, o, e, m', n, ho', mu, t.le l⟩
  | par d =>
    obtain ⟨a, o, e, m, n, ho, mu, t⟩ := h
    obtain ⟨m', ho'⟩ := k a o m ho
    exact ⟨a, o, e, m', n, ho', mu, t.le l⟩
  | drw => exact h
  | slot i => exact h
theorem Rel.pop {q : V × Sl} (R : Rel K B (q :: π) ρ σ H ws) : Rel K B π ρ σ H ws :=
  { R with pn := fun p hp => R.pn p (List.mem_cons_of_mem _ hp), npp := fun p hp => R.npp p (List.mem_cons_of_mem _ hp), apP := (List.pairwise_cons.mp R.apP).2, apX := fun p hp => R.apX p (List.mem_cons_of_mem _ hp) }
theorem Rel.top {q : V × Sl} (R : Rel K B (q :: π) ρ σ H ws) : Ent K B σ H ws q.1 q.2 := R.pn q List.mem_cons_self
theorem Rel.view (R : Rel K B π ρ σ H ws) (m : (v, x) ∈ π) (e : (rsv x ρ).dat = some d) : Db K H (mns ws H) v d := by
  have of : ∀ (v : V) (y : Sl), Ent K B σ H ws v y → y.dat = some d → Db K H (mns ws H) v d := fun v y h q => by
    cases y with
    | imm d' => cases q; exact Db.ofDa mns_le h
    | own d' =>
      cases q
      obtain ⟨a, o, rfl, _, _, ho, mu, t⟩ := h
      exact Db.ofTop ho mu t
    | par d' =>
      cases q
      obtain ⟨a, o, rfl, _, _, ho, mu, t⟩ := h
      exact Db.ofTop ho mu t
    | _ => cases q
  have t := R.pn _ m
  cases x with
  | slot i =>
    change ((ρ[i]?).getD .no).dat = some d at e
    cases q : ρ[i]? with
    | none => rw [q] at e; cases e
    | some y =>
      rw [q] at e
      obtain ⟨w, h1, h2⟩ := R.sl i y q (fun z => by rw [z] at e; cases e)
      have h3 : σ[i]? = some (some v) := t
      rw [h3] at h1
      cases h1
      exact of v y h2 e
  | no => cases e
  | imm d' => exact of _ _ t e
  | own d' => exact of _ _ t e
  | par d' => exact of _ _ t e
  | drw => cases e
theorem Rel.viewTop (R : Rel K B ((v, x) :: π) ρ σ H ws) (e : (rsv x ρ).dat = some d) : Db K H (mns ws H) v d := R.view List.mem_cons_self e
theorem wd_of {k : D → Prop} (h : wd x ρ k) : ∃ d, (rsv x ρ).dat = some d ∧ k d := by
  unfold wd at h
  cases q : (rsv x ρ).dat with
  | none => rw [q] at h; exact h.elim
  | some d => rw [q] at h; exact ⟨d, rfl, h⟩
theorem Rel.push (R : Rel K B π ρ σ H ws) (h : Ent K B σ H ws v x) (n : ¬ x.isOwn) (np : ∀ d, x ≠ .par d) : Rel K B ((v, x) :: π) ρ σ H ws :=
  { R with
    pn := fun p hp => by
      rcases List.mem_cons.mp hp with rfl | hp
      · exact h
      · exact R.pn p hp
    npp := fun p hp => by
      rcases List.mem_cons.mp hp with rfl | hp
      · exact np
      · exact R.npp p hp
    apP := List.pairwise_cons.mpr ⟨fun q _ z => (n z).elim, R.apP⟩
    apX := fun p hp z => by
      rcases List.mem_cons.mp hp with rfl | hp
      · exact (n z).elim
      · exact R.apX p hp z }
theorem Rel.imm (R : Rel K B π ρ σ H ws) (h : Da K (mns ws H) v d) : Rel K B ((v, .imm d) :: π) ρ σ H ws := R.push h (fun z => z) fun _ z => nomatch z
/-- a new object, not tracked before: the heap and what is owned grow -/
theorem Rel.fresh (R : Rel K B π ρ σ H ws) (np : H p = none) : p ∉ ws ∧ B.H0 p = none :=
  ⟨fun m => R.wsH p m np, by
    cases q : B.H0 p with
    | none => rfl
    | some u => exact (R.stay p (by rw [q]; simp) np).elim⟩
theorem Rel.grow {H' : Hp} {ws' : List Addr} (R : Rel K B π ρ σ H ws) (l : Le (mns ws H) (mns ws' H')) (k : ∀ a o, H a = some o → H' a = some o) (sub : ∀ a ∈ ws, a ∈ ws') (nw : ∀ a ∈ ws', a ∈ ws ∨ (B.H0 a = none ∧ H' a ≠ none)) : Rel K B π ρ σ H' ws' := by
  have g : ∀ {v x}, Ent K B σ H ws v x → Ent K B σ H' ws' v x := fun h => h.grow l fun a o m e => ⟨sub a m, k a o e⟩
  refine { R with sl := fun i x e n => ?_, pn := fun p hp => g (R.pn p hp), wl := fun a m => ?_, wg := fun a m => sub a (R.wg a m), keep := fun a o e n n2 => k a o (R.keep a o e n n2), tab := fun P q t => (R.tab P q t).ext k, stay := fun a n z => ?_, wsH := fun a m => ?_, dr := fun d st e => ?_ }
  · obtain ⟨v, h1, h2⟩ := R.sl i x e n
    exact ⟨v, h1, g h2⟩
  · rcases nw a m with q | q
    · exact R.wl a q
    · exact .inr q.1
  · cases q : H a with
    | none => exact R.stay a n q
    | some u => rw [k a u q] at z; cases z
  · rcases nw a m with q | q
    · intro z
      cases r : H a with
      | none => exact R.wsH a q r
      | some u => rw [k a u r] at z; cases z
    · exact q.2
  · obtain ⟨h1, h2, ⟨ms, sp, mx, h3, h4, h5⟩, h6⟩ := R.dr d st e
    exact ⟨h1, h2, ⟨ms, sp, mx, k _ _ h3, k _ _ h4, h5⟩, h6⟩
theorem upd_keep {H : Hp} {p : Addr} {o : HO} (np : H p = none) : ∀ a u, H a = some u → upd H p o a = some u := fun a u e => by rw [upd_ne (ne_of_none e np)]; exact e
theorem Rel.allocG (R : Rel K B π ρ σ H ws) (np : H p = none) : Rel K B π ρ σ (upd H p o) ws := R.grow (mns_new np) (upd_keep np) (fun _ m => m) fun _ m => .inl m
/-- a new object as data -/
theorem Rel.alloc (R : Rel K B π ρ σ H ws) (np : H p = none) (t : Top K (mns ws H) o d) : Rel K B ((.ref p, .imm d) :: π) ρ σ (upd H p o) ws :=
  (R.allocG np).imm (Da.ofTop (mns_of (R.fresh np).1 upd_same) (t.le (mns_new np)))
theorem Rel.ent_old (R : Rel K B π ρ σ H ws) {v : V} {x : Sl} (h : Ent K B σ H ws v x) (ho : x.isOwn) (np : H p = none) : v ≠ .ref p := fun z => by
  cases x with
  | own d =>
    obtain ⟨a, o, e, _, _, q, _⟩ := h
    rw [z] at e
    cases e
    rw [np] at q
    cases q
  | _ => exact ho
/-- a new object that is owned -/
theorem Rel.allocO (R : Rel K B π ρ σ H ws) (np : H p = none) (mu : Mut (some o)) (t : Top K (mns ws H) o d) : Rel K B ((.ref p, .own d) :: π) ρ σ (upd H p o) (p :: ws) := by
  have G : Rel K B π ρ σ (upd H p o) (p :: ws) := R.grow (mns_newC np) (upd_keep np) (fun _ m => List.mem_cons_of_mem _ m) fun a m => by
    rcases List.mem_cons.mp m with rfl | m
    · exact .inr ⟨(R.fresh np).2, by rw [upd_same]; simp⟩
    · exact .inl m
  refine { G with pn := fun q hq => ?_, npp := fun q hq d z => ?_, apP := List.pairwise_cons.mpr ⟨fun q hq _ h2 => ?_, G.apP⟩, apX := fun q hq h1 i x v h2 h3 h4 => ?_ }
  · rcases List.mem_cons.mp hq with rfl | hq
    · exact ⟨p, o, rfl, List.mem_cons_self, (R.fresh np).2, upd_same, mu, t.le (mns_newC np)⟩
    · exact G.pn q hq
  · rcases List.mem_cons.mp hq with rfl | hq
    · cases z
    · exact G.npp q hq d z
  · exact fun z => R.ent_old (R.pn q hq) h2 np z.symm
  · rcases List.mem_cons.mp hq with rfl | hq
    · obtain ⟨v', e1, e2⟩ := R.sl i x h2 (fun z => by rw [z] at h3; exact h3)
      rw [h4] at e1
      cases e1
      exact fun z => R.ent_old e2 h3 np z.symm
    · exact R.apX q hq h1 i x v h2 h3 h4
/-- what an operation gives: data that stood there, or a new object -/
inductive Res (K : PySem.W.Frag) (H G : Hp) : V → D → Hp → Prop where
  | same {v : V} {d : D} (h : Da K G v d) : Res K H G v d H
  | new {p : Addr} {o : HO} {d : D} (n : H p = none) (t : Top K G o d) : Res K H G (.ref p) d (upd H p o)
/-- .. a new object that may be changed -/
inductive ResO (K : PySem.W.Frag) (H G : Hp) : V → D → Hp → Prop where
  | new {p : Addr} {o : HO} {d : D} (n : H p = none) (mu : Mut (some o)) (t : Top K G o d) : ResO K H G (.ref p) d (upd H p o)
theorem ResO.res {K : PySem.W.Frag} {H G H1 : Hp} {v : V} {d : D} (h : ResO K H G v d H1) : Res K H G v d H1 := by
  cases h with
  | new n mu t => exact .new n t
def mkS (o : Bool) (d : D) : Sl := match o with
  | true => .own d
  | false => .imm d
theorem Rel.res {H1 : Hp} (R : Rel K B π ρ σ H ws) (h : Res K H (mns ws H) v d H1) : Rel K B ((v, .imm d) :: π) ρ σ H1 ws := by
  cases h with
  | same h => exact R.imm h
  | new n t => exact R.alloc n t
theorem Rel.resO {H1 : Hp} (R : Rel K B π ρ σ H ws) (o : Bool) (h : ResO K H (mns ws H) v d H1) : ∃ ws1, Rel K B ((v, mkS o d) :: π) ρ σ H1 ws1 := by
  cases h with
  | new n mu t =>
    cases o with
    | true => exact ⟨_, R.allocO n mu t⟩
    | false => exact ⟨_, R.alloc n t⟩
/-- what is owned and held by nobody else becomes data -/
theorem Rel.freeze (R : Rel K B ((v, .own d) :: π) ρ σ H ws) : ∃ ws', Rel K B ((v, .imm d) :: π) ρ σ H ws' := by
  obtain ⟨a, o, e, m, n, ho, mu, t⟩ := R.top
  have e' : v = .ref a := e
  subst e'
  have n0 : a ∉ B.ws0 := fun z => R.w0 a z n
  have l : Le (mns ws H) (mns (ws.filter fun b => decide (b ≠ a)) H) := .of fun b u q => by
    obtain ⟨h1, h2⟩ := mns_some q
    exact mns_of (fun z => h1 (List.mem_filter.mp z).1) h2
  have inW : ∀ {b : Addr}, b ∈ ws → b ≠ a → b ∈ ws.filter fun b => decide (b ≠ a) := fun h1 h2 => List.mem_filter.mpr ⟨h1, by simp [h2]⟩
  have ent : ∀ {w : V} {y : Sl}, Ent K B σ H ws w y → (y.isOwn → w ≠ .ref a) → Ent K B σ H (ws.filter fun b => decide (b ≠ a)) w y := fun {w y} h ne => by
    cases y with
    | no => trivial
    | imm d => exact Da.le l h
    | own d =>
      obtain ⟨b, u, e, m, n, ho, mu, t⟩ := h
      exact ⟨b, u, e, inW m (fun z => ne trivial (by rw [e, z])), n, ho, mu, t.le l⟩
    | par d =>
      obtain ⟨b, u, e, m, n, ho, mu, t⟩ := h
      exact ⟨b, u, e, inW m (fun z => n0 (z ▸ n)), n, ho, mu, t.le l⟩
    | drw => exact h
    | slot i => exact h
  have ap := List.pairwise_cons.mp R.apP
  refine ⟨ws.filter fun b => decide (b ≠ a), { R with sl := fun i x e n => ?_, pn := fun q hq => ?_, npp := fun q hq d z => ?_, apP := List.pairwise_cons.mpr ⟨fun q _ z => z.elim, ap.2⟩, apX := fun q hq h1 => ?_, wl := fun b hb => R.wl b (List.mem_filter.mp hb).1, wg := fun b hb => inW (R.wg b hb) (fun z => n0 (z ▸ hb)), wsH := fun b hb => R.wsH b (List.mem_filter.mp hb).1 }⟩
  · obtain ⟨w, h1, h2⟩ := R.sl i x e n
    exact ⟨w, h1, ent h2 fun ho z => R.apX _ List.mem_cons_self trivial i x w e ho h1 z.symm⟩
  · rcases List.mem_cons.mp hq with rfl | hq
    · exact Da.ofTop (mns_of (fun z => by simp at z) ho) (t.le l)
    · exact ent (R.pn q (List.mem_cons_of_mem _ hq)) fun h z => ap.1 q hq trivial h z.symm
  · rcases List.mem_cons.mp hq with rfl | hq
    · cases z
    · exact R.npp q (List.mem_cons_of_mem _ hq) d z
  · rcases List.mem_cons.mp hq with rfl | hq
    · exact h1.elim
    · exact R.apX q (List.mem_cons_of_mem _ hq) h1
/-- no handles -/
def NoH (π : List (V × Sl)) : Prop := ∀ p ∈ π, ∀ j, p.2 ≠ .slot j
def Sl.isPar : Sl → Bool
  | .par _ => true
  | _ => false
def notPar (ρ : Rho) (i : Nat) : Prop := match ρ[i]? with
  | some x => x.isPar = false
  | none => False
theorem notPar_of {i : Nat} (h : notPar ρ i) : i < ρ.length ∧ ∀ d, ρ[i]? ≠ some (.par d) := by
  unfold notPar at h
  cases q : ρ[i]? with
  | none => rw [q] at h; exact h.elim
  | some x =>
    rw [q] at h
    refine ⟨(List.getElem?_eq_some_iff.mp q).1, fun d z => ?_⟩
    cases z
    cases h
/-- what may be put into a slot -/
def Sl.val : Sl → Prop
  | .imm _ => True
  | .own _ => True
  | _ => False
/-- a slot is stored -/
theorem Rel.store {i : Nat} (R : Rel K B ((v, x) :: π) ρ σ H ws) (hx : x.val) (nh : NoH π) (hn : notPar ρ i) : Rel K B π (ρ.set i x) (σ.set i (some v)) H ws := by
  obtain ⟨hi, hpar⟩ := notPar_of hn
  have hi' : i < σ.length := by rw [← R.len]; exact hi
  have ap := List.pairwise_cons.mp R.apP
  have ent : ∀ {w : V} {y : Sl}, (∀ j, y ≠ .slot j) → Ent K B σ H ws w y → Ent K B (σ.set i (some v)) H ws w y := fun {w y} n h => by
    cases y with
    | slot j => exact (n j rfl).elim
    | _ => exact h
  have ns : ∀ j, x ≠ .slot j := fun j z => by rw [z] at hx; exact hx
  have get : ∀ {j : Nat} {y : Sl}, (ρ.set i x)[j]? = some y → (j = i ∧ y = x) ∨ (j ≠ i ∧ ρ[j]? = some y) := fun {j y} e => by
    by_cases q : j = i
    · subst q
      rw [List.getElem?_set_self hi] at e
      cases e
      exact .inl ⟨rfl, rfl⟩
    · rw [List.getElem?_set_ne (Ne.symm q)] at e
      exact .inr ⟨q, e⟩
  have getσ : ∀ {j : Nat}, j ≠ i → (σ.set i (some v))[j]? = σ[j]? := fun q => List.getElem?_set_ne (Ne.symm q)
  have selfσ : (σ.set i (some v))[i]? = some (some v) := List.getElem?_set_self hi'
  refine { R with len := by simpa using R.len, sl := fun j y e n => ?_, nsl := fun j k e => ?_, pn := fun p hp => ent (nh p hp) (R.pn p (List.mem_cons_of_mem _ hp)), npp := fun p hp => R.npp p (List.mem_cons_of_mem _ hp), apS := fun j k y z w u e1 e2 h1 h2 e3 e4 n => ?_, apP := ap.2, apX := fun p hp h1 j y w e h2 e3 => ?_, ps := fun j a m => ?_, pr := fun j d e => ?_ }
  · rcases get e with ⟨rfl, rfl⟩ | ⟨q, e⟩
    · exact ⟨v, selfσ, ent ns R.top⟩
    · obtain ⟨w, h1, h2⟩ := R.sl j y e n
      exact ⟨w, by rw [getσ q]; exact h1, ent (fun k z => R.nsl j k (by rw [e, z])) h2⟩
  · rcases get e with ⟨rfl, z⟩ | ⟨q, e⟩
    · exact ns _ z.symm
    · exact R.nsl j k e
  · rcases get e1 with ⟨a1, b1⟩ | ⟨q1, f1⟩ <;> rcases get e2 with ⟨a2, b2⟩ | ⟨q2, f2⟩
    · exact (n (a1.trans a2.symm)).elim
    · rw [a1, selfσ] at e3
      cases e3
      rw [getσ q2] at e4
      exact R.apX _ List.mem_cons_self (b1 ▸ h1) k z u f2 h2 e4
    · rw [a2, selfσ] at e4
      cases e4
      rw [getσ q1] at e3
      exact fun z' => R.apX _ List.mem_cons_self (b2 ▸ h2) j y w f1 h1 e3 z'.symm
    · rw [getσ q1] at e3
      rw [getσ q2] at e4
      exact R.apS j k y z w u f1 f2 h1 h2 e3 e4 n
  · rcases get e with ⟨a1, b1⟩ | ⟨q, e'⟩
    · rw [a1, selfσ] at e3
      cases e3
      exact fun z => ap.1 p hp (b1 ▸ h2) h1 z.symm
    · rw [getσ q] at e3
      exact R.apX p (List.mem_cons_of_mem _ hp) h1 j y w e' h2 e3
  · obtain ⟨h1, h2, d, h3⟩ := R.ps j a m
    have q : j ≠ i := fun z => hpar d (z ▸ h3)
    exact ⟨h1, by rw [getσ q]; exact h2, d, by rw [List.getElem?_set_ne (Ne.symm q)]; exact h3⟩
  · rcases get e with ⟨rfl, z⟩ | ⟨q, e⟩
    · rw [← z] at hx; exact hx.elim
    · exact R.pr j d e
/-- a slot is forgotten -/
theorem Rel.forget {i : Nat} {y : Option V} (R : Rel K B π ρ σ H ws) (nh : NoH π) (hn : notPar ρ i) : Rel K B π (ρ.set i .no) (σ.set i y) H ws := by
  obtain ⟨hi, hpar⟩ := notPar_of hn
  have ent : ∀ {w : V} {z : Sl}, (∀ j, z ≠ .slot j) → Ent K B σ H ws w z → Ent K B (σ.set i y) H ws w z := fun {w z} n h => by
    cases z with
    | slot j => exact (n j rfl).elim
    | _ => exact h
  have get : ∀ {j : Nat} {z : Sl}, (ρ.set i .no)[j]? = some z → (j = i ∧ z = .no) ∨ (j ≠ i ∧ ρ[j]? = some z) := fun {j z} e => by
    by_cases q : j = i
    · subst q
      rw [List.getElem?_set_self hi] at e
      cases e
      exact .inl ⟨rfl, rfl⟩
    · rw [List.getElem?_set_ne (Ne.symm q)] at e
      exact .inr ⟨q, e⟩
  have getσ : ∀ {j : Nat}, j ≠ i → (σ.set i y)[j]? = σ[j]? := fun q => List.getElem?_set_ne (Ne.symm q)
  refine { R with len := by simpa using R.len, sl := fun j z e n => ?_, nsl := fun j k e => ?_, pn := fun p hp => ent (nh p hp) (R.pn p hp), apS := fun j k z t w u e1 e2 h1 h2 e3 e4 n => ?_, apX := fun p hp h1 j z w e h2 e3 => ?_, ps := fun j a m => ?_, pr := fun j d e => ?_ }
  · rcases get e with ⟨rfl, rfl⟩ | ⟨q, e⟩
    · exact (n rfl).elim
    · obtain ⟨w, h1, h2⟩ := R.sl j z e n
      exact ⟨w, by rw [getσ q]; exact h1, ent (fun k z => R.nsl j k (by rw [e, z])) h2⟩
  · rcases get e with ⟨rfl, z⟩ | ⟨q, e⟩
    · cases z
    · exact R.nsl j k e
  · rcases get e1 with ⟨rfl, rfl⟩ | ⟨q1, e1⟩
    · exact h1.elim
    rcases get e2 with ⟨rfl, rfl⟩ | ⟨q2, e2⟩
    · exact h2.elim
    rw [getσ q1] at e3
    rw [getσ q2] at e4
    exact R.apS j k z t w u e1 e2 h1 h2 e3 e4 n
  · rcases get e with ⟨rfl, rfl⟩ | ⟨q, e⟩
    · exact h2.elim
    · rw [getσ q] at e3
      exact R.apX p hp h1 j z w e h2 e3
  · obtain ⟨h1, h2, d, h3⟩ := R.ps j a m
    have q : j ≠ i := fun z => hpar d (z ▸ h3)
    exact ⟨h1, by rw [getσ q]; exact h2, d, by rw [List.getElem?_set_ne (Ne.symm q)]; exact h3⟩
  · rcases get e with ⟨rfl, z⟩ | ⟨q, e⟩
    · cases z
    · exact R.pr j d e
/-- the owned object of a slot -/
theorem Rel.at_ {i : Nat} (R : Rel K B π ρ σ H ws) (e : ρ[i]? = some x) (h : x = .own d ∨ x = .par d) : ∃ a o, σ[i]? = some (some (.ref a)) ∧ a ∈ ws ∧ H a = some o ∧ Mut (some o) ∧ Top K (mns ws H) o d := by
  obtain ⟨v, h1, h2⟩ := R.sl i x e (fun z => by rcases h with h | h <;> rw [h] at z <;> cases z)
  rcases h with rfl | rfl
  · obtain ⟨a, o, rfl, m, _, ho, mu, t⟩ := h2
    exact ⟨a, o, h1, m, ho, mu, t⟩
  · obtain ⟨a, o, rfl, m, _, ho, mu, t⟩ := h2
    exact ⟨a, o, h1, m, ho, mu, t⟩
def Sl.with_ : Sl → D → Sl
  | .own _, d => .own d
  | .par _, d => .par d
  | x, _ => x
/-- the owned object of a slot is changed -/
theorem Rel.mut {i : Nat} {a : Addr} {d' : D} (R : Rel K B π ρ σ H ws) (e : ρ[i]? = some x) (h : x = .own d ∨ x = .par d) (ea : σ[i]? = some (some (.ref a))) (mu : Mut (some o)) (t : Top K (mns ws H) o d') : Rel K B π (ρ.set i (x.with_ d')) σ (upd H a o) ws := by
  have xn : x ≠ .no := fun z => by rcases h with h | h <;> rw [h] at z <;> cases z
  have hi : i < ρ.length := (List.getElem?_eq_some_iff.mp e).1
  obtain ⟨v, h1, h2⟩ := R.sl i x e xn
  rw [ea] at h1
  cases h1
  have am : a ∈ ws := by
    rcases h with rfl | rfl
    · obtain ⟨b, u, q, m, _⟩ := h2; cases q; exact m
    · obtain ⟨b, u, q, m, _⟩ := h2; cases q; exact m
  have G := mns_in (H := H) (o := o) am
  -- other owned objects stand apart
  have other : ∀ {w : V} {y : Sl}, Ent K B σ H ws w y → (y.isOwn → w ≠ .ref a) → ((∃ d, y = .par d) → w ≠ .ref a) → Ent K B σ (upd H a o) ws w y := fun {w y} q n1 n2 => by
    cases y with
    | no => trivial
    | imm d =>
      have q' : Da K (mns ws H) w d := q
      show Da K (mns ws (upd H a o)) w d
      rw [G]; exact q'
    | own d =>
      obtain ⟨b, u, e, m, n, ho, mu, t⟩ := q
      exact ⟨b, u, e, m, n, by rw [upd_ne (fun z => n1 trivial (by rw [e, z]))]; exact ho, mu, by rw [G]; exact t⟩
    | par d =>
      obtain ⟨b, u, e, m, n, ho, mu, t⟩ := q
      exact ⟨b, u, e, m, n, by rw [upd_ne (fun z => n2 ⟨_, rfl⟩ (by rw [e, z]))]; exact ho, mu, by rw [G]; exact t⟩
    | drw => exact q
    | slot j => exact q
  -- where an own and a par object may stand
  have ownA : ∀ {w : V} {d : D}, Ent K B σ H ws w (.own d) → ∀ {w' : V} {d' : D}, Ent K B σ H ws w' (.par d') → w ≠ w' := fun q1 w' d' q2 z => by
    obtain ⟨b, _, e1, _, n, _⟩ := q1
    obtain ⟨c, _, e2, _, m, _⟩ := q2
    rw [z, e2] at e1
    cases e1
    exact R.w0 _ m n
  have parA : ∀ {j k : Nat} {d d' : D} {w : V}, ρ[j]? = some (.par d) → ρ[k]? = some (.par d') → σ[j]? = some (some w) → σ[k]? = some (some w) → j = k := fun {j k d d' w} e1 e2 s1 s2 => by
    obtain ⟨b, m1⟩ := R.pr j d e1
    obtain ⟨c, m2⟩ := R.pr k d' e2
    obtain ⟨_, t1, _⟩ := R.ps j b m1
    obtain ⟨_, t2, _⟩ := R.ps k c m2
    rw [s1] at t1
    rw [s2] at t2
    cases t1
    cases t2
    exact R.psd j k b m1 m2
  have get : ∀ {j : Nat} {z : Sl}, (ρ.set i (x.with_ d'))[j]? = some z → (j = i ∧ z = x.with_ d') ∨ (j ≠ i ∧ ρ[j]? = some z) := fun {j z} e => by
    by_cases q : j = i
    · subst q
      rw [List.getElem?_set_self hi] at e
      cases e
      exact .inl ⟨rfl, rfl⟩
    · rw [List.getElem?_set_ne (Ne.symm q)] at e
      exact .inr ⟨q, e⟩
  have wOwn : (x.with_ d').isOwn → x.isOwn := fun z => by rcases h with rfl | rfl <;> exact z
  have back : ∀ {j : Nat} {y : Sl}, (ρ.set i (x.with_ d'))[j]? = some y → y.isOwn → ∃ y', ρ[j]? = some y' ∧ y'.isOwn := fun {j y} q ho => by
    rcases get q with ⟨rfl, rfl⟩ | ⟨_, q⟩
    · exact ⟨x, e, wOwn ho⟩
    · exact ⟨y, q, ho⟩
  have new : Ent K B σ (upd H a o) ws (.ref a) (x.with_ d') := by
    rcases h with rfl | rfl
    · obtain ⟨b, u, q, m, n, ho, _, _⟩ := h2
      cases q
      exact ⟨_, o, rfl, m, n, upd_same, mu, by rw [G]; exact t⟩
    · obtain ⟨b, u, q, m, n, ho, _, _⟩ := h2
      cases q
      exact ⟨_, o, rfl, m, n, upd_same, mu, by rw [G]; exact t⟩
  have base : ∀ b u, B.H0 b = some u → b ∉ B.P → b ≠ a := fun b u e1 n z => by
    subst z
    rcases h with rfl | rfl
    · obtain ⟨c, _, q, _, n0, _⟩ := h2
      cases q
      rw [n0] at e1
      cases e1
    · obtain ⟨c, m⟩ := R.pr i _ e
      obtain ⟨_, s2, _⟩ := R.ps i c m
      rw [ea] at s2
      cases s2
      exact n (List.mem_append.mpr (.inl (List.mem_map.mpr ⟨_, m, rfl⟩)))
  refine { R with len := by simpa using R.len, sl := fun j y q n => ?_, nsl := fun j k q => ?_, pn := fun p hp => ?_, apS := fun j k y z w u e1 e2 h1 h2 s1 s2 n => ?_, apX := fun p hp h1 j y w q h2 s => ?_, keep := fun b u e1 n n2 => ?_, tab := fun P q t => (by obtain ⟨_, u, z, _, _, ho, _, tp⟩ : ∃ (b : Addr) (u : HO), V.ref a = .ref b ∧ b ∈ ws ∧ True ∧ H b = some u ∧ True ∧ Top K (mns ws H) u d := (by rcases h with rfl | rfl <;> (obtain ⟨b, u, z, m, _, ho, _, tp⟩ := h2; exact ⟨b, u, z, m, trivial, ho, trivial, tp⟩)); cases z; exact tab_upd (R.tab P q t) ho tp.off), stay := fun b n z => ?_, wsH := fun b m z => ?_, ps := fun j b m => ?_, pr := fun j d q => ?_, dr := fun dd st e1 => ?_ }
  · rcases get q with ⟨rfl, rfl⟩ | ⟨ne, q'⟩
    · exact ⟨_, ea, new⟩
    · obtain ⟨w, s1, s2⟩ := R.sl j y q' n
      refine ⟨w, s1, other s2 (fun ho z => ?_) (fun ⟨d2, hp⟩ z => ?_)⟩
      · rcases h with rfl | rfl
        · exact R.apS j i y _ w (.ref a) q' e ho trivial s1 ea ne z
        · cases y with
          | own d2 => exact ownA s2 h2 z
          | _ => exact ho
      · subst hp
        rcases h with rfl | rfl
        · exact ownA h2 s2 z.symm
        · exact ne (parA q' e s1 (by rw [z]; exact ea))
  · rcases get q with ⟨rfl, z⟩ | ⟨ne, q⟩
    · rcases h with rfl | rfl <;> cases z
    · exact R.nsl j k q
  · refine other (R.pn p hp) (fun ho z => ?_) (fun ⟨d2, hp2⟩ z => ?_)
    · rcases h with rfl | rfl
      · exact R.apX p hp ho i _ _ e trivial ea z
      · obtain ⟨v, y⟩ := p
        cases y with
        | own d2 => exact ownA (R.pn _ hp) h2 z
        | _ => exact ho
    · exact R.npp p hp d2 hp2
  · obtain ⟨y', q1, o1⟩ := back e1 h1
    obtain ⟨z', q2, o2⟩ := back e2 h2
    exact R.apS j k y' z' w u q1 q2 o1 o2 s1 s2 n
  · obtain ⟨y', q1, o1⟩ := back q h2
    exact R.apX p hp h1 j y' w q1 o1 s
  · rw [upd_ne (base b u e1 n)]
    exact R.keep b u e1 n n2
  · by_cases q : b = a
    · rw [q, upd_same] at z; cases z
    · rw [upd_ne q] at z; exact R.stay b n z
  · by_cases q : b = a
    · rw [q, upd_same] at z; cases z
    · rw [upd_ne q] at z; exact R.wsH b m z
  · obtain ⟨s1, s2, d2, s3⟩ := R.ps j b m
    by_cases q : j = i
    · subst q
      rw [e] at s3
      cases s3
      exact ⟨s1, s2, d', by rw [List.getElem?_set_self hi]; rfl⟩
    · exact ⟨s1, s2, d2, by rw [List.getElem?_set_ne (Ne.symm q)]; exact s3⟩
  · rcases get q with ⟨rfl, z⟩ | ⟨ne, q⟩
    · rcases h with rfl | rfl
      · cases z
      · exact R.pr j _ e
    · exact R.pr j d q
  · obtain ⟨s1, s2, ⟨ms, sp, mx, s3, s4, s5⟩, s6⟩ := R.dr dd st e1
    have n1 : ∀ c ∈ B.ws0, (∀ j b, (j, b) ∈ B.ps → b ≠ c) → c ≠ a := fun c m np z => by
      subst z
      rcases h with rfl | rfl
      · obtain ⟨b, _, q, _, n0, _⟩ := h2
        cases q
        exact R.w0 _ m n0
      · obtain ⟨b, m⟩ := R.pr i _ e
        obtain ⟨_, s2, _⟩ := R.ps i b m
        rw [ea] at s2
        cases s2
        exact np i _ m rfl
    exact ⟨s1, s2, ⟨ms, sp, mx, by rw [upd_ne (n1 dd s1 fun j b m => (s6 j b m).1)]; exact s3, by rw [upd_ne (n1 st s2 fun j b m => (s6 j b m).2)]; exact s4, s5⟩, s6⟩
end
end Dl
set_option maxRecDepth 100000
set_option maxHeartbeats 4000000
/-! the data layer: expressions -/
namespace Dl
open PySem PySem.Spec PyProof.Rows L2 L3
/-- what is raised: a class, and (where it has one) its attribute -/
abbrev Exn := Addr × Option (Str × D)
def ExR (K : PySem.W.Frag) (ws : List Addr) (H : Hp) (x : Exn) (cls : Value) (d : Option Addr) : Prop :=
  cls = .ref x.1 ∧ (match x.2 with
    | none => d = none
    | some (n, y) => ∃ p v, d = some p ∧ H p = some (.xd [(n, v)]) ∧ Da K (mns ws H) v y)
def EOk (K : PySem.W.Frag) (B : Base) (er : Exn → Prop) (E : XK) : Prop := ∀ x, er x → ∀ π ρ σ H ws cls d, Rel K B π ρ σ H ws → ExR K ws H x cls d → E cls d H
/-- a reading over data: of an expression, a test, arguments -/
abbrev TD := Rho → (Exn → Prop) → (Sl → Rho → Prop) → Prop
abbrev TDT := Rho → (Exn → Prop) → (Bool → Rho → Prop) → Prop
abbrev TDA := Rho → (Exn → Prop) → (List Sl → Rho → Prop) → Prop
def pushAll : List V → List Sl → List (V × Sl) → List (V × Sl)
  | v :: vs, r :: rs, π => pushAll vs rs ((v, r) :: π)
  | _, _, π => π
def DE (X : Cx) (E : XK) (e : Expr) (te : TE) (t : TD) : Prop := PE X e te ∧ ∀ (B : Base) (er : Exn → Prop) (π : List (V × Sl)) (ρ : Rho) (σ : L2.St) (H : Hp) (ws : List Addr) (q : Sl → Rho → Prop) (Q : VK),
  Rel X.K B π ρ σ H ws → EOk X.K B er E → t ρ er q → (∀ r ρ' v H' ws', q r ρ' → Rel X.K B ((v, r) :: π) ρ' σ H' ws' → Q v H') → te σ H Q
def DT (X : Cx) (E : XK) (e : Expr) (tt : TT) (t : TDT) : Prop := PT X e tt ∧ ∀ (B : Base) (er : Exn → Prop) (π : List (V × Sl)) (ρ : Rho) (σ : L2.St) (H : Hp) (ws : List Addr) (q : Bool → Rho → Prop) (Q : Bool → Hp → Prop),
  Rel X.K B π ρ σ H ws → EOk X.K B er E → t ρ er q → (∀ b ρ' H' ws', q b ρ' → Rel X.K B π ρ' σ H' ws' → Q b H') → tt σ H Q
def DW (X : Cx) (E : XK) (e : Expr) (tt : TT) (t : TDT) : Prop := PW X e tt ∧ ∀ (B : Base) (er : Exn → Prop) (π : List (V × Sl)) (ρ : Rho) (σ : L2.St) (H : Hp) (ws : List Addr) (q : Bool → Rho → Prop) (Q : Bool → Hp → Prop),
  Rel X.K B π ρ σ H ws → EOk X.K B er E → t ρ er q → (∀ b ρ' H' ws', q b ρ' → Rel X.K B π ρ' σ H' ws' → Q b H') → tt σ H Q
def DA (X : Cx) (E : XK) (es : List Expr) (ta : TA) (t : TDA) : Prop := PA X es ta ∧ ∀ (B : Base) (er : Exn → Prop) (π : List (V × Sl)) (ρ : Rho) (σ : L2.St) (H : Hp) (ws : List Addr) (q : List Sl → Rho → Prop) (Q : List V → Hp → Prop),
  Rel X.K B π ρ σ H ws → EOk X.K B er E → t ρ er q → (∀ rs ρ' vs H' ws', q rs ρ' → vs.length = rs.length → Rel X.K B (pushAll vs rs π) ρ' σ H' ws' → Q vs H') → ta σ H Q
theorem dt_w {X : Cx} {E : XK} {e : Expr} {tt : TT} {t : TDT} (h : DW X E e tt t) : DT X E e tt t := ⟨h.1.pt, h.2⟩
/-- a case of a bool -/
def cnd (c : Bool) (A B : Prop) : Prop := match c with
  | true => A
  | false => B
theorem cnd_of {c : Bool} {A B : Prop} (h1 : c = true → A) (h2 : c = false → B) : cnd c A B := by
  cases c with
  | true => exact h1 rfl
  | false => exact h2 rfl
section
variable {X : Cx} {E : XK} {a b e : Expr} {ta tb tc : TD} {tea teb te : TE} {pos : Pos}
/-! ### names and constants -/
def dVar (i : Nat) : TD := fun ρ _ q => match ρ[i]? with
  | none => False
  | some .no => False
  | some _ => q (.slot i) ρ
theorem de_of {i : Nat} {x : Str} {p : Pos} (h : PE X (.Name x p) (tVar i)) : DE X E (.Name x p) (tVar i) (dVar i) := by
  refine ⟨h, fun B er π ρ σ H ws q Q R _ h k => ?_⟩
  unfold dVar at h
  cases e : ρ[i]? with
  | none => rw [e] at h; exact h.elim
  | some x =>
    rw [e] at h
    have n : x ≠ .no := fun z => by rw [z] at h; exact h
    obtain ⟨v, h1, h2⟩ := R.sl i x e n
    refine ⟨v, h1, k (.slot i) ρ v H ws ?_ (R.push h1 (fun z => z) fun _ z => nomatch z)⟩
    cases x with
    | no => exact h.elim
    | _ => exact h
theorem dv (i : Nat) {x : Str} {p : Pos} (hN : X.N[i]? = some x := by rfl) (hv : Vis X.env.scope x := by first | exact Or.inl rfl | exact Or.inr (Or.inl rfl) | exact Or.inr (Or.inr rfl)) (hd : (x == ("__debug__" : Str)) = false := by decide)
    (hcd : (x == ("__classdict__" : Str)) = false := by decide) : DE X E (.Name x p) (tVar i) (dVar i) := de_of (pv i hN hv hd hcd)
def dC (d : D) : TD := fun ρ _ q => q (.imm d) ρ
theorem de_const {v : V} {d : D} (h : PE X e (tC v)) (hd : ∀ G, Da X.K G v d) : DE X E e (tC v) (dC d) :=
  ⟨h, fun B er π ρ σ H ws q Q R _ h k => k _ ρ v H ws h (R.imm (hd _))⟩
theorem de_int {i j p} : DE X E (.Constant (.int i) j p) (tC (.int i)) (dC (.int i)) := de_const pe_int fun _ => .int i
theorem de_bl {i j p} : DE X E (.Constant (.bool i) j p) (tC (.bl i)) (dC (.bl i)) := de_const pe_bl fun _ => .bl i
theorem de_str {i j p} : DE X E (.Constant (.str i) j p) (tC (.str i)) (dC (.str i)) := de_const pe_str fun _ => .str i
theorem de_non {j p} : DE X E (.Constant .none j p) (tC .non) (dC .non) := de_const pe_non fun _ => .non
/-! ### what a slot owns is handed on -/
def dTake (o : Bool) (i : Nat) : TD := fun ρ _ q => match ρ[i]? with
  | some (.own d) => q (mkS o d) (ρ.set i .no)
  | _ => False
end
section
variable {K : PySem.W.Frag} {B : Base} {π : List (V × Sl)} {ρ : Rho} {σ : L2.St} {H : Hp} {ws : List Addr} {v : V} {x : Sl} {d : D} {i : Nat}
theorem Rel.take (R : Rel K B π ρ σ H ws) (e : ρ[i]? = some (.own d)) (ev : σ[i]? = some (some v)) : Rel K B ((v, .own d) :: π) (ρ.set i .no) σ H ws := by
  have hi : i < ρ.length := (List.getElem?_eq_some_iff.mp e).1
  have get : ∀ {j : Nat} {z : Sl}, (ρ.set i .no)[j]? = some z → (j = i ∧ z = .no) ∨ (j ≠ i ∧ ρ[j]? = some z) := fun {j z} e => by
    by_cases q : j = i
    · subst q
      rw [List.getElem?_set_self hi] at e
      cases e
      exact .inl ⟨rfl, rfl⟩
    · rw [List.getElem?_set_ne (Ne.symm q)] at e
      exact .inr ⟨q, e⟩
  have ent : Ent K B σ H ws v (.own d) := by
    obtain ⟨w, h1, h2⟩ := R.sl i _ e (fun z => nomatch z)
    rw [ev] at h1
    cases h1
    exact h2
  refine { R with len := by simpa using R.len, sl := fun j z e n => ?_, nsl := fun j k e => ?_, pn := fun p hp => ?_, npp := fun p hp d z => ?_, apS := fun j k z t w u e1 e2 h1 h2 e3 e4 n => ?_, apP := List.pairwise_cons.mpr ⟨fun p hp h1 h2 z => ?_, R.apP⟩, apX := fun p hp h1 j z w e2 h2 e3 => ?_, ps := fun j a m => ?_, pr := fun j d e => ?_ }
  · rcases get e with ⟨_, q⟩ | ⟨q, e'⟩
    · exact (n q).elim
    · exact R.sl j z e' n
  · rcases get e with ⟨_, z⟩ | ⟨q, e'⟩
    · cases z
    · exact R.nsl j k e'
  · rcases List.mem_cons.mp hp with rfl | hp
    · exact ent
    · exact R.pn p hp
  · rcases List.mem_cons.mp hp with rfl | hp
    · cases z
    · exact R.npp p hp d z
  · rcases get e1 with ⟨_, q⟩ | ⟨q1, f1⟩
    · rw [q] at h1; exact h1.elim
    rcases get e2 with ⟨_, q⟩ | ⟨q2, f2⟩
    · rw [q] at h2; exact h2.elim
    exact R.apS j k z t w u f1 f2 h1 h2 e3 e4 n
  · exact R.apX p hp h2 i _ v e trivial ev z.symm
  · rcases get e2 with ⟨_, q⟩ | ⟨q, f⟩
    · rw [q] at h2; exact h2.elim
    rcases List.mem_cons.mp hp with rfl | hp
    · exact R.apS i j _ z v w e f trivial h2 ev e3 (Ne.symm q)
    · exact R.apX p hp h1 j z w f h2 e3
  · obtain ⟨h1, h2, d2, h3⟩ := R.ps j a m
    have q : j ≠ i := fun z => by rw [z, e] at h3; cases h3
    exact ⟨h1, h2, d2, by rw [List.getElem?_set_ne (Ne.symm q)]; exact h3⟩
  · rcases get e with ⟨_, z⟩ | ⟨q, e'⟩
    · cases z
    · exact R.pr j d e'
/-- an unknown slot whose value is known to be data -/
theorem Rel.know (R : Rel K B π ρ σ H ws) (e : ρ[i]? = some .no) (ev : σ[i]? = some (some v)) (h : Da K (mns ws H) v d) : Rel K B π (ρ.set i (.imm d)) σ H ws := by
  have hi : i < ρ.length := (List.getElem?_eq_some_iff.mp e).1
  have get : ∀ {j : Nat} {z : Sl}, (ρ.set i (.imm d))[j]? = some z → (j = i ∧ z = .imm d) ∨ (j ≠ i ∧ ρ[j]? = some z) := fun {j z} e => by
    by_cases q : j = i
    · subst q
      rw [List.getElem?_set_self hi] at e
      cases e
      exact .inl ⟨rfl, rfl⟩
    · rw [List.getElem?_set_ne (Ne.symm q)] at e
      exact .inr ⟨q, e⟩
  refine { R with len := by simpa using R.len, sl := fun j z e n => ?_, nsl := fun j k e => ?_, apS := fun j k z t w u e1 e2 h1 h2 e3 e4 n => ?_, apX := fun p hp h1 j z w e2 h2 e3 => ?_, ps := fun j a m => ?_, pr := fun j d e => ?_ }
  · rcases get e with ⟨rfl, rfl⟩ | ⟨q, e'⟩
    · exact ⟨v, ev, h⟩
    · exact R.sl j z e' n
  · rcases get e with ⟨_, z⟩ | ⟨q, e'⟩
    · cases z
    · exact R.nsl j k e'
  · rcases get e1 with ⟨_, q⟩ | ⟨q1, f1⟩
    · rw [q] at h1; exact h1.elim
    rcases get e2 with ⟨_, q⟩ | ⟨q2, f2⟩
    · rw [q] at h2; exact h2.elim
    exact R.apS j k z t w u f1 f2 h1 h2 e3 e4 n
  · rcases get e2 with ⟨_, q⟩ | ⟨q, f⟩
    · rw [q] at h2; exact h2.elim
    · exact R.apX p hp h1 j z w f h2 e3
  · obtain ⟨h1, h2, d2, h3⟩ := R.ps j a m
    have q : j ≠ i := fun z => by rw [z, e] at h3; cases h3
    exact ⟨h1, h2, d2, by rw [List.getElem?_set_ne (Ne.symm q)]; exact h3⟩
  · rcases get e with ⟨_, z⟩ | ⟨q, e'⟩
    · cases z
    · exact R.pr j d e'
/-- a slot's own object becomes data -/
theorem Rel.frzSlot (R : Rel K B π ρ σ H ws) (e : ρ[i]? = some (.own d)) : ∃ ws' v, σ[i]? = some (some v) ∧ Rel K B ((v, .imm d) :: π) (ρ.set i (.imm d)) σ H ws' := by
  have hi : i < ρ.length := (List.getElem?_eq_some_iff.mp e).1
  obtain ⟨v, h1, _⟩ := R.sl i _ e (fun z => nomatch z)
  obtain ⟨ws', R'⟩ := (R.take e h1).freeze
  refine ⟨ws', v, h1, ?_⟩
  have := R'.know (i := i) (by rw [List.getElem?_set_self hi]) h1 R'.top
  rwa [List.set_set] at this
end
section
variable {X : Cx} {E : XK} {a b e : Expr} {ta tb tc : TD} {tea teb te : TE} {pos : Pos} {i : Nat} {n : Str} {p : Pos}
theorem take_run {o : Bool} {B : Base} {π : List (V × Sl)} {ρ : Rho} {σ : L2.St} {H : Hp} {ws : List Addr} {q : Sl → Rho → Prop} {er : Exn → Prop} (R : Rel X.K B π ρ σ H ws) (h : dTake o i ρ er q) : ∃ r ρ' v ws', σ[i]? = some (some v) ∧ q r ρ' ∧ Rel X.K B ((v, r) :: π) ρ' σ H ws' := by
  unfold dTake at h
  split at h
  · rename_i d e
    obtain ⟨v, h1, _⟩ := R.sl i _ e (fun z => nomatch z)
    have T := R.take e h1
    cases o with
    | true => exact ⟨_, _, v, ws, h1, h, T⟩
    | false =>
      obtain ⟨ws', F⟩ := T.freeze
      exact ⟨_, _, v, ws', h1, h, F⟩
  · exact h.elim
theorem dtake (o : Bool) (i : Nat) {x : Str} {p : Pos} (hN : X.N[i]? = some x := by rfl) (hv : Vis X.env.scope x := by first | exact Or.inl rfl | exact Or.inr (Or.inl rfl) | exact Or.inr (Or.inr rfl)) (hd : (x == ("__debug__" : Str)) = false := by decide)
    (hcd : (x == ("__classdict__" : Str)) = false := by decide) : DE X E (.Name x p) (tVar i) (dTake o i) :=
  ⟨pv i hN hv hd hcd, fun B er π ρ σ H ws q Q R _ h k => by
    obtain ⟨r, ρ', v, ws', e, h, R'⟩ := take_run R h
    exact ⟨v, e, k _ _ v H ws' h R'⟩⟩
/-- a slot's own object read: from here on it is data -/
def dFrz (i : Nat) : TD := fun ρ _ q => match ρ[i]? with
  | some (.own d) => q (.imm d) (ρ.set i (.imm d))
  | _ => False
theorem dfrz (i : Nat) {x : Str} {p : Pos} (hN : X.N[i]? = some x := by rfl) (hv : Vis X.env.scope x := by first | exact Or.inl rfl | exact Or.inr (Or.inl rfl) | exact Or.inr (Or.inr rfl)) (hd : (x == ("__debug__" : Str)) = false := by decide)
    (hcd : (x == ("__classdict__" : Str)) = false := by decide) : DE X E (.Name x p) (tVar i) (dFrz i) :=
  ⟨pv i hN hv hd hcd, fun B er π ρ σ H ws q Q R _ h k => by
    unfold dFrz at h
    split at h
    · rename_i d e
      obtain ⟨ws', v, h1, F⟩ := R.frzSlot e
      exact ⟨v, h1, k _ _ v H ws' h F⟩
    · exact h.elim⟩
/-! ### operators -/
def OpD (X : Cx) (f : Value → Value → Sem Value) (r : R2) (w : D → D → (D → Prop) → Prop) : Prop := OpR X f r ∧ ∀ {x y : V} {a b : D} {H G : Hp} {q : D → Prop} {Q : VK}, Le G H → Db X.K H G x a → Db X.K H G y b → w a b q → (∀ d v H1, q d → Res X.K H G v d H1 → Q v H1) → r x y H Q
/-- .. that makes a new object -/
def OpO (X : Cx) (f : Value → Value → Sem Value) (r : R2) (w : D → D → (D → Prop) → Prop) : Prop := OpR X f r ∧ ∀ {x y : V} {a b : D} {H G : Hp} {q : D → Prop} {Q : VK}, Le G H → Db X.K H G x a → Db X.K H G y b → w a b q → (∀ d v H1, q d → ResO X.K H G v d H1 → Q v H1) → r x y H Q
theorem OpO.d {f : Value → Value → Sem Value} {r : R2} {w : D → D → (D → Prop) → Prop} (h : OpO X f r w) : OpD X f r w := ⟨h.1, fun l ha hb hw k => h.2 l ha hb hw fun d v H1 q z => k d v H1 q z.res⟩
def dBin (w : D → D → (D → Prop) → Prop) (ta tb : TD) : TD := fun ρ er q => ta ρ er fun r ρ1 => tb ρ1 er fun s ρ2 => wd r ρ2 fun a => wd s ρ2 fun b => w a b fun d => q (.imm d) ρ2
def dBinO (o : Bool) (w : D → D → (D → Prop) → Prop) (ta tb : TD) : TD := fun ρ er q => ta ρ er fun r ρ1 => tb ρ1 er fun s ρ2 => wd r ρ2 fun a => wd s ρ2 fun b => w a b fun d => q (mkS o d) ρ2
theorem bin_run {f : Value → Value → Sem Value} {r : R2} {w : D → D → (D → Prop) → Prop} (ho : OpD X f r w) (ha : DE X E a tea ta) (hb : DE X E b teb tb) :
    ∀ (B : Base) (er : Exn → Prop) (π : List (V × Sl)) (ρ : Rho) (σ : L2.St) (H : Hp) (ws : List Addr) (q : Sl → Rho → Prop) (Q : VK), Rel X.K B π ρ σ H ws → EOk X.K B er E → dBin w ta tb ρ er q →
      (∀ r ρ' v H' ws', q r ρ' → Rel X.K B ((v, r) :: π) ρ' σ H' ws' → Q v H') → tOp r tea teb σ H Q := by
  obtain ⟨hr, hr2⟩ := ho
  obtain ⟨pa, ka⟩ := ha
  obtain ⟨pb, kb⟩ := hb
  intro B er π ρ σ H ws q Q R hE h k
  refine ka B er π ρ σ H ws _ _ R hE h fun r1 ρ1 v1 H1 ws1 h1 R1 => ?_
  refine kb B er _ ρ1 σ H1 ws1 _ _ R1 hE h1 fun r2 ρ2 v2 H2 ws2 h2 R2 => ?_
  obtain ⟨da, ea, h2⟩ := wd_of h2
  obtain ⟨db, eb, h2⟩ := wd_of h2
  exact hr2 mns_le (R2.view (List.mem_cons_of_mem _ List.mem_cons_self) ea) (R2.view List.mem_cons_self eb) h2 fun d v H3 hq hres => k _ ρ2 v H3 ws2 hq (R2.pop.pop.res hres)
theorem de_bin {op : Operator} {w : D → D → (D → Prop) → Prop} {r : R2} (ho : OpD X (binaryOp op) r w) (ha : DE X E a tea ta) (hb : DE X E b teb tb) : DE X E (.BinOp a op b pos) (tOp r tea teb) (dBin w ta tb) := by
  exact ⟨pe_op ho.1 ha.1 hb.1, bin_run ho ha hb⟩
theorem de_cmp {op : CmpOp} {w : D → D → (D → Prop) → Prop} {r : R2} (ho : OpD X (compareOp op) r w) (ha : DE X E a tea ta) (hb : DE X E b teb tb) (hm : behindInMarks op b = false) : DE X E (.Compare a [op] [b] pos) (tOp r tea teb) (dBin w ta tb) := by
  exact ⟨pe_cmpR ho.1 ha.1 hb.1 hm, bin_run ho ha hb⟩
theorem de_binO {op : Operator} {w : D → D → (D → Prop) → Prop} {r : R2} (o : Bool) (ho : OpO X (binaryOp op) r w) (ha : DE X E a tea ta) (hb : DE X E b teb tb) : DE X E (.BinOp a op b pos) (tOp r tea teb) (dBinO o w ta tb) := by
  obtain ⟨hr, hr2⟩ := ho
  obtain ⟨pa, ka⟩ := ha
  obtain ⟨pb, kb⟩ := hb
  refine ⟨pe_op hr pa pb, fun B er π ρ σ H ws q Q R hE h k => ?_⟩
  refine ka B er π ρ σ H ws _ _ R hE h fun r1 ρ1 v1 H1 ws1 h1 R1 => ?_
  refine kb B er _ ρ1 σ H1 ws1 _ _ R1 hE h1 fun r2 ρ2 v2 H2 ws2 h2 R2 => ?_
  obtain ⟨da, ea, h2⟩ := wd_of h2
  obtain ⟨db, eb, h2⟩ := wd_of h2
  refine hr2 mns_le (R2.view (List.mem_cons_of_mem _ List.mem_cons_self) ea) (R2.view List.mem_cons_self eb) h2 fun d v H3 hq hres => ?_
  obtain ⟨ws3, R3⟩ := R2.pop.pop.resO o hres
  exact k _ ρ2 v H3 ws3 hq R3
/-- a comparison's answer as a test -/
def dTest (t : TD) : TDT := fun ρ er q => t ρ er fun r ρ1 => wd r ρ1 fun d => match d with
  | .bl c => q c ρ1
  | _ => False
theorem dt_cmp {op : CmpOp} {w : D → D → (D → Prop) → Prop} {r : R2} (ho : OpD X (compareOp op) r w) (ha : DE X E a tea ta) (hb : DE X E b teb tb) (hm : behindInMarks op b = false) : DT X E (.Compare a [op] [b] pos) (tTest (tOp r tea teb)) (dTest (dBin w ta tb)) := by
  have k := bin_run ho ha hb
  refine ⟨pt_cmpR ho.1 ha.1 hb.1 hm, fun B er π ρ σ H ws q Q R hE h kk => ?_⟩
  refine k B er π ρ σ H ws _ _ R hE h fun r1 ρ1 v1 H1 ws1 h1 R1 => ?_
  obtain ⟨d, e, h1⟩ := wd_of h1
  have V := R1.viewTop e
  split at h1
  · rename_i c
    cases V
    exact ⟨c, rfl, kk c ρ1 H1 ws1 h1 R1.pop⟩
  · exact h1.elim
/-- any other expression that gives a bool, as a test -/
theorem dt_val (h : DE X E e te ta) (he : ∀ whole, isTrue e X.env whole = (do let v ← whole; standAt e.pos; holding [v] (truthy v)) := by intro _; rfl) : DT X E e (tB te) (dTest ta) := by
  obtain ⟨pe, k⟩ := h
  refine ⟨pt_val pe he, fun B er π ρ σ H ws q Q R hE h kk => ?_⟩
  refine k B er π ρ σ H ws _ _ R hE h fun r1 ρ1 v1 H1 ws1 h1 R1 => ?_
  obtain ⟨d, e, h1⟩ := wd_of h1
  have V := R1.viewTop e
  split at h1
  · rename_i c
    cases V
    exact ⟨c, rfl, kk c ρ1 H1 ws1 h1 R1.pop⟩
  · exact h1.elim
/-- the truth of any value -/
def tru : D → (Bool → Prop) → Prop
  | .non, q => q false
  | .bl b, q => q b
  | .int i, q => q (i != 0)
  | .str s, q => s.length ≤ sizeLine ∧ q ((s.length : Int) != 0)
  | .lst xs, q => q (!xs.isEmpty)
  | .tup xs, q => q (!xs.isEmpty)
  | _, _ => False
def dTru (t : TD) : TDT := fun ρ er q => t ρ er fun r ρ1 => wd r ρ1 fun d => tru d fun c => q c ρ1
theorem isEmpty_das {K : PySem.W.Frag} {G : Hp} {xs : List V} {ds : List D} (h : Das K G xs ds) : (!xs.isEmpty) = !ds.isEmpty := by
  cases h <;> rfl
theorem dt_tru {K : PySem.W.Frag} (h : DE X E e te ta) (he : ∀ whole, isTrue e X.env whole = (do let v ← whole; standAt e.pos; holding [v] (truthy v)) := by intro _; rfl) (hK : X.K = K := by rfl) : DT X E e (fun σ H Q => te σ H fun x H1 => ∃ k, TruV K x H1 k ∧ Q k H1) (dTru ta) := by
  subst hK
  obtain ⟨pe, k⟩ := h
  refine ⟨pt_truth pe he, fun B er π ρ σ H ws q Q R hE h kk => ?_⟩
  refine k B er π ρ σ H ws _ _ R hE h fun r1 ρ1 v1 H1 ws1 h1 R1 => ?_
  obtain ⟨d, e, h1⟩ := wd_of h1
  have V := R1.viewTop e
  cases V with
  | non => exact ⟨_, rfl, kk _ _ _ _ h1 R1.pop⟩
  | bl b => exact ⟨_, rfl, kk _ _ _ _ h1 R1.pop⟩
  | int i => exact ⟨_, rfl, kk _ _ _ _ h1 R1.pop⟩
  | str s => exact ⟨_, ⟨h1.1, rfl⟩, kk _ _ _ _ h1.2 R1.pop⟩
  | lst e' hd => exact ⟨_, .inl ⟨_, SqL.of e', (isEmpty_das hd).symm⟩, kk _ _ _ _ h1 R1.pop⟩
  | tup e' hd => exact ⟨_, .inr (.inl ⟨_, mns_le.sqT e', (isEmpty_das hd).symm⟩), kk _ _ _ _ h1 R1.pop⟩
  | dct e k hd => exact h1.elim
  | set e m z => exact h1.elim
  | ins e k hd => exact h1.elim
/-! ### one value -/
def UnD (X : Cx) (f : Value → Sem Value) (r : V → Hp → VK → Prop) (w : D → (D → Prop) → Prop) : Prop := UnR X f r ∧ ∀ {x : V} {a : D} {H G : Hp} {q : D → Prop} {Q : VK}, Le G H → Db X.K H G x a → w a q → (∀ d v H1, q d → Res X.K H G v d H1 → Q v H1) → r x H Q
def dUn (w : D → (D → Prop) → Prop) (ta : TD) : TD := fun ρ er q => ta ρ er fun r ρ1 => wd r ρ1 fun a => w a fun d => q (.imm d) ρ1
theorem de_un {op : UnaryOp} {w : D → (D → Prop) → Prop} {r : V → Hp → VK → Prop} (ho : UnD X (unaryOp op) r w) (ha : DE X E a tea ta) : DE X E (.UnaryOp op a pos) (tUn r tea) (dUn w ta) := by
  obtain ⟨hr, hr2⟩ := ho
  obtain ⟨pa, ka⟩ := ha
  refine ⟨pe_un hr pa, fun B er π ρ σ H ws q Q R hE h k => ?_⟩
  refine ka B er π ρ σ H ws _ _ R hE h fun r1 ρ1 v1 H1 ws1 h1 R1 => ?_
  obtain ⟨da, ea, h1⟩ := wd_of h1
  exact hr2 mns_le (R1.viewTop ea) h1 fun d v H3 hq hres => k _ ρ1 v H3 ws1 hq (R1.pop.res hres)
def negW : D → (D → Prop) → Prop
  | .int i, q => q (.int (-i))
  | _, _ => False
theorem un_negD : UnD X (unaryOp .USub) (rU fun i => .int (-i)) negW := ⟨un_neg, fun l h w k => by
  cases h with
  | int i => exact ⟨i, rfl, k _ _ _ w (.same (.int _))⟩
  | _ => exact w.elim⟩
/-- is None, is not None -/
def isNonB : D → Bool
  | .non => true
  | _ => false
def dIsN (neg : Bool) (ta : TD) : TD := fun ρ er q => ta ρ er fun r ρ1 => wd r ρ1 fun a => q (.imm (.bl (if neg then !isNonB a else isNonB a))) ρ1
theorem isNon_db {K : PySem.W.Frag} {H G : Hp} {v : V} {d : D} (h : Db K H G v d) : decide (v = .non) = isNonB d := by
  cases h <;> rfl
theorem de_isN {j pos'} (ha : DE X E a tea ta) : DE X E (.Compare a [.Is] [.Constant .none j pos'] pos) (tIsN tea) (dIsN false ta) := by
  obtain ⟨pa, ka⟩ := ha
  refine ⟨pe_cmp (pc_isN pa), fun B er π ρ σ H ws q Q R hE h k => ?_⟩
  refine ka B er π ρ σ H ws _ _ R hE h fun r1 ρ1 v1 H1 ws1 h1 R1 => ?_
  obtain ⟨da, ea, h1⟩ := wd_of h1
  rw [isNon_db (R1.viewTop ea)]
  exact k _ ρ1 _ H1 ws1 h1 (R1.pop.imm (.bl _))
theorem de_notN {j pos'} (ha : DE X E a tea ta) : DE X E (.Compare a [.IsNot] [.Constant .none j pos'] pos) (tNotN tea) (dIsN true ta) := by
  obtain ⟨pa, ka⟩ := ha
  refine ⟨pe_cmp (pc_notN pa), fun B er π ρ σ H ws q Q R hE h k => ?_⟩
  refine ka B er π ρ σ H ws _ _ R hE h fun r1 ρ1 v1 H1 ws1 h1 R1 => ?_
  obtain ⟨da, ea, h1⟩ := wd_of h1
  rw [isNon_db (R1.viewTop ea)]
  exact k _ ρ1 _ H1 ws1 h1 (R1.pop.imm (.bl _))
theorem dt_isN {j pos'} (ha : DE X E a tea ta) : DT X E (.Compare a [.Is] [.Constant .none j pos'] pos) (tB (tIsN tea)) (dTest (dIsN false ta)) := by
  obtain ⟨pa, ka⟩ := ha
  refine ⟨pt_cmp (pc_isN pa), fun B er π ρ σ H ws q Q R hE h k => ?_⟩
  refine ka B er π ρ σ H ws _ _ R hE h fun r1 ρ1 v1 H1 ws1 h1 R1 => ?_
  obtain ⟨da, ea, h1⟩ := wd_of h1
  rw [isNon_db (R1.viewTop ea)]
  exact ⟨_, rfl, k _ ρ1 H1 ws1 h1 R1.pop⟩
theorem dt_notN {j pos'} (ha : DE X E a tea ta) : DT X E (.Compare a [.IsNot] [.Constant .none j pos'] pos) (tB (tNotN tea)) (dTest (dIsN true ta)) := by
  obtain ⟨pa, ka⟩ := ha
  refine ⟨pt_cmp (pc_notN pa), fun B er π ρ σ H ws q Q R hE h k => ?_⟩
  refine ka B er π ρ σ H ws _ _ R hE h fun r1 ρ1 v1 H1 ws1 h1 R1 => ?_
  obtain ⟨da, ea, h1⟩ := wd_of h1
  rw [isNon_db (R1.viewTop ea)]
  exact ⟨_, rfl, k _ ρ1 H1 ws1 h1 R1.pop⟩
/-! ### and, or, not; a if t else b -/
variable {t u : TDT} {tt tu : TT} {rest : List Expr}
def dAnd (t u : TDT) : TDT := fun ρ er q => t ρ er fun c ρ1 => cnd c (u ρ1 er q) (q false ρ1)
def dOr (t u : TDT) : TDT := fun ρ er q => t ρ er fun c ρ1 => cnd c (q true ρ1) (u ρ1 er q)
def dNot (t : TDT) : TDT := fun ρ er q => t ρ er fun c ρ1 => q (!c) ρ1
theorem dw_and1 (h : DT X E a tt t) : DW X E (.BoolOp .And [a] pos) tt t := ⟨pw_and1 h.1, h.2⟩
theorem dw_or1 (h : DT X E a tt t) : DW X E (.BoolOp .Or [a] pos) tt t := ⟨pw_or1 h.1, h.2⟩
theorem dw_and (ha : DT X E a tt t) (hb : DW X E (.BoolOp .And (b :: rest) pos) tu u) : DW X E (.BoolOp .And (a :: b :: rest) pos) (tAnd tt tu) (dAnd t u) := by
  obtain ⟨pa, ka⟩ := ha
  obtain ⟨pb, kb⟩ := hb
  refine ⟨pw_and pa pb, fun B er π ρ σ H ws q Q R hE h k => ?_⟩
  refine ka B er π ρ σ H ws _ _ R hE h fun c ρ1 H1 ws1 h1 R1 => ?_
  cases c with
  | true => exact iteT (kb B er π ρ1 σ H1 ws1 q Q R1 hE h1 k)
  | false => exact iteF (k _ _ _ _ h1 R1)
theorem dw_or (ha : DT X E a tt t) (hb : DW X E (.BoolOp .Or (b :: rest) pos) tu u) : DW X E (.BoolOp .Or (a :: b :: rest) pos) (tOr tt tu) (dOr t u) := by
  obtain ⟨pa, ka⟩ := ha
  obtain ⟨pb, kb⟩ := hb
  refine ⟨pw_or pa pb, fun B er π ρ σ H ws q Q R hE h k => ?_⟩
  refine ka B er π ρ σ H ws _ _ R hE h fun c ρ1 H1 ws1 h1 R1 => ?_
  cases c with
  | true => exact iteT (k _ _ _ _ h1 R1)
  | false => exact iteF (kb B er π ρ1 σ H1 ws1 q Q R1 hE h1 k)
theorem dt_not (h : DT X E a tt t) : DT X E (.UnaryOp .Not a pos) (tNot tt) (dNot t) := by
  obtain ⟨pa, ka⟩ := h
  exact ⟨pt_not pa, fun B er π ρ σ H ws q Q R hE h k => ka B er π ρ σ H ws _ _ R hE h fun c ρ1 H1 ws1 h1 R1 => k _ _ _ _ h1 R1⟩
def asB (r : Sl) (ρ : Rho) (k : Bool → Prop) : Prop := wd r ρ fun d => match d with
  | .bl c => k c
  | _ => False
def dAndV (ta tb : TD) : TD := fun ρ er q => ta ρ er fun r ρ1 => asB r ρ1 fun c => cnd c (tb ρ1 er q) (q (.imm (.bl false)) ρ1)
def dOrV (ta tb : TD) : TD := fun ρ er q => ta ρ er fun r ρ1 => asB r ρ1 fun c => cnd c (q (.imm (.bl true)) ρ1) (tb ρ1 er q)
def dNotV (ta : TD) : TD := fun ρ er q => ta ρ er fun r ρ1 => asB r ρ1 fun c => q (.imm (.bl (!c))) ρ1
theorem asB_of {K : PySem.W.Frag} {B : Base} {π : List (V × Sl)} {ρ : Rho} {σ : L2.St} {H : Hp} {ws : List Addr} {v : V} {r : Sl} {k : Bool → Prop} (R : Rel K B ((v, r) :: π) ρ σ H ws) (h : asB r ρ k) : ∃ c, v = .bl c ∧ k c := by
  obtain ⟨d, e, h⟩ := wd_of h
  have V := R.viewTop e
  split at h
  · cases V; exact ⟨_, rfl, h⟩
  · exact h.elim
theorem de_one {op : BoolOp} (h : DE X E a tea ta) : DE X E (.BoolOp op [a] pos) tea ta := ⟨pe_one h.1, h.2⟩
theorem de_and (ha : DE X E a tea ta) (hb : DE X E (.BoolOp .And (b :: rest) pos) teb tb) : DE X E (.BoolOp .And (a :: b :: rest) pos) (tAndV tea teb) (dAndV ta tb) := by
  obtain ⟨pa, ka⟩ := ha
  obtain ⟨pb, kb⟩ := hb
  refine ⟨pe_and pa pb, fun B er π ρ σ H ws q Q R hE h k => ?_⟩
  refine ka B er π ρ σ H ws _ _ R hE h fun r1 ρ1 v1 H1 ws1 h1 R1 => ?_
  obtain ⟨c, rfl, h1⟩ := asB_of R1 h1
  refine ⟨c, rfl, ?_⟩
  cases c with
  | true => exact iteT (kb B er π ρ1 σ H1 ws1 q Q R1.pop hE h1 k)
  | false => exact iteF (k _ _ _ _ _ h1 (R1.pop.imm (.bl _)))
theorem de_or (ha : DE X E a tea ta) (hb : DE X E (.BoolOp .Or (b :: rest) pos) teb tb) : DE X E (.BoolOp .Or (a :: b :: rest) pos) (tOrV tea teb) (dOrV ta tb) := by
  obtain ⟨pa, ka⟩ := ha
  obtain ⟨pb, kb⟩ := hb
  refine ⟨pe_or pa pb, fun B er π ρ σ H ws q Q R hE h k => ?_⟩
  refine ka B er π ρ σ H ws _ _ R hE h fun r1 ρ1 v1 H1 ws1 h1 R1 => ?_
  obtain ⟨c, rfl, h1⟩ := asB_of R1 h1
  refine ⟨c, rfl, ?_⟩
  cases c with
  | true => exact iteT (k _ _ _ _ _ h1 (R1.pop.imm (.bl _)))
  | false => exact iteF (kb B er π ρ1 σ H1 ws1 q Q R1.pop hE h1 k)
theorem de_not (ha : DE X E a tea ta) : DE X E (.UnaryOp .Not a pos) (tNotV tea) (dNotV ta) := by
  obtain ⟨pa, ka⟩ := ha
  refine ⟨pe_not pa, fun B er π ρ σ H ws q Q R hE h k => ?_⟩
  refine ka B er π ρ σ H ws _ _ R hE h fun r1 ρ1 v1 H1 ws1 h1 R1 => ?_
  obtain ⟨c, rfl, h1⟩ := asB_of R1 h1
  exact ⟨c, rfl, k _ _ _ _ _ h1 (R1.pop.imm (.bl _))⟩
def dIf (t : TDT) (ta tb : TD) : TD := fun ρ er q => t ρ er fun c ρ1 => cnd c (ta ρ1 er q) (tb ρ1 er q)
theorem de_if {c : Expr} (hc : DT X E c tt t) (ha : DE X E a tea ta) (hb : DE X E b teb tb) : DE X E (.IfExp c a b pos) (tIf tt tea teb) (dIf t ta tb) := by
  obtain ⟨pc, kc⟩ := hc
  obtain ⟨pa, ka⟩ := ha
  obtain ⟨pb, kb⟩ := hb
  refine ⟨pe_ifExp pc pa pb, fun B er π ρ σ H ws q Q R hE h k => ?_⟩
  refine kc B er π ρ σ H ws _ _ R hE h fun c ρ1 H1 ws1 h1 R1 => ?_
  cases c with
  | true => exact iteT (ka B er π ρ1 σ H1 ws1 q Q R1 hE h1 k)
  | false => exact iteF (kb B er π ρ1 σ H1 ws1 q Q R1 hE h1 k)
end
end Dl
set_option maxRecDepth 100000
set_option maxHeartbeats 4000000
/-! the data layer: data as the library's; the operators -/
namespace Dl
open PySem PySem.Spec PyProof.Rows L2 L3
mutual
def D.py : D → PyData
  | .non => .none
  | .bl b => .bool b
  | .int i => .int i
  | .str s => .str s
  | .lst xs => .list (D.pys xs)
  | .tup xs => .tuple (D.pys xs)
  | _ => .none
def D.pys : List D → List PyData
  | [] => []
  | x :: xs => D.py x :: D.pys xs
end
mutual
/-- lists and tuples of flat things, at any depth -/
def D.pl : D → Bool
  | .non => true
  | .bl _ => true
  | .int _ => true
  | .str _ => true
  | .lst xs => D.pls xs
  | .tup xs => D.pls xs
  | _ => false
def D.pls : List D → Bool
  | [] => true
  | x :: xs => D.pl x && D.pls xs
end
/-- what may be compared -/
def okD (d : D) : Prop := d.pl = true ∧ SeqAt.shaped d.py = true
def deq (a b : D) : Bool := PyData.eqv a.py b.py
section
variable {K : PySem.W.Frag} {G H : Hp}
mutual
theorem Da.dp : ∀ {v : V} {d : D}, Da K G v d → d.pl = true → Dp K G v d.py
  | _, _, .non, _ => .non
  | _, _, .bl b, _ => .bl b
  | _, _, .int i, _ => .int i
  | _, _, .str s, _ => .str s
  | _, _, .lst e h, p => .lst (SqL.of e) (Das.dp h p)
  | _, _, .tup e h, p => .tup e (Das.dp h p)
  | _, _, .dct _ _ _, p => by cases p
  | _, _, .set _ _ _, p => by cases p
  | _, _, .ins _ _ _, p => by cases p
theorem Das.dp : ∀ {vs : List V} {ds : List D}, Das K G vs ds → D.pls ds = true → DpAll K G vs (D.pys ds)
  | _, _, .nil, _ => .nil
  | _, _, .cons (d := d) h t, p => by
    have p' : (D.pl d && D.pls _) = true := p
    rw [Bool.and_eq_true] at p'
    exact .cons (Da.dp h p'.1) (Das.dp t p'.2)
end
theorem Db.dp {v : V} {d : D} (l : Le G H) (h : Db K H G v d) (p : d.pl = true) : Dp K H v d.py := (h.da l).dp p
theorem pys_map (ds : List D) : D.pys ds = ds.map D.py := by
  induction ds with
  | nil => rfl
  | cons d ds ih => show D.py d :: D.pys ds = _; rw [ih]; rfl
theorem pls_all (ds : List D) : D.pls ds = ds.all D.pl := by
  induction ds with
  | nil => rfl
  | cons d ds ih => show (D.pl d && D.pls ds) = _; rw [ih]; rfl
end
/-! ### dicts -/
def lkD (ps : List (Key × D)) (k : Key) : Option D := (ps.find? fun p => decide (p.1 = k)).map (·.2)
def puD (ps : List (Key × D)) (k : Key) (d : D) : List (Key × D) := if ps.any (fun p => decide (p.1 = k)) = true then ps.map (fun p => if p.1 = k then (p.1, d) else p) else ps ++ [(k, d)]
def drD (ps : List (Key × D)) (k : Key) : List (Key × D) := ps.filter fun p => decide (p.1 ≠ k)
def D.key : D → Option Key
  | .int i => some (.inl i)
  | .str s => some (.inr s)
  | _ => none
theorem key_db {K : PySem.W.Frag} {H G : Hp} {v : V} {d : D} {k : Key} (h : Db K H G v d) (e : d.key = some k) : v = kV k := by
  cases h <;> cases e <;> rfl
section
variable {K : PySem.W.Frag} {G : Hp}
/-- the pairs of a dict and their data -/
def Kd (K : PySem.W.Frag) (G : Hp) (kvs : List (Key × V)) (ps : List (Key × D)) : Prop := kvs.map (·.1) = ps.map (·.1) ∧ Das K G (kvs.map (·.2)) (ps.map (·.2))
theorem Kd.nil : Kd K G [] [] := ⟨rfl, .nil⟩
theorem Kd.cons {k : Key} {v : V} {d : D} {kvs : List (Key × V)} {ps : List (Key × D)} (h : Da K G v d) (t : Kd K G kvs ps) : Kd K G ((k, v) :: kvs) ((k, d) :: ps) := ⟨congrArg (k :: ·) t.1, .cons h t.2⟩
theorem Kd.uncons {q : Key × V} {p : Key × D} {kvs : List (Key × V)} {ps : List (Key × D)} (h : Kd K G (q :: kvs) (p :: ps)) : q.1 = p.1 ∧ Da K G q.2 p.2 ∧ Kd K G kvs ps := by
  obtain ⟨h1, h2⟩ := h
  cases h2 with
  | cons a b => exact ⟨(List.cons.inj h1).1, a, (List.cons.inj h1).2, b⟩
theorem Kd.look (k : Key) : ∀ {kvs : List (Key × V)} {ps : List (Key × D)}, Kd K G kvs ps → (lkD ps k = none ∧ valV kvs k = none) ∨ ∃ d v, lkD ps k = some d ∧ valV kvs k = some v ∧ Da K G v d
  | [], [], _ => .inl ⟨rfl, rfl⟩
  | [], _ :: _, h => by have := h.1; cases this
  | _ :: _, [], h => by have := h.1; cases this
  | (k1, v) :: kvs, (k2, d) :: ps, h => by
    obtain ⟨e, a, t⟩ := h.uncons
    have e' : k1 = k2 := e
    subst e'
    unfold lkD valV
    by_cases q : k1 = k
    · rw [List.find?_cons_of_pos (by simp [q]), List.find?_cons_of_pos (by simp [q])]
      exact .inr ⟨d, v, rfl, rfl, a⟩
    · rw [List.find?_cons_of_neg (by simp [q]), List.find?_cons_of_neg (by simp [q])]
      exact Kd.look k t
end
/-! ### operators, case by case -/
section
variable {X : Cx}
theorem OpD.cases_ {f : Value → Value → Sem Value} {r1 r2 : R2} {w1 w2 w : D → D → (D → Prop) → Prop} (h1 : OpD X f r1 w1) (h2 : OpD X f r2 w2) (h : ∀ a b, (∀ q, w a b q → w1 a b q) ∨ ∀ q, w a b q → w2 a b q) : OpD X f (fun x y H Q => r1 x y H Q ∨ r2 x y H Q) w :=
  ⟨h1.1.or h2.1, fun {x y a b H G q Q} l ha hb hw k => (h a b).elim (fun z => .inl (h1.2 l ha hb (z q hw) k)) fun z => .inr (h2.2 l ha hb (z q hw) k)⟩
theorem OpO.cases_ {f : Value → Value → Sem Value} {r1 r2 : R2} {w1 w2 w : D → D → (D → Prop) → Prop} (h1 : OpO X f r1 w1) (h2 : OpO X f r2 w2) (h : ∀ a b, (∀ q, w a b q → w1 a b q) ∨ ∀ q, w a b q → w2 a b q) : OpO X f (fun x y H Q => r1 x y H Q ∨ r2 x y H Q) w :=
  ⟨h1.1.or h2.1, fun {x y a b H G q Q} l ha hb hw k => (h a b).elim (fun z => .inl (h1.2 l ha hb (z q hw) k)) fun z => .inr (h2.2 l ha hb (z q hw) k)⟩
def wII (C : Int → Int → Prop) (g : Int → Int → D) : D → D → (D → Prop) → Prop
  | .int i, .int j, q => C i j ∧ q (g i j)
  | _, _, _ => False
def wI0 (g : Int → Int → D) : D → D → (D → Prop) → Prop
  | .int i, .int j, q => q (g i j)
  | _, _, _ => False
theorem opD_int {f : Value → Value → Sem Value} {C : Int → Int → Prop} {g : Int → Int → Int} (h : OpR X f (rI C fun i j => .int (g i j))) : OpD X f (rI C fun i j => .int (g i j)) (wII C fun i j => .int (g i j)) :=
  ⟨h, fun l ha hb hw k => by
    cases ha <;> cases hb <;> first | exact hw.elim | exact ⟨_, _, rfl, rfl, hw.1, k _ _ _ hw.2 (.same (.int _))⟩⟩
theorem opD_int0 {f : Value → Value → Sem Value} {g : Int → Int → Int} (h : OpR X f (rI0 fun i j => .int (g i j))) : OpD X f (rI0 fun i j => .int (g i j)) (wI0 fun i j => .int (g i j)) :=
  ⟨h, fun l ha hb hw k => by
    cases ha <;> cases hb <;> first | exact hw.elim | exact ⟨_, _, rfl, rfl, k _ _ _ hw (.same (.int _))⟩⟩
theorem opD_bl0 {f : Value → Value → Sem Value} {g : Int → Int → Bool} (h : OpR X f (rI0 fun i j => .bl (g i j))) : OpD X f (rI0 fun i j => .bl (g i j)) (wI0 fun i j => .bl (g i j)) :=
  ⟨h, fun l ha hb hw k => by
    cases ha <;> cases hb <;> first | exact hw.elim | exact ⟨_, _, rfl, rfl, k _ _ _ hw (.same (.bl _))⟩⟩
theorem od_sub : OpD X (binaryOp .Sub) (rI0 fun i j => .int (i - j)) (wI0 fun i j => .int (i - j)) := opD_int0 op_sub
theorem od_fdiv : OpD X (binaryOp .FloorDiv) (rI CDivN fun i j => .int (i.fdiv j)) (wII CDivN fun i j => .int (i.fdiv j)) := opD_int op_fdivN
theorem od_mod : OpD X (binaryOp .Mod) (rI (fun _ j => j ≠ 0) fun i j => .int (i.fmod j)) (wII (fun _ j => j ≠ 0) fun i j => .int (i.fmod j)) := opD_int op_modN
theorem od_pow : OpD X (binaryOp .Pow) (rI CPow fun i j => .int (i ^ j.toNat)) (wII CPow fun i j => .int (i ^ j.toNat)) := opD_int op_pow
theorem od_lt : OpD X (compareOp .Lt) (rI0 fun i j => .bl (decide (i < j))) (wI0 fun i j => .bl (decide (i < j))) := opD_bl0 op_lt
theorem od_le : OpD X (compareOp .LtE) (rI0 fun i j => .bl (decide (i ≤ j))) (wI0 fun i j => .bl (decide (i ≤ j))) := opD_bl0 op_le
theorem od_gt : OpD X (compareOp .Gt) (rI0 fun i j => .bl (decide (j < i))) (wI0 fun i j => .bl (decide (j < i))) := opD_bl0 op_gt
theorem od_ge : OpD X (compareOp .GtE) (rI0 fun i j => .bl (decide (j ≤ i))) (wI0 fun i j => .bl (decide (j ≤ i))) := opD_bl0 op_ge
/-- + -/
def addW : D → D → (D → Prop) → Prop
  | .int i, .int j, q => q (.int (i + j))
  | .str a, .str b, q => a.length + b.length ≤ sizeLine ∧ q (.str (a ++ b))
  | .tup a, .tup b, q => a.length + b.length ≤ sizeLine ∧ q (.tup (a ++ b))
  | .lst a, .lst b, q => a.length + b.length ≤ sizeLine ∧ q (.lst (a ++ b))
  | _, _, _ => False
def addL : D → D → (D → Prop) → Prop
  | .lst a, .lst b, q => a.length + b.length ≤ sizeLine ∧ q (.lst (a ++ b))
  | _, _, _ => False
theorem oo_add : OpO X (binaryOp .Add) rCat addL := ⟨op_cat, fun l ha hb hw k => by
  cases ha <;> cases hb <;> first
    | exact hw.elim
    | (rename_i e1 h1 _ _ _ e2 h2
       exact ⟨_, _, _, _, rfl, rfl, e1, e2, (by rw [h1.length, h2.length]; exact hw.1), fun p np => k _ _ _ hw.2 (.new np True.intro (.lst (h1.append h2)))⟩)⟩
def addI : D → D → (D → Prop) → Prop := wI0 fun i j => .int (i + j)
def addS : D → D → (D → Prop) → Prop
  | .str a, .str b, q => a.length + b.length ≤ sizeLine ∧ q (.str (a ++ b))
  | _, _, _ => False
def addT : D → D → (D → Prop) → Prop
  | .tup a, .tup b, q => a.length + b.length ≤ sizeLine ∧ q (.tup (a ++ b))
  | _, _, _ => False
theorem od_addS : OpD X (binaryOp .Add) (fun x y H Q => ∃ i j, x = .str i ∧ y = .str j ∧ i.length + j.length ≤ sizeLine ∧ Q (.str (i ++ j)) H) addS := ⟨op_add_str, fun l ha hb hw k => by
  cases ha <;> cases hb <;> first
    | exact hw.elim
    | exact ⟨_, _, rfl, rfl, hw.1, k _ _ _ hw.2 (.same (.str _))⟩⟩
theorem od_addT {K : PySem.W.Frag} (hK : X.K = K := by rfl) : OpD X (binaryOp .Add) (rCatA K) addT := by
  subst hK
  exact ⟨op_catA, fun {x y a b H G q Q} l ha hb hw k => by
  cases ha <;> cases hb <;> first
    | exact hw.elim
    | (rename_i e1 h1 _ _ _ e2 h2
       refine ⟨_, _, _, _, rfl, rfl, l.sqT e1, l.sqT e2, (by rw [h1.length, h2.length]; exact hw.1), fun z => ?_, fun _ z => ?_, fun _ _ p np => k _ _ _ hw.2 (.new np (.tup (h1.append h2)))⟩
       · subst z
         cases h1
         exact k _ _ _ hw.2 (.same (.tup e2 h2))
       · subst z
         cases h2
         exact k _ _ _ (by simpa using hw.2) (.same (.tup e1 h1)))⟩
def rAddS : R2 := fun x y H Q => ∃ i j, x = .str i ∧ y = .str j ∧ i.length + j.length ≤ sizeLine ∧ Q (.str (i ++ j)) H
def rAddD (K : PySem.W.Frag) : R2 := fun x y H Q => rI0 (fun i j => .int (i + j)) x y H Q ∨ rAddS x y H Q ∨ rCatA K x y H Q ∨ rCat x y H Q
theorem od_add {K : PySem.W.Frag} (hK : X.K = K := by rfl) : OpD X (binaryOp .Add) (rAddD K) addW := by
  subst hK
  exact ⟨op_add.or (op_add_str.or (op_catA.or op_cat)), fun {x y a b H G q Q} l ha hb hw k => by
  have zI := (opD_int0 (X := X) op_add).2 (q := q) (Q := Q) l ha hb
  have zS := (od_addS (X := X)).2 (q := q) (Q := Q) l ha hb
  have zT := (od_addT (X := X)).2 (q := q) (Q := Q) l ha hb
  have zL := (oo_add (X := X)).d.2 (q := q) (Q := Q) l ha hb
  cases a <;> cases b <;> first
    | exact .inl (zI hw k)
    | exact .inr (.inl (zS hw k))
    | exact .inr (.inr (.inl (zT hw k)))
    | exact .inr (.inr (.inr (zL hw k)))
    | exact hw.elim⟩
/-- * -/
def mulL : D → D → (D → Prop) → Prop
  | .lst a, .int k, q => -(2 ^ 63) ≤ k ∧ k < 2 ^ 63 ∧ a.length * k.toNat ≤ sizeLine ∧ q (.lst (List.replicate k.toNat a).flatten)
  | _, _, _ => False
theorem das_rep {K : PySem.W.Frag} {G : Hp} {xs : List V} {ds : List D} (h : Das K G xs ds) : ∀ n : Nat, Das K G (List.replicate n xs).flatten (List.replicate n ds).flatten
  | 0 => .nil
  | n + 1 => by
    rw [List.replicate_succ, List.replicate_succ, List.flatten_cons, List.flatten_cons]
    exact h.append (das_rep h n)
theorem oo_mul : OpO X (binaryOp .Mult) rRep mulL := ⟨op_rep, fun l ha hb hw k => by
  cases ha <;> cases hb <;> first
    | exact hw.elim
    | (rename_i e1 h1 _
       exact ⟨_, _, _, rfl, rfl, e1, hw.1, hw.2.1, (by rw [h1.length]; exact hw.2.2.1), fun p np => k _ _ _ hw.2.2.2 (.new np True.intro (.lst (das_rep h1 _)))⟩)⟩
def mulW : D → D → (D → Prop) → Prop
  | .int i, .int j, q => CMul i j ∧ q (.int (i * j))
  | .lst a, .int k, q => -(2 ^ 63) ≤ k ∧ k < 2 ^ 63 ∧ a.length * k.toNat ≤ sizeLine ∧ q (.lst (List.replicate k.toNat a).flatten)
  | _, _, _ => False
def rMulD : R2 := fun x y H Q => rI CMul (fun i j => .int (i * j)) x y H Q ∨ rRep x y H Q
theorem od_mul : OpD X (binaryOp .Mult) rMulD mulW := ⟨op_mul.or op_rep, fun {x y a b H G q Q} l ha hb hw k => by
  have zI := (opD_int (X := X) op_mul).2 (q := q) (Q := Q) l ha hb
  have zL := (oo_mul (X := X)).d.2 (q := q) (Q := Q) l ha hb
  cases a <;> cases b <;> first
    | exact .inl (zI hw k)
    | exact .inr (zL hw k)
    | exact hw.elim⟩
/-- ==, != -/
def eqW (a b : D) (q : D → Prop) : Prop := okD a ∧ okD b ∧ q (.bl (deq a b))
def neW (a b : D) (q : D → Prop) : Prop := okD a ∧ okD b ∧ q (.bl (!deq a b))
theorem od_eq {K : PySem.W.Frag} {k : Nat} (hr : Room k X.A) (hK : X.K = K := by rfl) : OpD X (compareOp .Eq) (rEqD K) eqW := by
  subst hK
  exact ⟨op_eqD hr.units, fun l ha hb hw k => ⟨_, _, ha.dp l hw.1.1, hb.dp l hw.2.1.1, hw.1.2, hw.2.1.2, k _ _ _ hw.2.2 (.same (.bl _))⟩⟩
theorem od_ne {K : PySem.W.Frag} {k : Nat} (hr : Room k X.A) (hK : X.K = K := by rfl) : OpD X (compareOp .NotEq) (rNeD K) neW := by
  subst hK
  exact ⟨op_neD hr.units, fun l ha hb hw k => ⟨_, _, ha.dp l hw.1.1, hb.dp l hw.2.1.1, hw.1.2, hw.2.1.2, k _ _ _ hw.2.2 (.same (.bl _))⟩⟩
end
end Dl
set_option maxRecDepth 100000
set_option maxHeartbeats 4000000
/-! the data layer: arguments, displays, subscripts, slices, in, built-ins -/
namespace Dl
open PySem PySem.Spec PyProof.Rows L2 L3
/-! ### several values that wait -/
section
variable {K : PySem.W.Frag} {B : Base} {ρ : Rho} {σ : L2.St} {H : Hp} {ws : List Addr}
theorem pushAll_keep : ∀ {vs : List V} {rs : List Sl} {π : List (V × Sl)} {p : V × Sl}, p ∈ π → p ∈ pushAll vs rs π
  | [], _, _, _, h => h
  | _ :: _, [], _, _, h => h
  | v :: vs, r :: rs, π, p, h => pushAll_keep (vs := vs) (rs := rs) (List.mem_cons_of_mem _ h)
theorem Rel.popAll : ∀ {vs : List V} {rs : List Sl} {π : List (V × Sl)}, Rel K B (pushAll vs rs π) ρ σ H ws → Rel K B π ρ σ H ws
  | [], _, _, R => R
  | _ :: _, [], _, R => R
  | v :: vs, r :: rs, π, R => (Rel.popAll (vs := vs) (rs := rs) R).pop
def wds : List Sl → Rho → (List D → Prop) → Prop
  | [], _, k => k []
  | r :: rs, ρ, k => wd r ρ fun d => wds rs ρ fun ds => k (d :: ds)
/-- data that stays: no object that is owned -/
def sd (r : Sl) (ρ : Rho) (k : D → Prop) : Prop := match rsv r ρ with
  | .imm d => k d
  | _ => False
def sds : List Sl → Rho → (List D → Prop) → Prop
  | [], _, k => k []
  | r :: rs, ρ, k => sd r ρ fun d => sds rs ρ fun ds => k (d :: ds)
theorem wds_of : ∀ {vs : List V} {rs : List Sl} {π : List (V × Sl)} {k : List D → Prop}, Rel K B (pushAll vs rs π) ρ σ H ws → vs.length = rs.length → wds rs ρ k → ∃ ds, Paired (Db K H (mns ws H)) vs ds ∧ k ds
  | [], [], _, _, _, _, h => ⟨[], .nil, h⟩
  | [], _ :: _, _, _, _, e, _ => by cases e
  | _ :: _, [], _, _, _, e, _ => by cases e
  | v :: vs, r :: rs, π, k, R, e, h => by
    obtain ⟨d, ed, h⟩ := wd_of h
    obtain ⟨ds, p, h⟩ := wds_of (vs := vs) (rs := rs) R (by simpa using e) h
    exact ⟨d :: ds, .cons (R.view (pushAll_keep (vs := vs) (rs := rs) (π := (v, r) :: π) List.mem_cons_self) ed) p, h⟩
theorem sd_of {π : List (V × Sl)} {v : V} {r : Sl} {k : D → Prop} (R : Rel K B π ρ σ H ws) (m : (v, r) ∈ π) (h : sd r ρ k) : ∃ d, Da K (mns ws H) v d ∧ k d := by
  have t := R.pn _ m
  unfold sd at h
  cases r with
  | imm d => exact ⟨d, t, h⟩
  | slot i =>
    change (match (ρ[i]?).getD .no with | .imm d => k d | _ => False) at h
    cases q : ρ[i]? with
    | none => rw [q] at h; exact h.elim
    | some x =>
      rw [q] at h
      cases x with
      | imm d =>
        obtain ⟨w, h1, h2⟩ := R.sl i _ q (fun z => nomatch z)
        have h3 : σ[i]? = some (some v) := t
        rw [h3] at h1
        cases h1
        exact ⟨d, h2, h⟩
      | _ => exact h.elim
  | _ => exact h.elim
theorem sds_of : ∀ {vs : List V} {rs : List Sl} {π : List (V × Sl)} {k : List D → Prop}, Rel K B (pushAll vs rs π) ρ σ H ws → vs.length = rs.length → sds rs ρ k → ∃ ds, Das K (mns ws H) vs ds ∧ k ds
  | [], [], _, _, _, _, h => ⟨[], .nil, h⟩
  | [], _ :: _, _, _, _, e, _ => by cases e
  | _ :: _, [], _, _, _, e, _ => by cases e
  | v :: vs, r :: rs, π, k, R, e, h => by
    obtain ⟨d, hd, h⟩ := sd_of R (pushAll_keep (vs := vs) (rs := rs) List.mem_cons_self) h
    obtain ⟨ds, p, h⟩ := sds_of (vs := vs) (rs := rs) R (by simpa using e) h
    exact ⟨d :: ds, .cons hd p, h⟩
end
section
variable {X : Cx} {E : XK} {a b e : Expr} {ta tb tc : TD} {tea teb te : TE} {pos p : Pos} {es : List Expr} {taa : TA} {u : TDA}
def dNil : TDA := fun ρ _ q => q [] ρ
def dCons (t : TD) (u : TDA) : TDA := fun ρ er q => t ρ er fun r ρ1 => u ρ1 er fun rs ρ2 => q (r :: rs) ρ2
theorem da_nil : DA X E [] tNil dNil := ⟨pa_nil, fun B er π ρ σ H ws q Q R _ h k => k [] ρ [] H ws h rfl R⟩
theorem da_cons (he : DE X E e te ta) (hr : DA X E es taa u) (hs : starEach (e :: es) X.env = (false, eval e X.env) :: starEach es X.env := by rfl) : DA X E (e :: es) (tCons te taa) (dCons ta u) :=
  ⟨pa_cons he.1 hr.1 hs, fun B er π ρ σ H ws q Q R hE h k => he.2 B er π ρ σ H ws _ _ R hE h fun r ρ1 v H1 ws1 h1 R1 =>
    hr.2 B er _ ρ1 σ H1 ws1 _ _ R1 hE h1 fun rs ρ2 vs H2 ws2 h2 e2 R2 => k (r :: rs) ρ2 (v :: vs) H2 ws2 h2 (congrArg Nat.succ e2) R2⟩
/-! ### displays -/
def dTup (t : TDA) : TD := fun ρ er q => t ρ er fun rs ρ1 => sds rs ρ1 fun ds => ds.length ≤ sizeLine ∧ q (.imm (.tup ds)) ρ1
def dLst (o : Bool) (t : TDA) : TD := fun ρ er q => t ρ er fun rs ρ1 => sds rs ρ1 fun ds => ds.length ≤ sizeLine ∧ q (mkS o (.lst ds)) ρ1
theorem de_tup {x1} (h : DA X E es taa u) : DE X E (.Tuple es x1 pos) (tTup taa) (dTup u) :=
  ⟨pe_tup h.1, fun B er π ρ σ H ws q Q R hE hw k => h.2 B er π ρ σ H ws _ _ R hE hw fun rs ρ1 vs H1 ws1 h1 e1 R1 => by
    obtain ⟨ds, p, hz, hq⟩ := sds_of R1 e1 h1
    exact ⟨by rw [p.length]; exact hz, fun a na => k _ ρ1 _ _ ws1 hq (R1.popAll.alloc na (.tup p))⟩⟩
theorem de_lst (o : Bool) (h : DA X E es taa u) : DE X E (.List es pos) (tLst taa) (dLst o u) :=
  ⟨pe_lst h.1, fun B er π ρ σ H ws q Q R hE hw k => h.2 B er π ρ σ H ws _ _ R hE hw fun rs ρ1 vs H1 ws1 h1 e1 R1 => by
    obtain ⟨ds, p, hz, hq⟩ := sds_of R1 e1 h1
    refine ⟨by rw [p.length]; exact hz, fun a na => ?_⟩
    obtain ⟨ws2, R2⟩ := R1.popAll.resO o (.new (o := .lst vs) na True.intro (.lst p))
    exact k _ ρ1 _ _ ws2 hq R2⟩
def dNewD (o : Bool) : TD := fun ρ _ q => q (mkS o (.dct [])) ρ
theorem de_newD (o : Bool) : DE X E (.Dict [] [] pos) tDNewK (dNewD o) :=
  ⟨pe_dnewK, fun B er π ρ σ H ws q Q R hE hw k => fun a na => by
    obtain ⟨ws2, R2⟩ := R.resO o (.new (o := .dK []) (d := .dct []) na True.intro (.dct rfl .nil))
    exact k _ ρ _ _ ws2 hw R2⟩
/-! ### subscripts -/
def optW {α : Type} (o : Option α) (k : α → Prop) : Prop := match o with
  | some d => k d
  | none => False
theorem optW_of {α : Type} {o : Option α} {k : α → Prop} (h : optW o k) : ∃ d, o = some d ∧ k d := by
  cases o with
  | some d => exact ⟨d, rfl, h⟩
  | none => exact h.elim
def subW : D → D → (D → Prop) → Prop
  | .lst xs, .int i, q => optW (atI xs i) q
  | .tup xs, .int i, q => optW (atI xs i) q
  | .str s, .int i, q => s.length ≤ sizeLine ∧ optW (atI s.cps.toList i) fun c => q (.str ⟨#[c]⟩)
  | .dct ps, .int i, q => optW (lkD ps (.inl i)) q
  | .dct ps, .str s, q => optW (lkD ps (.inr s)) q
  | _, _, _ => False
def rIxK : R2 := fun x y H Q => ∃ a v, x = .ref a ∧ DGet H a y (some v) ∧ Q v H
theorem ix_dict (room : X.A.units + 1 < cLine) : IxR X rIxK := by
  rintro value slice pins s σ H x y v u Q I rx ry ⟨d, w, rfl, g, goal⟩ plain
  obtain rfl : v = .ref d := rx
  have isD := dict_typeIs I g
  unfold subscriptTail
  refine wpAny_bind ?_
  rw [getitemInPython_of_ne isD.not_modules]
  have last : wpAny (model X.prog X.w) X.A (subscripted slice false (.ref d) u) (fun found sf => wpAny (model X.prog X.w) X.A (letTemporaryGo value (.ref d) found >>= fun _ => pure found) (EP X pins σ Q) X.xe sf) X.xe s := by
    rw [plain]
    exact wpAny_operating (d_getItem room I g ry fun found sf If rf => wpAny_bind (wpAny_letTemporaryGo (wpAny_pure ⟨w, H, If, rf, goal⟩)))
  refine wpAny_bind (wpAny_specialOf isD PySem.F.slot_dict_getitem.lookup ?_)
  first
    | exact wpAny_pure (wpAny_bind last)
    | exact wpAny_bind (wpAny_pure (wpAny_bind last))
    | exact wpAny_bind last
theorem atI_das {K : PySem.W.Frag} {G : Hp} {xs : List V} {ds : List D} {i : Int} {d : D} (h : Das K G xs ds) (e : atI ds i = some d) : ∃ v, atI xs i = some v ∧ Da K G v d := by
  unfold atI at e ⊢
  rw [h.length]
  cases q : ixN ds.length i with
  | none => rw [q] at e; cases e
  | some j =>
    rw [q] at e
    exact h.get e
def rSub (K : PySem.W.Frag) : R2 := fun x y H Q => rIx K x y H Q ∨ rIxK x y H Q
def dSub (ta tb : TD) : TD := fun ρ er q => ta ρ er fun r ρ1 => tb ρ1 er fun s ρ2 => wd r ρ2 fun a => wd s ρ2 fun b => subW a b fun d => q (.imm d) ρ2
theorem sub_ok {K : PySem.W.Frag} {x y : V} {a b : D} {H G : Hp} {q : D → Prop} {Q : VK} (l : Le G H) (ha : Db K H G x a) (hb : Db K H G y b) (hw : subW a b q) (k : ∀ d v, q d → Da K G v d → Q v H) : rSub K x y H Q := by
  cases ha with
  | lst e h =>
    cases hb <;> first | exact hw.elim | skip
    obtain ⟨d, e2, hq⟩ := optW_of hw
    obtain ⟨v, e3, hv⟩ := atI_das h e2
    exact .inl (.inl ⟨_, _, _, v, rfl, rfl, SqL.of e, e3, k d v hq hv⟩)
  | tup e h =>
    cases hb <;> first | exact hw.elim | skip
    obtain ⟨d, e2, hq⟩ := optW_of hw
    obtain ⟨v, e3, hv⟩ := atI_das h e2
    exact .inl (.inr (.inl ⟨_, _, _, v, rfl, rfl, l.sqT e, e3, k d v hq hv⟩))
  | str s =>
    cases hb <;> first | exact hw.elim | skip
    obtain ⟨hz, hw⟩ := hw
    obtain ⟨c, e2, hq⟩ := optW_of hw
    exact .inl (.inr (.inr ⟨_, _, c, rfl, rfl, hz, e2, k _ _ hq (.str _)⟩))
  | dct e kk h =>
    cases hb <;> first | exact hw.elim | skip
    · rename_i i
      obtain ⟨d, e2, hq⟩ := optW_of hw
      rcases Kd.look (.inl i) (show Kd K G _ _ from ⟨kk, h⟩) with ⟨z, _⟩ | ⟨d', v, z1, z2, hv⟩
      · rw [z] at e2; cases e2
      · rw [z1] at e2
        cases e2
        exact .inr ⟨_, v, rfl, .inl ⟨_, .inl i, e, rfl, z2.symm⟩, k _ v hq hv⟩
    · rename_i s
      obtain ⟨d, e2, hq⟩ := optW_of hw
      rcases Kd.look (.inr s) (show Kd K G _ _ from ⟨kk, h⟩) with ⟨z, _⟩ | ⟨d', v, z1, z2, hv⟩
      · rw [z] at e2; cases e2
      · rw [z1] at e2
        cases e2
        exact .inr ⟨_, v, rfl, .inl ⟨_, .inr s, e, rfl, z2.symm⟩, k _ v hq hv⟩
  | _ => exact hw.elim
theorem de_sub {K : PySem.W.Frag} (hu : X.A.units + 1 < cLine) (ha : DE X E a tea ta) (hb : DE X E b teb tb) (hs : PlainIx b) (hK : X.K = K := by rfl) : DE X E (.Subscript a b pos) (tOp (rSub K) tea teb) (dSub ta tb) := by
  subst hK
  exact 
  ⟨pe_ix (IxR.or ix_seq (ix_dict hu)) ha.1 hb.1 hs, fun B er π ρ σ H ws q Q R hE h k => ha.2 B er π ρ σ H ws _ _ R hE h fun r1 ρ1 v1 H1 ws1 h1 R1 => hb.2 B er _ ρ1 σ H1 ws1 _ _ R1 hE h1 fun r2 ρ2 v2 H2 ws2 h2 R2 => by
    obtain ⟨da, ea, h2⟩ := wd_of h2
    obtain ⟨db, eb, h2⟩ := wd_of h2
    exact sub_ok mns_le (R2.view (List.mem_cons_of_mem _ List.mem_cons_self) ea) (R2.view List.mem_cons_self eb) h2 fun d v hq hv => k _ ρ2 v H2 ws2 hq (R2.pop.pop.imm hv)⟩
/-! ### slices -/
def cutD (xs : List D) (lo hi : Option Int) : List D := (xs.drop (HT.sIx xs.length 0 lo)).take (HT.sIx xs.length xs.length hi - HT.sIx xs.length 0 lo)
theorem cut_das {K : PySem.W.Frag} {G : Hp} {xs : List V} {ds : List D} (lo hi : Option Int) (h : Das K G xs ds) : Das K G (cutV xs lo hi) (cutD ds lo hi) := by
  unfold cutV cutD
  rw [h.length]
  exact (h.drop _).take _
/-- the parts of a slice: ints or left out -/
abbrev TDO := Rho → (Exn → Prop) → (Option Int → Rho → Prop) → Prop
def DO (X : Cx) (E : XK) (e : Option Expr) (to : TO) (t : TDO) : Prop := PO X e to ∧ ∀ (B : Base) (er : Exn → Prop) (π : List (V × Sl)) (ρ : Rho) (σ : L2.St) (H : Hp) (ws : List Addr) (q : Option Int → Rho → Prop) (Q : Option Int → Hp → Prop),
  Rel X.K B π ρ σ H ws → EOk X.K B er E → t ρ er q → (∀ i ρ' H' ws', q i ρ' → Rel X.K B π ρ' σ H' ws' → Q i H') → to σ H Q
def dNoPart : TDO := fun ρ _ q => q none ρ
def dPart (t : TD) : TDO := fun ρ er q => t ρ er fun r ρ1 => wd r ρ1 fun d => match d with
  | .int i => q (some i) ρ1
  | _ => False
theorem do_none : DO X E none tNoPart dNoPart := ⟨po_none, fun B er π ρ σ H ws q Q R _ h k => k none ρ H ws h R⟩
theorem do_some (h : DE X E e te ta) : DO X E (some e) (tPart te) (dPart ta) := ⟨po_some h.1, fun B er π ρ σ H ws q Q R hE hw k => h.2 B er π ρ σ H ws _ _ R hE hw fun r ρ1 v H1 ws1 h1 R1 => by
  obtain ⟨d, e, h1⟩ := wd_of h1
  have V := R1.viewTop e
  cases V <;> first | exact h1.elim | exact ⟨_, rfl, k _ _ _ _ h1 R1.pop⟩⟩
/-- a list's slice is a new list -/
def cutL (a : D) (lo hi : Option Int) (q : D → Prop) : Prop := match a with
  | .lst xs => q (.lst (cutD xs lo hi))
  | _ => False
def cutW (a : D) (lo hi : Option Int) (q : D → Prop) : Prop := match a with
  | .lst xs => q (.lst (cutD xs lo hi))
  | .tup xs => q (.tup (cutD xs lo hi))
  | .str s => s.length ≤ sizeLine ∧ q (.str (cutS s lo hi))
  | _ => False
def rSlD (K : PySem.W.Frag) : V → Option Int → Option Int → Hp → VK → Prop := fun x lo hi H Q => rSlL K x lo hi H Q ∨ rSlA K x lo hi H Q ∨ rSlS x lo hi H Q
def dSl (t : TD) (l h : TDO) : TD := fun ρ er q => t ρ er fun r ρ1 => l ρ1 er fun lo ρ2 => h ρ2 er fun hi ρ3 => wd r ρ3 fun a => cutW a lo hi fun d => q (.imm d) ρ3
def dSlO (o : Bool) (t : TD) (l h : TDO) : TD := fun ρ er q => t ρ er fun r ρ1 => l ρ1 er fun lo ρ2 => h ρ2 er fun hi ρ3 => wd r ρ3 fun a => cutL a lo hi fun d => q (mkS o d) ρ3
variable {lo hi : Option Expr} {tol toh : TO} {tl th : TDO} {p2 : Pos}
theorem cutV_all {xs : List V} {lo hi : Option Int} (h : HT.sIx xs.length 0 lo = 0 ∧ HT.sIx xs.length xs.length hi = xs.length) : cutV xs lo hi = xs := by
  unfold cutV
  rw [h.1, h.2]
  simp
theorem cutD_all {xs : List D} {lo hi : Option Int} (h : HT.sIx xs.length 0 lo = 0 ∧ HT.sIx xs.length xs.length hi = xs.length) : cutD xs lo hi = xs := by
  unfold cutD
  rw [h.1, h.2]
  simp
theorem de_slice {K : PySem.W.Frag} (he : DE X E e te ta) (hl : DO X E lo tol tl) (hh : DO X E hi toh th) (hK : X.K = K := by rfl) : DE X E (.Subscript e (.Slice lo hi none p2) pos) (tSl (rSlD K) te tol toh) (dSl ta tl th) := by
  subst hK
  exact 
  ⟨pe_slice (sl_list.or (sl_tupA.or sl_str)) he.1 hl.1 hh.1, fun B er π ρ σ H ws q Q R hE h k => he.2 B er π ρ σ H ws _ _ R hE h fun r1 ρ1 v1 H1 ws1 h1 R1 => hl.2 B er _ ρ1 σ H1 ws1 _ _ R1 hE h1 fun i ρ2 H2 ws2 h2 R2 =>
    hh.2 B er _ ρ2 σ H2 ws2 _ _ R2 hE h2 fun j ρ3 H3 ws3 h3 R3 => by
      obtain ⟨da, ea, h3⟩ := wd_of h3
      have V := R3.viewTop ea
      have l : Le (mns ws3 H3) H3 := mns_le
      cases V with
      | lst e1 hd => exact .inl ⟨_, _, rfl, SqL.of e1, fun p np => k _ _ _ _ ws3 h3 (R3.pop.alloc np (.lst (cut_das i j hd)))⟩
      | tup e1 hd =>
        refine .inr (.inl ⟨_, _, rfl, l.sqT e1, fun w => ?_, fun _ p np => k _ _ _ _ ws3 h3 (R3.pop.alloc np (.tup (cut_das i j hd)))⟩)
        refine k _ _ _ _ ws3 h3 (R3.pop.imm (.tup e1 ?_))
        rw [cutD_all (by rw [← hd.length]; exact w)]
        exact hd
      | str s => exact .inr (.inr ⟨_, rfl, h3.1, k _ _ _ _ ws3 h3.2 (R3.pop.imm (.str _))⟩)
      | _ => exact h3.elim⟩
theorem de_sliceO {K : PySem.W.Frag} (o : Bool) (he : DE X E e te ta) (hl : DO X E lo tol tl) (hh : DO X E hi toh th) (hK : X.K = K := by rfl) : DE X E (.Subscript e (.Slice lo hi none p2) pos) (tSl (rSlL K) te tol toh) (dSlO o ta tl th) := by
  subst hK
  exact 
  ⟨pe_slice sl_list he.1 hl.1 hh.1, fun B er π ρ σ H ws q Q R hE h k => he.2 B er π ρ σ H ws _ _ R hE h fun r1 ρ1 v1 H1 ws1 h1 R1 => hl.2 B er _ ρ1 σ H1 ws1 _ _ R1 hE h1 fun i ρ2 H2 ws2 h2 R2 =>
    hh.2 B er _ ρ2 σ H2 ws2 _ _ R2 hE h2 fun j ρ3 H3 ws3 h3 R3 => by
      obtain ⟨da, ea, h3⟩ := wd_of h3
      have V := R3.viewTop ea
      cases V with
      | lst e1 hd =>
        refine ⟨_, _, rfl, SqL.of e1, fun p np => ?_⟩
        obtain ⟨ws4, R4⟩ := R3.pop.resO o (.new (o := .lst (cutV _ i j)) np True.intro (.lst (cut_das i j hd)))
        exact k _ _ _ _ ws4 h3 R4
      | _ => exact h3.elim⟩
/-! ### in -/
def flatD : D → Bool
  | .non => true
  | .bl _ => true
  | .int _ => true
  | .str _ => true
  | _ => false
def inW (neg : Bool) (x y : D) (q : D → Prop) : Prop := match y with
  | .lst ds => okD x ∧ okD (.lst ds) ∧ q (.bl (if neg then !ds.any (fun z => deq z x) else ds.any fun z => deq z x))
  | .tup ds => flatD x = true ∧ ds.all flatD = true ∧ q (.bl (if neg then !ds.any (fun z => deq z x) else ds.any fun z => deq z x))
  | .dct ps => optW x.key fun k => q (.bl (if neg then !(lkD ps k).isSome else (lkD ps k).isSome))
  | .str t => match x with
    | .str s => q (.bl (if neg then !(!(Builtin.Str.occurrences t s 0 t.length 1).isEmpty) else !(Builtin.Str.occurrences t s 0 t.length 1).isEmpty))
    | _ => False
  | _ => False
def rInK : R2 := fun y x H Q => ∃ a o, x = .ref a ∧ DGet H a y o ∧ Q (.bl o.isSome) H
def rNotInK : R2 := fun y x H Q => ∃ a o, x = .ref a ∧ DGet H a y o ∧ Q (.bl (!o.isSome)) H
theorem op_inK (room : X.A.units + 1 < cLine) : OpR X (compareOp .In) rInK := by
  rintro pins s σ H y x u v Q I ry rx ⟨d, o, rfl, g, goal⟩
  obtain rfl : v = .ref d := rx
  exact d_in room I g ry fun sf If => ⟨.bl o.isSome, H, If, rfl, goal⟩
theorem op_notInK (room : X.A.units + 1 < cLine) : OpR X (compareOp .NotIn) rNotInK := by
  rintro pins s σ H y x u v Q I ry rx ⟨d, o, rfl, g, goal⟩
  obtain rfl : v = .ref d := rx
  exact d_notIn room I g ry fun sf If => ⟨.bl (!o.isSome), H, If, rfl, goal⟩
theorem eqV_deq {K : PySem.W.Frag} {G : Hp} {v w : V} {d e : D} (h1 : Da K G v d) (h2 : Da K G w e) (f1 : flatD d = true) (f2 : flatD e = true) : flatV v = true ∧ eqV v w = deq d e := by
  cases h1 <;> cases h2 <;> first
    | (cases f1; done)
    | (cases f2; done)
    | exact ⟨rfl, by simp [eqV, deq, D.py, PyData.eqv]⟩
theorem flat_das {K : PySem.W.Frag} {G : Hp} {w : V} {e : D} (h2 : Da K G w e) (f2 : flatD e = true) : ∀ {vs : List V} {ds : List D}, Das K G vs ds → ds.all flatD = true → vs.all flatV = true ∧ inV w vs = ds.any fun z => deq z e
  | _, _, .nil, _ => ⟨rfl, rfl⟩
  | _, _, .cons (d := d) (v := v) h t, p => by
    rw [List.all_cons, Bool.and_eq_true] at p
    obtain ⟨i1, i2⟩ := flat_das h2 f2 t p.2
    obtain ⟨q1, q2⟩ := eqV_deq h h2 p.1 f2
    refine ⟨by rw [List.all_cons, q1, i1]; rfl, ?_⟩
    show (eqV v w || inV w _) = _
    rw [i2, q2, List.any_cons]
theorem any_py (ds : List D) (d : D) : ((D.pys ds).any fun z => PyData.eqv z d.py) = ds.any fun z => deq z d := by
  rw [pys_map, List.any_map]
  rfl
theorem flat_da {K : PySem.W.Frag} {H G : Hp} {v : V} {d : D} (l : Le G H) (h : Db K H G v d) (f : flatD d = true) : Da K G v d := by
  cases h with
  | non => exact .non
  | bl b => exact .bl b
  | int i => exact .int i
  | str s => exact .str s
  | _ => cases f
def rInAll (K : PySem.W.Frag) : R2 := fun x y H Q => rInD K x y H Q ∨ rIn K false x y H Q ∨ rInK x y H Q ∨ (fun x y H Q => ∃ i j, x = .str i ∧ y = .str j ∧ Q (.bl (!(Builtin.Str.occurrences j i 0 j.length 1).isEmpty)) H) x y H Q
def rStrIn (neg : Bool) : R2 := fun x y H Q => ∃ i j, x = .str i ∧ y = .str j ∧ Q (.bl (if neg then !(!(Builtin.Str.occurrences j i 0 j.length 1).isEmpty) else !(Builtin.Str.occurrences j i 0 j.length 1).isEmpty)) H
def rInA (K : PySem.W.Frag) (neg : Bool) : R2 := fun x y H Q => (match neg with | true => rNotInD K x y H Q | false => rInD K x y H Q) ∨ rIn K neg x y H Q ∨ (match neg with | true => rNotInK x y H Q | false => rInK x y H Q) ∨ rStrIn neg x y H Q
theorem in_ok {neg : Bool} {K : PySem.W.Frag} {x y : V} {a b : D} {H G : Hp} {q : D → Prop} {Q : VK} (l : Le G H) (ha : Db K H G x a) (hb : Db K H G y b) (hw : inW neg a b q) (k : ∀ d v, q d → Da K G v d → Q v H) : rInA K neg x y H Q := by
  cases hb with
  | lst e h =>
    obtain ⟨o1, o2, hq⟩ := hw
    refine .inl ?_
    have d2 : Dp K H _ (.list (D.pys _)) := (Db.lst e h : Db K H G _ _).dp l o2.1
    have kk := k _ _ hq (.bl _)
    cases neg with
    | true => exact ⟨_, _, ha.dp l o1.1, d2, o1.2, o2.2, by rw [any_py]; exact kk⟩
    | false => exact ⟨_, _, ha.dp l o1.1, d2, o1.2, o2.2, by rw [any_py]; exact kk⟩
  | tup e h =>
    obtain ⟨f1, f2, hq⟩ := hw
    have a1 := flat_da l ha f1
    obtain ⟨z1, z2⟩ := flat_das a1 f1 h f2
    have kk := k _ _ hq (.bl _)
    have z3 : flatV x = true := (eqV_deq a1 a1 f1 f1).1
    exact .inr (.inl ⟨_, _, rfl, .inr (l.sqT e), z3, z1, by rw [z2]; exact kk⟩)
  | @dct _ kvs ps e kk h =>
    obtain ⟨key, e1, hq⟩ := optW_of hw
    have ex := key_db ha e1
    refine .inr (.inr (.inl ?_))
    have look : (lkD ps key).isSome = (valV kvs key).isSome := by
      rcases Kd.look key (show Kd K G kvs ps from ⟨kk, h⟩) with ⟨z1, z2⟩ | ⟨d, v, z1, z2, _⟩ <;> rw [z1, z2] <;> rfl
    have kk' := k _ _ hq (.bl _)
    rw [look] at kk'
    cases neg with
    | true => exact ⟨_, _, rfl, .inl ⟨_, key, e, ex, rfl⟩, kk'⟩
    | false => exact ⟨_, _, rfl, .inl ⟨_, key, e, ex, rfl⟩, kk'⟩
  | str t =>
    cases ha <;> first | exact hw.elim | exact .inr (.inr (.inr ⟨_, _, rfl, rfl, k _ _ hw (.bl _)⟩))
  | _ => exact hw.elim
theorem op_inA {k : Nat} (hr : Room (k + 1) X.A) : OpR X (compareOp .In) (rInA X.K false) := by
  intro pins s σ H x y v u Q I rx ry h
  have un := hr.un
  rcases h with h | h | h | h
  · exact op_inD (by omega) pins s σ H x y v u Q I rx ry h
  · exact op_in_seq pins s σ H x y v u Q I rx ry h
  · exact op_inK (by omega) pins s σ H x y v u Q I rx ry h
  · exact op_in_str pins s σ H x y v u Q I rx ry h
theorem op_notInA {k : Nat} (hr : Room (k + 1) X.A) : OpR X (compareOp .NotIn) (rInA X.K true) := by
  intro pins s σ H x y v u Q I rx ry h
  have un := hr.un
  rcases h with h | h | h | h
  · exact op_notInD (by omega) pins s σ H x y v u Q I rx ry h
  · exact op_notIn_seq pins s σ H x y v u Q I rx ry h
  · exact op_notInK (by omega) pins s σ H x y v u Q I rx ry h
  · exact op_notIn_str pins s σ H x y v u Q I rx ry h
theorem od_in {K : PySem.W.Frag} {k : Nat} (hr : Room (k + 1) X.A) (hK : X.K = K := by rfl) : OpD X (compareOp .In) (rInA K false) (inW false) := by
  subst hK
  exact ⟨op_inA hr, fun l ha hb hw k => in_ok l ha hb hw fun d v hq hd => k d v _ hq (.same hd)⟩
theorem od_notIn {K : PySem.W.Frag} {k : Nat} (hr : Room (k + 1) X.A) (hK : X.K = K := by rfl) : OpD X (compareOp .NotIn) (rInA K true) (inW true) := by
  subst hK
  exact ⟨op_notInA hr, fun l ha hb hw k => in_ok l ha hb hw fun d v hq hd => k d v _ hq (.same hd)⟩
/-! ### built-ins -/
def CallD (X : Cx) (f : Value) (r : List V → Hp → VK → Prop) (w : List D → (D → Prop) → Prop) : Prop := CallR X f r ∧ ∀ {vs : List V} {ds : List D} {H G : Hp} {q : D → Prop} {Q : VK}, Le G H → Paired (Db X.K H G) vs ds → w ds q → (∀ d v H1, q d → Res X.K H G v d H1 → Q v H1) → r vs H Q
def CallO (X : Cx) (f : Value) (r : List V → Hp → VK → Prop) (w : List D → (D → Prop) → Prop) : Prop := CallR X f r ∧ ∀ {vs : List V} {ds : List D} {H G : Hp} {q : D → Prop} {Q : VK}, Le G H → Paired (Db X.K H G) vs ds → w ds q → (∀ d v H1, q d → ResO X.K H G v d H1 → Q v H1) → r vs H Q
def dCallB (w : List D → (D → Prop) → Prop) (t : TDA) : TD := fun ρ er q => t ρ er fun rs ρ1 => wds rs ρ1 fun ds => w ds fun d => q (.imm d) ρ1
def dCallO (o : Bool) (w : List D → (D → Prop) → Prop) (t : TDA) : TD := fun ρ er q => t ρ er fun rs ρ1 => wds rs ρ1 fun ds => w ds fun d => q (mkS o d) ρ1
variable {r : List V → Hp → VK → Prop} {w : List D → (D → Prop) → Prop} {id T : String} {x : Str}
theorem callD_run {f : Value} (hc : CallD X f r w) (ha : DA X E es taa u) : ∀ (B : Base) (er : Exn → Prop) (π : List (V × Sl)) (ρ : Rho) (σ : L2.St) (H : Hp) (ws : List Addr) (q : Sl → Rho → Prop) (Q : VK),
    Rel X.K B π ρ σ H ws → EOk X.K B er E → dCallB w u ρ er q → (∀ r ρ' v H' ws', q r ρ' → Rel X.K B ((v, r) :: π) ρ' σ H' ws' → Q v H') → tCB r taa σ H Q :=
  fun B er π ρ σ H ws q Q R hE h k => ha.2 B er π ρ σ H ws _ _ R hE h fun rs ρ1 vs H1 ws1 h1 e1 R1 => by
    obtain ⟨ds, p, h1⟩ := wds_of R1 e1 h1
    exact hc.2 mns_le p h1 fun d v H2 hq hres => k _ ρ1 v H2 ws1 hq (R1.popAll.res hres)
theorem callO_run {f : Value} (o : Bool) (hc : CallO X f r w) (ha : DA X E es taa u) : ∀ (B : Base) (er : Exn → Prop) (π : List (V × Sl)) (ρ : Rho) (σ : L2.St) (H : Hp) (ws : List Addr) (q : Sl → Rho → Prop) (Q : VK),
    Rel X.K B π ρ σ H ws → EOk X.K B er E → dCallO o w u ρ er q → (∀ r ρ' v H' ws', q r ρ' → Rel X.K B ((v, r) :: π) ρ' σ H' ws' → Q v H') → tCB r taa σ H Q :=
  fun B er π ρ σ H ws q Q R hE h k => ha.2 B er π ρ σ H ws _ _ R hE h fun rs ρ1 vs H1 ws1 h1 e1 R1 => by
    obtain ⟨ds, p, h1⟩ := wds_of R1 e1 h1
    refine hc.2 mns_le p h1 fun d v H2 hq hres => ?_
    obtain ⟨ws2, R2⟩ := R1.popAll.resO o hres
    exact k _ ρ1 v H2 ws2 hq R2
theorem de_callB (hc : CallD X (.builtin id) r w) (hg : Gl X x) (hm : X.mg x = none) (hv : bootBuiltins x = some (.builtin id)) (ha : DA X E (e :: es) taa u) (hn : x ≠ "__name__" := by decide) (hdb : (x == ("__debug__" : Str)) = false := by decide)
    (he : starEach (e :: es) X.env = (false, eval e X.env) :: starEach es X.env := by rfl) (hpl : (backTo pos (starEach es X.env)).any (·.1) = false := by rfl) : DE X E (.Call (.Name x p) (e :: es) [] pos) (tCB r taa) (dCallB w u) :=
  ⟨pe_callB hc.1 hg hm hv ha.1 hn hdb he hpl, callD_run hc ha⟩
theorem de_callBO (o : Bool) (hc : CallO X (.builtin id) r w) (hg : Gl X x) (hm : X.mg x = none) (hv : bootBuiltins x = some (.builtin id)) (ha : DA X E (e :: es) taa u) (hn : x ≠ "__name__" := by decide) (hdb : (x == ("__debug__" : Str)) = false := by decide)
    (he : starEach (e :: es) X.env = (false, eval e X.env) :: starEach es X.env := by rfl) (hpl : (backTo pos (starEach es X.env)).any (·.1) = false := by rfl) : DE X E (.Call (.Name x p) (e :: es) [] pos) (tCB r taa) (dCallO o w u) :=
  ⟨pe_callB hc.1 hg hm hv ha.1 hn hdb he hpl, callO_run o hc ha⟩
theorem de_callT (hc : CallD X (.type T) r w) (hg : Gl X x) (hm : X.mg x = none) (hv : bootBuiltins x = some (.type T)) (ha : DA X E (e :: es) taa u) (hn : x ≠ "__name__" := by decide) (hdb : (x == ("__debug__" : Str)) = false := by decide)
    (he : starEach (e :: es) X.env = (false, eval e X.env) :: starEach es X.env := by rfl) (hpl : (backTo pos (starEach es X.env)).any (·.1) = false := by rfl) : DE X E (.Call (.Name x p) (e :: es) [] pos) (tCB r taa) (dCallB w u) :=
  ⟨pe_callTy hc.1 hg hm hv ha.1 hn hdb he hpl, callD_run hc ha⟩
theorem de_callTO (o : Bool) (hc : CallO X (.type T) r w) (hg : Gl X x) (hm : X.mg x = none) (hv : bootBuiltins x = some (.type T)) (ha : DA X E (e :: es) taa u) (hn : x ≠ "__name__" := by decide) (hdb : (x == ("__debug__" : Str)) = false := by decide)
    (he : starEach (e :: es) X.env = (false, eval e X.env) :: starEach es X.env := by rfl) (hpl : (backTo pos (starEach es X.env)).any (·.1) = false := by rfl) : DE X E (.Call (.Name x p) (e :: es) [] pos) (tCB r taa) (dCallO o w u) :=
  ⟨pe_callTy hc.1 hg hm hv ha.1 hn hdb he hpl, callO_run o hc ha⟩
end
end Dl
set_option maxRecDepth 100000
set_option maxHeartbeats 4000000
/-! the data layer: statements -/
namespace Dl
open PySem PySem.Spec PyProof.Rows L2 L3
structure DEnds where
  nx : Rho → Prop
  rt : Sl → Rho → Prop
  bk : Rho → Prop := fun _ => False
  ct : Rho → Prop := fun _ => False
abbrev TDS := DEnds → Rho → (Exn → Prop) → Prop
structure Link (K : PySem.W.Frag) (B : Base) (π : List (V × Sl)) (Dd : DEnds) (D : Ends) : Prop where
  nx : ∀ ρ σ H ws, Dd.nx ρ → Rel K B π ρ σ H ws → D.nx σ H
  rt : ∀ r ρ σ v H ws, Dd.rt r ρ → r.val → Rel K B ((v, r) :: π) ρ σ H ws → D.rt v H
  bk : ∀ ρ σ H ws, Dd.bk ρ → Rel K B π ρ σ H ws → D.bk σ H
  ct : ∀ ρ σ H ws, Dd.ct ρ → Rel K B π ρ σ H ws → D.ct σ H
def TrS (K : PySem.W.Frag) (E : XK) (ts : TS) (t : TDS) : Prop := ∀ (B : Base) (er : Exn → Prop) (π : List (V × Sl)) (ρ : Rho) (σ : L2.St) (H : Hp) (ws : List Addr) (Dd : DEnds) (D : Ends),
  Rel K B π ρ σ H ws → NoH π → EOk K B er E → t Dd ρ er → Link K B π Dd D → ts D σ H
def DS (X : Cx) (E : XK) (st : Stmt) (ts : TS) (t : TDS) : Prop := PS X st ts ∧ TrS X.K E ts t
def DSs (X : Cx) (E : XK) (st : List Stmt) (ts : TS) (t : TDS) : Prop := PSs X st ts ∧ TrS X.K E ts t
section
variable {K : PySem.W.Frag} {B : Base} {π : List (V × Sl)} {ρ : Rho} {σ : L2.St} {H : Hp} {ws : List Addr} {v : V} {x r : Sl}
/-- a handle of data is data -/
theorem Rel.told (R : Rel K B ((v, r) :: π) ρ σ H ws) {d : D} (e : rsv r ρ = .imm d) : Rel K B ((v, .imm d) :: π) ρ σ H ws := by
  cases r with
  | imm d' => cases e; exact R
  | slot i =>
    change (ρ[i]?).getD .no = .imm d at e
    cases q : ρ[i]? with
    | none => rw [q] at e; cases e
    | some y =>
      rw [q] at e
      obtain rfl : y = .imm d := e
      obtain ⟨w, h1, h2⟩ := R.sl i _ q (fun z => nomatch z)
      have h3 : σ[i]? = some (some v) := R.top
      rw [h3] at h1
      cases h1
      exact R.pop.imm h2
  | _ => cases e
end
/-- what is put into a slot, or handed back: data, or a new object -/
def stv (r : Sl) (ρ : Rho) (k : Sl → Prop) : Prop := match r with
  | .own d => k (.own d)
  | r => match rsv r ρ with
    | .imm d => k (.imm d)
    | _ => False
section
variable {K : PySem.W.Frag} {B : Base} {π : List (V × Sl)} {ρ : Rho} {σ : L2.St} {H : Hp} {ws : List Addr} {v : V} {x r : Sl}
theorem stv_of {k : Sl → Prop} (R : Rel K B ((v, r) :: π) ρ σ H ws) (h : stv r ρ k) : ∃ x, x.val ∧ k x ∧ Rel K B ((v, x) :: π) ρ σ H ws := by
  cases r with
  | own d => exact ⟨.own d, True.intro, h, R⟩
  | imm d => exact ⟨.imm d, True.intro, h, R⟩
  | slot i =>
    change (match rsv (.slot i) ρ with | .imm d => k (.imm d) | _ => False) at h
    split at h
    · rename_i d e
      exact ⟨.imm d, True.intro, h, R.told e⟩
    · exact h.elim
  | _ => exact h.elim
end
section
variable {X : Cx} {E : XK} {a b e : Expr} {ta tb tc : TD} {tea teb te : TE} {pos p : Pos} {es : List Expr} {taa : TA} {u : TDA} {st : Stmt} {rest sts : List Stmt} {ts tr : TS} {t t2 : TDS}
def dNext : TDS := fun Dd ρ _ => Dd.nx ρ
def dSeq (t u : TDS) : TDS := fun Dd ρ er => t { Dd with nx := fun ρ' => u Dd ρ' er } ρ er
theorem dss_nil : DSs X E [] tNext dNext := ⟨pss_nil, fun B er π ρ σ H ws Dd D R _ _ h L => L.nx ρ σ H ws h R⟩
theorem dss_one (h : DS X E st ts t) : DSs X E [st] ts t := ⟨pss_one h.1, h.2⟩
theorem dss_cons (h1 : DS X E st ts t) (h2 : DSs X E rest tr t2) : DSs X E (st :: rest) (tSeq ts tr) (dSeq t t2) :=
  ⟨pss_cons h1.1 h2.1, fun B er π ρ σ H ws Dd D R nh hE h L => h1.2 B er π ρ σ H ws _ _ R nh hE h ⟨fun ρ' σ' H' ws' q R' => h2.2 B er π ρ' σ' H' ws' Dd D R' nh hE q L, L.rt, L.bk, L.ct⟩⟩
theorem ds_pass : DS X E (.Pass pos) tNext dNext := ⟨ps_pass, fun B er π ρ σ H ws Dd D R _ _ h L => L.nx ρ σ H ws h R⟩
def dBreak : TDS := fun Dd ρ _ => Dd.bk ρ
def dCont : TDS := fun Dd ρ _ => Dd.ct ρ
theorem ds_break : DS X E (.Break pos) tBreak dBreak := ⟨ps_break, fun B er π ρ σ H ws Dd D R _ _ h L => L.bk ρ σ H ws h R⟩
theorem ds_continue : DS X E (.Continue pos) tCont dCont := ⟨ps_continue, fun B er π ρ σ H ws Dd D R _ _ h L => L.ct ρ σ H ws h R⟩
theorem ds_doc {x j pos pos'} : DS X E (.Expr (.Constant (.str x) j pos) pos') tNext dNext := ⟨ps_doc, fun B er π ρ σ H ws Dd D R _ _ h L => L.nx ρ σ H ws h R⟩
def dNever : TDS := fun _ _ _ => False
theorem ds_never : DS X E st tNever dNever := ⟨ps_never, fun B er π ρ σ H ws Dd D R _ _ h L => h.elim⟩
def dDrop (t : TD) : TDS := fun Dd ρ er => t ρ er fun _ ρ1 => Dd.nx ρ1
theorem ds_expr (he : DE X E e te ta) (hs : swapsWith e none pos.line X.env = pure false := by rfl) : DS X E (.Expr e pos) (tDrop te) (dDrop ta) :=
  ⟨ps_expr he.1 hs, fun B er π ρ σ H ws Dd D R _ hE h L => he.2 B er π ρ σ H ws _ _ R hE h fun r ρ1 v H1 ws1 h1 R1 => L.nx ρ1 σ H1 ws1 h1 R1.pop⟩
def dRet (t : TD) : TDS := fun Dd ρ er => t ρ er fun r ρ1 => stv r ρ1 fun x => Dd.rt x ρ1
theorem ds_ret (he : DE X E e te ta) : DS X E (.Return (some e) pos) (tRet te) (dRet ta) :=
  ⟨ps_ret he.1, fun B er π ρ σ H ws Dd D R _ hE h L => he.2 B er π ρ σ H ws _ _ R hE h fun r ρ1 v H1 ws1 h1 R1 => by
    obtain ⟨x, hx, h2, R2⟩ := stv_of R1 h1
    exact L.rt x ρ1 σ v H1 ws1 h2 hx R2⟩
def dRetN : TDS := fun Dd ρ _ => Dd.rt (.imm .non) ρ
theorem ds_retN : DS X E (.Return none pos) tRetN dRetN := ⟨ps_retN, fun B er π ρ σ H ws Dd D R _ hE h L => L.rt _ ρ σ .non H ws h True.intro (R.imm .non)⟩
def dIfS (c : TDT) (t u : TDS) : TDS := fun Dd ρ er => c ρ er fun b ρ1 => cnd b (t Dd ρ1 er) (u Dd ρ1 er)
theorem ds_if {c : Expr} {as bs : List Stmt} {tt : TT} {tct : TDT} {tsa tsb : TS} {tda tdb : TDS} (hc : DT X E c tt tct) (ha : DSs X E as tsa tda) (hb : DSs X E bs tsb tdb) : DS X E (.If c as bs pos) (tIfS tt tsa tsb) (dIfS tct tda tdb) :=
  ⟨ps_if hc.1 ha.1 hb.1, fun B er π ρ σ H ws Dd D R nh hE h L => hc.2 B er π ρ σ H ws _ _ R hE h fun c ρ1 H1 ws1 h1 R1 => by
    cases c with
    | true => exact iteT (ha.2 B er π ρ1 σ H1 ws1 Dd D R1 nh hE h1 L)
    | false => exact iteF (hb.2 B er π ρ1 σ H1 ws1 Dd D R1 nh hE h1 L)⟩
/-! ### targets -/
abbrev TDG := Sl → Rho → (Exn → Prop) → (Rho → Prop) → Prop
def DG (X : Cx) (E : XK) (tg : Expr) (g : TG) (sl : List Nat) (t : TDG) : Prop := PG X tg g ∧ ∀ (B : Base) (er : Exn → Prop) (π : List (V × Sl)) (ρ : Rho) (σ : L2.St) (H : Hp) (ws : List Addr) (v : V) (x : Sl) (q : Rho → Prop) (Q : L2.St → Hp → Prop),
  Rel X.K B ((v, x) :: π) ρ σ H ws → x.val → NoH π → EOk X.K B er E → t x ρ er q → (∀ ρ' σ' H' ws', q ρ' → Rel X.K B π ρ' σ' H' ws' → σ'.length = σ.length → (∀ i, i ∉ sl → σ'[i]? = σ[i]?) → Q σ' H') → g v σ H Q
def dgName (i : Nat) : TDG := fun x ρ _ q => notPar ρ i ∧ q (ρ.set i x)
theorem dg_name {i : Nat} {x : Str} (hN : X.N.Nodup) (hi : X.N[i]? = some x) (hx : Loc X.env.scope x) (hf : X.fn x = true ∨ X.env.scope.names.lookup x = some .local := by first | exact .inl rfl | exact .inr rfl | assumption) : DG X E (.Name x pos) (gName i) [i] (dgName i) :=
  ⟨pg_name hN hi hx hf, fun B er π ρ σ H ws v x q Q R hv nh _ h k => k _ _ H ws h.2 (R.store hv nh h.1) (by simp) fun j hj => List.getElem?_set_ne (fun z => hj (by simp [z]))⟩
abbrev TDGs := List D → Rho → (Exn → Prop) → (Rho → Prop) → Prop
def DGs (X : Cx) (E : XK) (tgs : List Expr) (g : TGs) (sl : List Nat) (t : TDGs) : Prop := PGs X tgs g ∧ ∀ (B : Base) (er : Exn → Prop) (π : List (V × Sl)) (ρ : Rho) (σ : L2.St) (H : Hp) (ws : List Addr) (vs : List V) (ds : List D) (q : Rho → Prop) (Q : L2.St → Hp → Prop),
  Rel X.K B π ρ σ H ws → Das X.K (mns ws H) vs ds → NoH π → EOk X.K B er E → t ds ρ er q → (∀ ρ' σ' H' ws', q ρ' → Rel X.K B π ρ' σ' H' ws' → σ'.length = σ.length → (∀ i, i ∉ sl → σ'[i]? = σ[i]?) → Q σ' H') → g vs σ H Q
def dgNil : TDGs := fun ds ρ _ q => match ds with
  | [] => q ρ
  | _ => False
/-- a name among several targets -/
def dgsName (i : Nat) (u : TDGs) : TDGs := fun ds ρ er q => match ds with
  | d :: ds => notPar ρ i ∧ u ds (ρ.set i (.imm d)) er q
  | [] => False
theorem dgs_nil : DGs X E [] gNil [] dgNil := ⟨pgs_nil, fun B er π ρ σ H ws vs ds q Q R hd _ _ h k => by
  cases hd with
  | nil => exact ⟨rfl, k ρ σ H ws h R rfl fun _ _ => rfl⟩
  | cons _ _ => exact h.elim⟩
theorem dgs_name {i : Nat} {x : Str} {tgs : List Expr} {g : TGs} {sl : List Nat} {u : TDGs} (hN : X.N.Nodup) (hi : X.N[i]? = some x) (hx : Loc X.env.scope x) (h2 : DGs X E tgs g sl u) (hf : X.fn x = true ∨ X.env.scope.names.lookup x = some .local := by first | exact .inl rfl | exact .inr rfl | assumption)
    (hs : (assignEach (.Name x pos :: tgs) X.env).map (·.2) = assign (.Name x pos) X.env :: (assignEach tgs X.env).map (·.2) := by rfl) : DGs X E (.Name x pos :: tgs) (gCons (gName i) g) (i :: sl) (dgsName i u) :=
  ⟨pgs_cons (pg_name hN hi hx hf) h2.1 hs, fun B er π ρ σ H ws vs ds q Q R hd nh hE h k => by
    cases hd with
    | nil => exact h.elim
    | cons a t => exact ⟨_, _, rfl, h2.2 B er π _ _ H ws _ _ q Q ((R.imm a).store True.intro nh h.1) t nh hE h.2 fun ρ' σ' H' ws' hq R' hl hs => k ρ' σ' H' ws' hq R' (by rw [hl]; simp) fun j hj => by
      rw [hs j fun z => hj (List.mem_cons_of_mem _ z)]
      exact List.getElem?_set_ne (fun z => hj (by simp [z]))⟩⟩
def dgTup (u : TDGs) : TDG := fun x ρ er q => match x with
  | .imm (.tup ds) => u ds ρ er q
  | _ => False
theorem dg_tup {K : PySem.W.Frag} {tgs : List Expr} {k n : Nat} {g : TGs} {sl : List Nat} {u : TDGs} (hc : X.calm = true) (h : DGs X E tgs g sl u) (hl : ∀ ds ρ er q, u ds ρ er q → ds.length = n)
    (hn : (assignEach tgs X.env).length = n := by rfl) (hst : (assignEach tgs X.env).findIdx? (·.1) = none := by rfl) (hK : X.K = K := by rfl) : DG X E (.Tuple tgs k pos) (gTup K n g) sl (dgTup u) := by
  subst hK
  exact 
  ⟨pg_tup hc h.1 hn hst, fun B er π ρ σ H ws v x q Q R hv nh hE hw kk => by
    cases x with
    | imm d =>
      cases d with
      | tup ds =>
        have t := R.top
        cases (show Da X.K (mns ws H) v (.tup ds) from t) with
        | tup e hd => exact ⟨_, _, rfl, mns_le.sqT e, by rw [hd.length]; exact hl _ _ _ _ hw, h.2 B er π ρ σ H ws _ _ q Q R.pop hd nh hE hw kk⟩
      | _ => exact hw.elim
    | _ => exact hw.elim⟩
theorem dgNil_len : ∀ ds ρ er q, dgNil ds ρ er q → ds.length = 0 := fun ds ρ er q h => by
  cases ds with
  | nil => rfl
  | cons _ _ => exact h.elim
theorem dgsName_len {i n : Nat} {u : TDGs} (h : ∀ ds ρ er q, u ds ρ er q → ds.length = n) : ∀ ds ρ er q, dgsName i u ds ρ er q → ds.length = n + 1 := fun ds ρ er q hw => by
  cases ds with
  | nil => exact hw.elim
  | cons d ds => exact congrArg Nat.succ (h _ _ _ _ hw.2)
/-! ### assignments -/
def dAsg (t : TD) (g : TDG) : TDS := fun Dd ρ er => t ρ er fun r ρ1 => stv r ρ1 fun x => g x ρ1 er Dd.nx
theorem asg_run {g : TG} {sl : List Nat} {tg : TDG} {trg : Expr} (he : DE X E e te ta) (hg : DG X E trg g sl tg) : TrS X.K E (tAsg te g) (dAsg ta tg) :=
  fun B er π ρ σ H ws Dd D R nh hE h L => he.2 B er π ρ σ H ws _ _ R hE h fun r ρ1 v H1 ws1 h1 R1 => by
    obtain ⟨x, hx, h2, R2⟩ := stv_of R1 h1
    exact hg.2 B er π ρ1 σ H1 ws1 v x _ _ R2 hx nh hE h2 fun ρ' σ' H' ws' q R' _ _ => L.nx ρ' σ' H' ws' q R'
theorem ds_asg {tg : Expr} {g : TG} {sl : List Nat} {tdg : TDG} (he : DE X E e te ta) (hg : DG X E tg g sl tdg) (hs : swapsWithSole [tg] e pos.line X.env = pure false := by rfl) (hw : swappedStores [tg] e X.env = pure none := by rfl)
    (h1 : (assignEach [tg] X.env).map (·.2) = [assign tg X.env] := by rfl) : DS X E (.Assign [tg] e pos) (tAsg te g) (dAsg ta tdg) := ⟨ps_asg he.1 hg.1 hs hw h1, asg_run he hg⟩
theorem ds_set {i : Nat} {x : Str} {pos' : Pos} (hN : X.N.Nodup) (hi : X.N[i]? = some x) (hx : Loc X.env.scope x) (he : DE X E e te ta) (hs : swapsWith e (some (.Name x pos')) pos.line X.env = pure false := by rfl)
    (hf : X.fn x = true ∨ X.env.scope.names.lookup x = some .local := by first | exact .inl rfl | exact .inr rfl | assumption) : DS X E (.Assign [.Name x pos'] e pos) (tAsg te (gName i)) (dAsg ta (dgName i)) :=
  ⟨ps_set hN hi hx he.1 hs hf, asg_run he (dg_name (pos := pos') hN hi hx hf)⟩
/-- a, b = e1, e2 -/
def dPar (i j : Nat) (u : TDA) : TDS := fun Dd ρ er => u ρ er fun rs ρ1 => match rs with
  | [r, s] => stv r ρ1 fun x => stv s ρ1 fun y => notPar ρ1 i ∧ notPar ρ1 j ∧ Dd.nx ((ρ1.set i x).set j y)
  | _ => False
end
section
variable {K : PySem.W.Frag} {B : Base} {π : List (V × Sl)} {ρ : Rho} {σ : L2.St} {H : Hp} {ws : List Addr} {v w : V} {x y r s : Sl}
theorem Rel.swap (R : Rel K B ((v, x) :: (w, y) :: π) ρ σ H ws) : Rel K B ((w, y) :: (v, x) :: π) ρ σ H ws := by
  have mem : ∀ {p : V × Sl}, p ∈ (w, y) :: (v, x) :: π → p ∈ (v, x) :: (w, y) :: π := fun h => by
    simp only [List.mem_cons] at h ⊢
    rcases h with h | h | h
    · exact .inr (.inl h)
    · exact .inl h
    · exact .inr (.inr h)
  have ap := List.pairwise_cons.mp R.apP
  have ap2 := List.pairwise_cons.mp ap.2
  refine { R with pn := fun p h => R.pn p (mem h), npp := fun p h => R.npp p (mem h), apX := fun p h => R.apX p (mem h), apP := List.pairwise_cons.mpr ⟨fun q h h1 h2 z => ?_, List.pairwise_cons.mpr ⟨fun q h => ap.1 q (List.mem_cons_of_mem _ h), ap2.2⟩⟩ }
  rcases List.mem_cons.mp h with rfl | h
  · exact ap.1 _ List.mem_cons_self h2 h1 z.symm
  · exact ap2.1 q h h1 h2 z
theorem Rel.rot {t : V} {q : Sl} (R : Rel K B ((v, x) :: (w, y) :: (t, q) :: π) ρ σ H ws) : Rel K B ((t, q) :: (v, x) :: (w, y) :: π) ρ σ H ws := by
  have mem : ∀ {p : V × Sl}, p ∈ (t, q) :: (v, x) :: (w, y) :: π → p ∈ (v, x) :: (w, y) :: (t, q) :: π := fun h => by
    simp only [List.mem_cons] at h ⊢
    rcases h with h | h | h | h
    · exact .inr (.inr (.inl h))
    · exact .inl h
    · exact .inr (.inl h)
    · exact .inr (.inr (.inr h))
  have ap := List.pairwise_cons.mp R.apP
  have ap2 := List.pairwise_cons.mp ap.2
  have ap3 := List.pairwise_cons.mp ap2.2
  refine { R with pn := fun p h => R.pn p (mem h), npp := fun p h => R.npp p (mem h), apX := fun p h => R.apX p (mem h), apP := List.pairwise_cons.mpr ⟨fun z h h1 h2 e => ?_, List.pairwise_cons.mpr ⟨fun z h => ?_, List.pairwise_cons.mpr ⟨fun z h => ap2.1 z (List.mem_cons_of_mem _ h), ap3.2⟩⟩⟩ }
  · rcases List.mem_cons.mp h with rfl | h
    · exact ap.1 _ (List.mem_cons_of_mem _ List.mem_cons_self) h2 h1 e.symm
    rcases List.mem_cons.mp h with rfl | h
    · exact ap2.1 _ List.mem_cons_self h2 h1 e.symm
    · exact ap3.1 z h h1 h2 e
  · rcases List.mem_cons.mp h with rfl | h
    · exact ap.1 _ List.mem_cons_self
    · exact ap.1 z (List.mem_cons_of_mem _ (List.mem_cons_of_mem _ h))
theorem notPar_set {i j : Nat} {x : Sl} (hv : x.val) (h : notPar ρ j) : notPar (ρ.set i x) j := by
  unfold notPar at h ⊢
  by_cases q : j = i
  · subst q
    cases e : ρ[j]? with
    | none => rw [e] at h; exact h.elim
    | some z =>
      rw [List.getElem?_set_self (List.getElem?_eq_some_iff.mp e).1]
      cases x <;> first | rfl | exact hv.elim
  · rw [List.getElem?_set_ne (Ne.symm q)]
    exact h
theorem noH_cons (nh : NoH π) (hx : x.val) : NoH ((v, x) :: π) := fun p hp j z => by
  rcases List.mem_cons.mp hp with rfl | hp
  · have z' : x = .slot j := z
    rw [z'] at hx
    exact hx
  · exact nh p hp j z
/-- two slots are stored -/
theorem Rel.store2 {i j : Nat} (R : Rel K B ((w, y) :: (v, x) :: π) ρ σ H ws) (hx : x.val) (hy : y.val) (nh : NoH π) (hi : notPar ρ i) (hj : notPar ρ j) : Rel K B π ((ρ.set i x).set j y) ((σ.set i (some v)).set j (some w)) H ws :=
  Rel.store (R.swap.store hx (noH_cons nh hy) hi) hy nh (notPar_set hx hj)
theorem stv2_of {k : Sl → Sl → Prop} (R : Rel K B ((w, s) :: (v, r) :: π) ρ σ H ws) (h : stv r ρ fun x => stv s ρ fun y => k x y) : ∃ x y, x.val ∧ y.val ∧ k x y ∧ Rel K B ((w, y) :: (v, x) :: π) ρ σ H ws := by
  obtain ⟨x, hx, h, R1⟩ := stv_of R.swap h
  obtain ⟨y, hy, h, R2⟩ := stv_of R1.swap h
  exact ⟨x, y, hx, hy, h, R2⟩
end
section
variable {X : Cx} {E : XK} {a b c e : Expr} {ta tb tc : TD} {tea teb te : TE} {pos p : Pos} {es : List Expr} {taa : TA} {u : TDA}
theorem ds_par {i j : Nat} {x y : Str} {px py pt : Pos} {kt k2 pt2} (hc : X.calm = true) (hN : X.N.Nodup) (hi : X.N[i]? = some x) (hj : X.N[j]? = some y) (hij : i ≠ j)
    (hx : X.env.scope.names.lookup x = some .local) (hy : X.env.scope.names.lookup y = some .local) (ha : DA X E [a, b] taa u)
    (hw : swappedStores [.Tuple [.Name x px, .Name y py] kt pt] (.Tuple [a, b] k2 pt2) X.env = pure (some [x, y]))
    (hs : swapsWithSole [.Tuple [.Name x px, .Name y py] kt pt] (.Tuple [a, b] k2 pt2) pos.line X.env = pure false := by rfl) :
    DS X E (.Assign [.Tuple [.Name x px, .Name y py] kt pt] (.Tuple [a, b] k2 pt2) pos) (tPar i j taa) (dPar i j u) :=
  ⟨ps_par hc hN hi hj hij hx hy ha.1 hw hs, fun B er π ρ σ H ws Dd D R nh hE h L => ha.2 B er π ρ σ H ws _ _ R hE h fun rs ρ1 vs H1 ws1 h1 e1 R1 => by
    match vs, rs, e1, h1, R1 with
    | [v, w], [r, s], _, h1, R1 =>
      obtain ⟨x, y, hx, hy, ⟨n1, n2, h2⟩, R2⟩ := stv2_of R1 h1
      exact ⟨v, w, rfl, L.nx _ _ H1 ws1 h2 (R2.store2 hx hy nh n1 n2)⟩
    | [], [], _, h1, _ => exact h1.elim
    | [_], [_], _, h1, _ => exact h1.elim
    | _ :: _ :: _ :: _, _ :: _ :: _ :: _, _, h1, _ => exact h1.elim⟩
/-- a, b, c = e1, e2, e3 -/
def dPar3 (i j l : Nat) (u : TDA) : TDS := fun Dd ρ er => u ρ er fun rs ρ1 => match rs with
  | [r, s, q] => stv r ρ1 fun x => stv s ρ1 fun y => stv q ρ1 fun z => notPar ρ1 i ∧ notPar ρ1 j ∧ notPar ρ1 l ∧ Dd.nx (((ρ1.set i x).set j y).set l z)
  | _ => False
theorem ds_par3 {i j l : Nat} {x y z : Str} {px py pz pt : Pos} {kt k2 pt2} (hc : X.calm = true) (hN : X.N.Nodup) (hi : X.N[i]? = some x) (hj : X.N[j]? = some y) (hl : X.N[l]? = some z) (hij : i ≠ j) (hil : i ≠ l) (hjl : j ≠ l)
    (hx : X.env.scope.names.lookup x = some .local) (hy : X.env.scope.names.lookup y = some .local) (hz : X.env.scope.names.lookup z = some .local) (ha : DA X E [a, b, c] taa u)
    (hw : swappedStores [.Tuple [.Name x px, .Name y py, .Name z pz] kt pt] (.Tuple [a, b, c] k2 pt2) X.env = pure (some [x, y, z]))
    (hs : swapsWithSole [.Tuple [.Name x px, .Name y py, .Name z pz] kt pt] (.Tuple [a, b, c] k2 pt2) pos.line X.env = pure false := by rfl) :
    DS X E (.Assign [.Tuple [.Name x px, .Name y py, .Name z pz] kt pt] (.Tuple [a, b, c] k2 pt2) pos) (tPar3 i j l taa) (dPar3 i j l u) :=
  ⟨ps_par3 hc hN hi hj hl hij hil hjl hx hy hz ha.1 hw hs, fun B er π ρ σ H ws Dd D R nh hE h L => ha.2 B er π ρ σ H ws _ _ R hE h fun rs ρ1 vs H1 ws1 h1 e1 R1 => by
    match vs, rs, e1, h1, R1 with
    | [v, w, t], [r, s, q], _, h1, R1 =>
      -- R1 : (t, q) :: (w, s) :: (v, r) :: π
      have R1' : Rel X.K B ((t, q) :: (w, s) :: (v, r) :: π) ρ1 σ H1 ws1 := R1
      have R2 := R1'.swap
      obtain ⟨x, y, hx, hy, h2, R4⟩ : ∃ x y, x.val ∧ y.val ∧ (stv q ρ1 fun z => notPar ρ1 i ∧ notPar ρ1 j ∧ notPar ρ1 l ∧ Dd.nx (((ρ1.set i x).set j y).set l z)) ∧ Rel X.K B ((t, q) :: (w, y) :: (v, x) :: π) ρ1 σ H1 ws1 := by
        -- bring (v, r) to the top
        have A : Rel X.K B ((w, s) :: (t, q) :: (v, r) :: π) ρ1 σ H1 ws1 := R2
        have A2 : Rel X.K B ((v, r) :: (w, s) :: (t, q) :: π) ρ1 σ H1 ws1 := A.rot
        obtain ⟨x, hx, h, A3⟩ := stv_of A2 h1
        have A4 : Rel X.K B ((w, s) :: (v, x) :: (t, q) :: π) ρ1 σ H1 ws1 := A3.swap
        obtain ⟨y, hy, h, A5⟩ := stv_of A4 h
        have A6 : Rel X.K B ((t, q) :: (w, y) :: (v, x) :: π) ρ1 σ H1 ws1 := A5.rot
        exact ⟨x, y, hx, hy, h, A6⟩
      obtain ⟨z, hz, ⟨n1, n2, n3, h3⟩, R5⟩ := stv_of R4 h2
      have R6 : Rel X.K B ((v, x) :: (t, z) :: (w, y) :: π) ρ1 σ H1 ws1 := R5.rot
      have R7 := R6.store hx (noH_cons (noH_cons nh hy) hz) n1
      have R8 := R7.swap.store hy (noH_cons nh hz) (notPar_set hx n2)
      have R9 := R8.store hz nh (notPar_set hy (notPar_set hx n3))
      exact ⟨v, w, t, rfl, L.nx _ _ H1 ws1 h3 R9⟩
    | [], [], _, h1, _ => exact h1.elim
    | [_], [_], _, h1, _ => exact h1.elim
    | [_, _], [_, _], _, h1, _ => exact h1.elim
    | _ :: _ :: _ :: _ :: _, _ :: _ :: _ :: _ :: _, _, h1, _ => exact h1.elim⟩
end
end Dl
set_option maxRecDepth 100000
set_option maxHeartbeats 4000000
/-! the data layer: methods of owned lists and dicts, stores into them -/
namespace Dl
open PySem PySem.Spec PyProof.Rows L2 L3
def ownL (ρ : Rho) (i : Nat) (k : List D → Prop) : Prop := match ρ[i]? with
  | some (.own (.lst ds)) => k ds
  | some (.par (.lst ds)) => k ds
  | _ => False
def ownD (ρ : Rho) (i : Nat) (k : List (Key × D) → Prop) : Prop := match ρ[i]? with
  | some (.own (.dct ds)) => k ds
  | some (.par (.dct ds)) => k ds
  | _ => False
def upS (ρ : Rho) (i : Nat) (d : D) : Rho := match ρ[i]? with
  | some x => ρ.set i (x.with_ d)
  | none => ρ
section
variable {K : PySem.W.Frag} {B : Base} {π : List (V × Sl)} {ρ : Rho} {σ : L2.St} {H : Hp} {ws : List Addr} {v : V} {i : Nat}
theorem ownL_of {k : List D → Prop} (R : Rel K B π ρ σ H ws) (h : ownL ρ i k) : ∃ a xs ds, σ[i]? = some (some (.ref a)) ∧ a ∈ ws ∧ H a = some (.lst xs) ∧ Das K (mns ws H) xs ds ∧ k ds ∧
    ∀ xs' ds', Das K (mns ws H) xs' ds' → Rel K B π (upS ρ i (.lst ds')) σ (upd H a (.lst xs')) ws := by
  unfold ownL at h
  unfold upS
  split at h
  · rename_i ds e
    obtain ⟨a, o, h1, h2, h3, _, t⟩ := R.at_ e (.inl rfl)
    cases t with
    | lst hd => exact ⟨a, _, ds, h1, h2, h3, hd, h, fun xs' ds' hd' => by rw [e]; exact R.mut e (.inl rfl) h1 True.intro (.lst hd')⟩
  · rename_i ds e
    obtain ⟨a, o, h1, h2, h3, _, t⟩ := R.at_ e (.inr rfl)
    cases t with
    | lst hd => exact ⟨a, _, ds, h1, h2, h3, hd, h, fun xs' ds' hd' => by rw [e]; exact R.mut e (.inr rfl) h1 True.intro (.lst hd')⟩
  · exact h.elim
theorem ownD_of {k : List (Key × D) → Prop} (R : Rel K B π ρ σ H ws) (h : ownD ρ i k) : ∃ a kvs ps, σ[i]? = some (some (.ref a)) ∧ a ∈ ws ∧ H a = some (.dK kvs) ∧ Kd K (mns ws H) kvs ps ∧ k ps ∧
    ∀ kvs' ps', Kd K (mns ws H) kvs' ps' → Rel K B π (upS ρ i (.dct ps')) σ (upd H a (.dK kvs')) ws := by
  unfold ownD at h
  unfold upS
  split at h
  · rename_i ds e
    obtain ⟨a, o, h1, h2, h3, _, t⟩ := R.at_ e (.inl rfl)
    cases t with
    | dct kk hd => exact ⟨a, _, ds, h1, h2, h3, ⟨kk, hd⟩, h, fun xs' ds' hd' => by rw [e]; exact R.mut e (.inl rfl) h1 True.intro (.dct hd'.1 hd'.2)⟩
  · rename_i ds e
    obtain ⟨a, o, h1, h2, h3, _, t⟩ := R.at_ e (.inr rfl)
    cases t with
    | dct kk hd => exact ⟨a, _, ds, h1, h2, h3, ⟨kk, hd⟩, h, fun xs' ds' hd' => by rw [e]; exact R.mut e (.inr rfl) h1 True.intro (.dct hd'.1 hd'.2)⟩
  · exact h.elim
theorem Kd.length {G : Hp} {kvs : List (Key × V)} {ps : List (Key × D)} (h : Kd K G kvs ps) : kvs.length = ps.length := by
  have := congrArg List.length h.1
  simpa using this
theorem Kd.put {G : Hp} (k : Key) {v : V} {d : D} (hv : Da K G v d) {kvs : List (Key × V)} {ps : List (Key × D)} (h : Kd K G kvs ps) : Kd K G (putK kvs k v) (puD ps k d) := by
  have any : (kvs.any fun p => decide (p.1 = k)) = ps.any fun p => decide (p.1 = k) := by
    have e : ∀ {α : Type} (l : List (Key × α)), (l.any fun p => decide (p.1 = k)) = (l.map (·.1)).any fun j => decide (j = k) := fun l => by rw [List.any_map]; rfl
    rw [e, e, h.1]
  have mp : ∀ {kvs : List (Key × V)} {ps : List (Key × D)}, Kd K G kvs ps → Kd K G (kvs.map fun p => if p.1 = k then (p.1, v) else p) (ps.map fun p => if p.1 = k then (p.1, d) else p) := by
    intro kvs
    induction kvs with
    | nil => intro ps h; cases ps with
      | nil => exact .nil
      | cons _ _ => have := h.1; cases this
    | cons q kvs ih => intro ps h; cases ps with
      | nil => have := h.1; cases this
      | cons p ps =>
        obtain ⟨e, a, t⟩ := h.uncons
        rw [List.map_cons, List.map_cons]
        obtain ⟨q1, q2⟩ := q
        obtain ⟨p1, p2⟩ := p
        obtain rfl : q1 = p1 := e
        by_cases z : q1 = k
        · rw [if_pos z, if_pos z]; exact .cons hv (ih t)
        · rw [if_neg z, if_neg z]; exact .cons a (ih t)
  unfold putK puD
  rw [any]
  by_cases z : (ps.any fun p => decide (p.1 = k)) = true
  · rw [if_pos z, if_pos z]; exact mp h
  · rw [if_neg z, if_neg z]
    refine ⟨?_, ?_⟩
    · rw [List.map_append, List.map_append, h.1]; rfl
    · rw [List.map_append, List.map_append]; exact h.2.append (.cons hv .nil)
theorem Kd.drop {G : Hp} (k : Key) : ∀ {kvs : List (Key × V)} {ps : List (Key × D)}, Kd K G kvs ps → Kd K G (dropK kvs k) (drD ps k)
  | [], [], _ => .nil
  | [], _ :: _, h => by have := h.1; cases this
  | _ :: _, [], h => by have := h.1; cases this
  | (q1, q2) :: kvs, (p1, p2) :: ps, h => by
    obtain ⟨e, a, t⟩ := h.uncons
    obtain rfl : q1 = p1 := e
    have ih := Kd.drop k t
    unfold dropK drD at ih ⊢
    by_cases z : q1 = k
    · rw [List.filter_cons_of_neg (by simp [z]), List.filter_cons_of_neg (by simp [z])]; exact ih
    · rw [List.filter_cons_of_pos (by simp [z]), List.filter_cons_of_pos (by simp [z])]; exact .cons a ih
end
section
variable {X : Cx} {E : XK} {a b e f : Expr} {ta tb tc : TD} {tea teb tec te : TE} {pos p : Pos} {es : List Expr} {taa : TA} {u : TDA} {apos cpos : Pos}
/-- a method of a list that it may change -/
def ListM (X : Cx) (id : String) (r : V → List V → Hp → VK → Prop) (w : List D → List D → (D → List D → Prop) → Prop) : Prop := MtR X id r ∧ ∀ {a : Addr} {xs : List V} {ds : List D} {vs : List V} {es : List D} {H G : Hp} {q : D → List D → Prop} {Q : VK},
  Le G H → H a = some (.lst xs) → Das X.K G xs ds → Das X.K G vs es → w ds es q → (∀ d v xs' ds', q d ds' → Das X.K G xs' ds' → Da X.K G v d → Q v (upd H a (.lst xs'))) → r (.ref a) vs H Q
def isOwnL (ρ : Rho) (i : Nat) : Prop := ownL ρ i fun _ => True
def dLM (i : Nat) (w : List D → List D → (D → List D → Prop) → Prop) (u : TDA) : TD := fun ρ er q => isOwnL ρ i ∧ u ρ er fun rs ρ1 => sds rs ρ1 fun es => ownL ρ1 i fun ds => w ds es fun d ds' => q (.imm d) (upS ρ1 i (.lst ds'))
def dLM0 (i : Nat) (w : List D → List D → (D → List D → Prop) → Prop) : TD := fun ρ er q => ownL ρ i fun ds => w ds [] fun d ds' => q (.imm d) (upS ρ i (.lst ds'))
variable {r : V → List V → Hp → VK → Prop} {w : List D → List D → (D → List D → Prop) → Prop} {name : Str} {id : String} {i : Nat} {x : Str}
theorem de_lm0 {K : PySem.W.Frag} (slot : Slot "list" name id) (hty : typeOf (.builtin id) = pure (.type "method_descriptor")) (hm : ListM X id r w) (ho : PE X (.Name x p) (tVar i))
    (hbase : attributeBase (.Name x p) name X.env (eval (.Name x p) X.env) = eval (.Name x p) X.env := by rfl) (hline : (apos.endLine == cpos.line) = true := by rfl) (hK : X.K = K := by rfl) : DE X E (.Call (.Attribute (.Name x p) name apos) [] [] cpos) (tBM0 K "list" r (tVar i)) (dLM0 i w) := by
  subst hK
  exact 
  ⟨pe_bm0 PySem.F.plainAttrs_list slot hty hm.1 ho hbase hline, fun B er π ρ σ H ws q Q R hE h k => by
    obtain ⟨a, xs, ds, h1, h2, h3, hd, hw, up⟩ := ownL_of R h
    refine ⟨_, h1, .inl ⟨rfl, _, SqL.of h3⟩, hm.2 mns_le h3 hd .nil hw fun d v xs' ds' hq hd' hv => ?_⟩
    have U := up xs' ds' hd'
    exact k _ _ v _ ws hq (U.imm (by rw [mns_in h2]; exact hv))⟩
theorem de_lm {K : PySem.W.Frag} (slot : Slot "list" name id) (hty : typeOf (.builtin id) = pure (.type "method_descriptor")) (hm : ListM X id r w) (ho : PE X (.Name x p) (tVar i)) (ha : DA X E (e :: es) taa u)
    (hbase : attributeBase (.Name x p) name X.env (eval (.Name x p) X.env) = eval (.Name x p) X.env := by rfl)
    (hfew : ((backTo cpos (starEach (e :: es) X.env)).all (fun x => !x.1) && (backToKw cpos (keywordEach [] X.env)).all (fun x => x.1.isSome)
      && decide ((e :: es).length + ([] : List Keyword).length + (if ([] : List Keyword).isEmpty then 0 else 1) < 30)) = true := by rfl)
    (hline : (apos.endLine == cpos.line) = true := by rfl) (hs : starEach (e :: es) X.env = (false, eval e X.env) :: starEach es X.env := by rfl) (hplain : (backTo cpos (starEach es X.env)).any (·.1) = false := by rfl) (hK : X.K = K := by rfl) :
    DE X E (.Call (.Attribute (.Name x p) name apos) (e :: es) [] cpos) (tBM K "list" r (tVar i) taa) (dLM i w u) := by
  subst hK
  exact 
  ⟨pe_bm PySem.F.plainAttrs_list slot hty hm.1 ho ha.1 hbase hfew hline hs hplain, fun B er π ρ σ H ws q Q R hE h k => by
    obtain ⟨h0, h⟩ := h
    obtain ⟨a, xs, ds, h1, _, h3, _, _, _⟩ := ownL_of R h0
    refine ⟨_, h1, .inl ⟨rfl, _, SqL.of h3⟩, ha.2 B er π ρ σ H ws _ _ R hE h fun rs ρ1 vs H1 ws1 hw e1 R1 => ?_⟩
    obtain ⟨es, hes, hw⟩ := sds_of R1 e1 hw
    obtain ⟨a', xs', ds', g1, g2, g3, hd, hw, up⟩ := ownL_of R1.popAll hw
    rw [h1] at g1
    cases g1
    refine hm.2 mns_le g3 hd hes hw fun d v xs2 ds2 hq hd2 hv => ?_
    have U := up xs2 ds2 hd2
    exact k _ _ v _ ws1 hq (U.imm (by rw [mns_in g2]; exact hv))⟩
def appendW : List D → List D → (D → List D → Prop) → Prop := fun ds es q => match es with
  | [d] => ds.length < sizeLine ∧ q .non (ds ++ [d])
  | _ => False
theorem lm_append : ListM X "list.append" rAppend appendW := ⟨mt_append, fun l ha hd he hw k => by
  cases he with
  | nil => exact hw.elim
  | cons h1 t => cases t with
    | nil => exact ⟨_, _, _, rfl, rfl, ha, by rw [hd.length]; exact hw.1, k _ _ _ _ hw.2 (hd.snoc h1) .non⟩
    | cons _ _ => exact hw.elim⟩
def popW : List D → List D → (D → List D → Prop) → Prop := fun ds es q => match es with
  | [] => optW ds[ds.length - 1]? fun d => q d ds.dropLast
  | _ => False
theorem lm_pop : ListM X "list.pop" rPop popW := ⟨mt_pop, fun l ha hd he hw k => by
  cases he with
  | nil =>
    obtain ⟨d, e, hq⟩ := optW_of hw
    obtain ⟨v, e2, hv⟩ := hd.get e
    exact ⟨_, _, v, rfl, rfl, ha, by rw [hd.length]; exact e2, k _ _ _ _ hq hd.dropLast hv⟩
  | cons _ _ => exact hw.elim⟩
/-- pop(i), i not below 0 -/
def popAtW : List D → List D → (D → List D → Prop) → Prop := fun ds es q => match es with
  | [.int i] => 0 ≤ i ∧ i < 2 ^ 62 ∧ optW ds[i.toNat]? fun d => q d (ds.eraseIdx i.toNat)
  | _ => False
theorem lm_popAt : ListM X "list.pop" rPopAt popAtW := ⟨mt_popAt, fun {a xs ds vs es H G q Q} l ha hd he hw k => by
  match vs, es, he, hw with
  | _, [.int i], .cons (.int _) .nil, hw =>
    obtain ⟨h0, h1, hw⟩ := hw
    obtain ⟨d, e, hq⟩ := optW_of hw
    obtain ⟨v, e2, hv⟩ := hd.get e
    have hl := (List.getElem?_eq_some_iff.mp e2).1
    refine ⟨_, _, i, i.toNat, v, rfl, rfl, ha, by omega, by omega, ?_, e2, k _ _ _ _ hq (hd.eraseIdx _) hv⟩
    have : ixN xs.length i = some i.toNat := by
      unfold ixN
      rw [if_pos h0, if_pos (by omega)]
    exact (ixN_seq this).1⟩
def clearW : List D → List D → (D → List D → Prop) → Prop := fun ds es q => match es with
  | [] => q .non []
  | _ => False
theorem lm_clear : ListM X "list.clear" rClear clearW := ⟨mt_clear, fun l ha hd he hw k => by
  cases he with
  | nil => exact ⟨_, _, rfl, rfl, ha, k _ _ _ _ hw .nil .non⟩
  | cons _ _ => exact hw.elim⟩
def extendW : List D → List D → (D → List D → Prop) → Prop := fun ds es q => match es with
  | [.lst xs] => ds.length + xs.length ≤ sizeLine ∧ q .non (ds ++ xs)
  | _ => False
theorem lm_extend : ListM X "list.extend" rExtend extendW := ⟨mt_extend, fun {a xs ds vs es H G q Q} l ha hd he hw k => by
  match vs, es, he, hw with
  | _, [.lst ys], .cons (.lst e h) .nil, hw =>
    exact ⟨_, _, _, _, rfl, rfl, ha, l.plain e (fun _ z => nomatch z) (fun _ _ z => nomatch z), by rw [hd.length, h.length]; exact hw.1, k _ _ _ _ hw.2 (hd.append h) .non⟩⟩
theorem first_of : ∀ {ns : List Int} {i : Int}, i ∈ ns → ∃ j : Nat, ns[j]? = some i ∧ (∀ m : Nat, m < j → ns[m]? ≠ some i) ∧ ns.eraseIdx j = ns.erase i
  | [], _, h => by cases h
  | n :: ns, i, h => by
    by_cases z : n = i
    · subst z
      exact ⟨0, rfl, fun m hm => absurd hm (Nat.not_lt_zero m), by simp⟩
    · obtain ⟨j, h1, h2, h3⟩ := first_of (ns := ns) (i := i) (by
        rcases List.mem_cons.mp h with h | h
        · exact (z h.symm).elim
        · exact h)
      refine ⟨j + 1, by simpa using h1, fun m hm => ?_, by rw [List.eraseIdx_cons_succ, List.erase_cons_tail (by simpa using z), h3]⟩
      cases m with
      | zero => simpa using z
      | succ m => simpa using h2 m (by omega)
/-- remove of a list of ints -/
def removeW : List D → List D → (D → List D → Prop) → Prop := fun ds es q => match es with
  | [.int i] => ∃ (ns : List Int), ds = ns.map D.int ∧ i ∈ ns ∧ q .non ((ns.erase i).map D.int)
  | _ => False
theorem lm_remove : ListM X "list.remove" rRemI removeW := ⟨mt_remove, fun {a xs ds vs es H G q Q} l ha hd he hw k => by
  match vs, es, he, hw with
  | _, [.int i], .cons (.int _) .nil, ⟨ns, e1, hm, hq⟩ =>
    subst e1
    have ex := das_ints_of hd
    subst ex
    obtain ⟨j, hj, hno, er⟩ := first_of hm
    exact ⟨_, ns, i, j, rfl, rfl, ha, hj, hno, k _ _ _ _ hq (by rw [er]; exact das_ints _) .non⟩⟩
/-- insert(i, y), i not below 0 -/
def insertW : List D → List D → (D → List D → Prop) → Prop := fun ds es q => match es with
  | [.int i, d] => ds.length < sizeLine ∧ 0 ≤ i ∧ i < 2 ^ 62 ∧ q .non (ds.take i.toNat ++ [d] ++ ds.drop i.toNat)
  | _ => False
def rInsert : V → List V → Hp → VK → Prop := fun x vs H Q => ∃ (l : Addr) (xs : List V) (i : Int) (y : V), x = .ref l ∧ vs = [.int i, y] ∧ H l = some (.lst xs) ∧ xs.length < sizeLine ∧ 0 ≤ i ∧ i < 2 ^ 63 ∧ Q .non (upd H l (.lst (xs.take i.toNat ++ [y] ++ xs.drop i.toNat)))
theorem lm_insert : ListM X "list.insert" rInsert insertW := ⟨mt_insert, fun {a xs ds vs es H G q Q} l ha hd he hw k => by
  match vs, es, he, hw with
  | _, [.int i, d], .cons (.int _) (.cons h .nil), hw =>
    exact ⟨_, _, i, _, rfl, rfl, ha, by rw [hd.length]; exact hw.1, hw.2.1, by have := hw.2.2.1; omega, k _ _ _ _ hw.2.2.2 (((hd.take _).append (.cons h .nil)).append (hd.drop _)) .non⟩⟩
/-! ### an owned list's item, an owned dict's entry is stored -/
def dLput (i : Nat) (ti tv : TD) : TDS := fun Dd ρ er => tv ρ er fun r ρ1 => known ρ1 i ∧ ti ρ1 er fun s ρ2 => sd r ρ2 fun d => wd s ρ2 fun k => ownL ρ2 i fun ds => match k with
  | .int j => optW (ixN ds.length j) fun n => Dd.nx (upS ρ2 i (.lst (ds.set n d)))
  | _ => False
where known (ρ : Rho) (i : Nat) : Prop := match ρ[i]? with
  | none => False
  | some .no => False
  | some _ => True
theorem known_of {K : PySem.W.Frag} {B : Base} {π : List (V × Sl)} {ρ : Rho} {σ : L2.St} {H : Hp} {ws : List Addr} (R : Rel K B π ρ σ H ws) (h : dLput.known ρ i) : ∃ v, σ[i]? = some (some v) := by
  unfold dLput.known at h
  cases e : ρ[i]? with
  | none => rw [e] at h; exact h.elim
  | some x =>
    rw [e] at h
    obtain ⟨v, h1, _⟩ := R.sl i x e (fun z => by rw [z] at h; exact h)
    exact ⟨v, h1⟩
def dDput (i : Nat) (ti tv : TD) : TDS := fun Dd ρ er => tv ρ er fun r ρ1 => dLput.known ρ1 i ∧ ti ρ1 er fun s ρ2 => sd r ρ2 fun d => wd s ρ2 fun k => ownD ρ2 i fun ps => optW k.key fun j => ps.length < sizeLine ∧ Dd.nx (upS ρ2 i (.dct (puD ps j d)))
variable {value : Expr} {spos : Pos}
theorem ds_dput (hu : X.A.units + 1 < cLine) (ho : PE X (.Name x p) (tVar i)) (hi : DE X E a tea ta) (hv : DE X E value teb tb) (hs : swapsWith value (some (.Subscript (.Name x p) a spos)) pos.line X.env = pure false := by rfl) :
    DS X E (.Assign [.Subscript (.Name x p) a spos] value pos) (sDPut (tVar i) tea teb) (dDput i ta tb) :=
  ⟨ps_dput hu ho hi.1 hv.1 hs, fun B er π ρ σ H ws Dd D R nh hE h L => hv.2 B er π ρ σ H ws _ _ R hE h fun r ρ1 v H1 ws1 h1 R1 => by
    obtain ⟨kn, h1⟩ := h1
    obtain ⟨w, ew⟩ := known_of R1 kn
    refine ⟨w, ew, hi.2 B er _ ρ1 σ H1 ws1 _ _ R1 hE h1 fun s ρ2 y H2 ws2 h2 R2 => ?_⟩
    obtain ⟨d, hd, h2⟩ := sd_of R2 (List.mem_cons_of_mem _ List.mem_cons_self) h2
    obtain ⟨kk, ek, h2⟩ := wd_of h2
    have V := R2.viewTop ek
    obtain ⟨a, kvs, ps, g1, g2, g3, kd, h2, up⟩ := ownD_of R2.pop.pop h2
    obtain ⟨key, e3, hz, h2⟩ := optW_of h2
    rw [ew] at g1
    cases g1
    exact ⟨a, _, rfl, .inl ⟨kvs, key, g3, key_db V e3, by rw [kd.length]; exact hz, rfl⟩, L.nx _ σ _ ws2 h2 (up _ _ (kd.put key hd))⟩⟩
theorem ds_lput (ho : PE X (.Name x p) (tVar i)) (hi : DE X E a tea ta) (hv : DE X E value teb tb) (hg : PG X (.Subscript (.Name x p) a spos) (gSub (tVar i) tea rSetL)) (hs : swapsWithSole [.Subscript (.Name x p) a spos] value pos.line X.env = pure false := by rfl) (hw : swappedStores [.Subscript (.Name x p) a spos] value X.env = pure none := by rfl)
    (h1 : (assignEach [.Subscript (.Name x p) a spos] X.env).map (·.2) = [assign (.Subscript (.Name x p) a spos) X.env] := by rfl) :
    DS X E (.Assign [.Subscript (.Name x p) a spos] value pos) (tAsg teb (gSub (tVar i) tea rSetL)) (dLput i ta tb) :=
  ⟨ps_asg hv.1 hg hs hw h1, fun B er π ρ σ H ws Dd D R nh hE h L => hv.2 B er π ρ σ H ws _ _ R hE h fun r ρ1 v H1 ws1 h1 R1 => by
    obtain ⟨kn, h1⟩ := h1
    obtain ⟨w, ew⟩ := known_of R1 kn
    refine ⟨w, ew, hi.2 B er _ ρ1 σ H1 ws1 _ _ R1 hE h1 fun s ρ2 y H2 ws2 h2 R2 => ?_⟩
    obtain ⟨d, hd, h2⟩ := sd_of R2 (List.mem_cons_of_mem _ List.mem_cons_self) h2
    obtain ⟨kk, ek, h2⟩ := wd_of h2
    have V := R2.viewTop ek
    obtain ⟨a, xs, ds, g1, g2, g3, hds, h2, up⟩ := ownL_of R2.pop.pop h2
    rw [ew] at g1
    cases g1
    cases V <;> first | exact h2.elim | skip
    obtain ⟨n, en, h2⟩ := optW_of h2
    exact ⟨a, xs, _, n, rfl, rfl, g3, by rw [hds.length]; exact en, L.nx _ σ _ ws2 h2 (up _ _ (Das.set hd n hds))⟩⟩
/-! ### dicts: get, pop -/
def isDct (r : Sl) (ρ : Rho) (k : List (Key × D) → Prop) : Prop := wd r ρ fun d => match d with
  | .dct ps => k ps
  | _ => False
theorem isDct_of {K : PySem.W.Frag} {B : Base} {π : List (V × Sl)} {ρ : Rho} {σ : L2.St} {H : Hp} {ws : List Addr} {v : V} {r : Sl} {k : List (Key × D) → Prop} (R : Rel K B π ρ σ H ws) (m : (v, r) ∈ π) (h : isDct r ρ k) : ∃ a kvs ps, v = .ref a ∧ Rd H a (.dK kvs) ∧ Kd K (mns ws H) kvs ps ∧ k ps := by
  obtain ⟨d, e, h⟩ := wd_of h
  have V := R.view m e
  cases V <;> first | exact h.elim | (rename_i e1 kk hd; exact ⟨_, _, _, rfl, e1, ⟨kk, hd⟩, h⟩)
def dGet1 (t tk : TD) : TD := fun ρ er q => t ρ er fun r ρ1 => isDct r ρ1 fun _ => tk ρ1 er fun s ρ2 => isDct r ρ2 fun ps => wd s ρ2 fun k => optW k.key fun j => q (.imm ((lkD ps j).getD .non)) ρ2
theorem de_get1 (hu : X.A.units + 1 < cLine) (ho : DE X E a tea ta) (he : DE X E b teb tb) (m : M1 X a "get" apos b cpos) : DE X E (.Call (.Attribute a "get" apos) [b] [] cpos) (tDGet1 tea teb) (dGet1 ta tb) :=
  ⟨pe_dget1 hu ho.1 he.1 m, fun B er π ρ σ H ws q Q R hE h k => ho.2 B er π ρ σ H ws _ _ R hE h fun r ρ1 v H1 ws1 h1 R1 => by
    obtain ⟨a, kvs, ps, rfl, e1, _, h1⟩ := isDct_of R1 List.mem_cons_self h1
    refine ⟨a, rfl, .inl ⟨_, e1⟩, he.2 B er _ ρ1 σ H1 ws1 _ _ R1 hE h1 fun s ρ2 y H2 ws2 h2 R2 => ?_⟩
    obtain ⟨a', kvs', ps', ea, e2, kd, h2⟩ := isDct_of R2 (List.mem_cons_of_mem _ List.mem_cons_self) h2
    cases ea
    obtain ⟨kk, ek, h2⟩ := wd_of h2
    obtain ⟨key, e3, h2⟩ := optW_of h2
    refine ⟨valV kvs' key, .inl ⟨kvs', key, e2, key_db (R2.viewTop ek) e3, rfl⟩, k _ ρ2 _ H2 ws2 h2 (R2.pop.pop.imm ?_)⟩
    rcases kd.look key with ⟨z1, z2⟩ | ⟨d, w, z1, z2, hd⟩ <;> rw [z1, z2]
    · exact .non
    · exact hd⟩
def dGet2 (t tk tx : TD) : TD := fun ρ er q => t ρ er fun r ρ1 => isDct r ρ1 fun _ => tk ρ1 er fun s ρ2 => tx ρ2 er fun y ρ3 => isDct r ρ3 fun ps => wd s ρ3 fun k => sd y ρ3 fun d => optW k.key fun j => q (.imm ((lkD ps j).getD d)) ρ3
theorem de_get2 (hu : X.A.units + 1 < cLine) (ho : DE X E a tea ta) (he : DE X E b teb tb) (hf : DE X E e tec tc) (m : M2 X a "get" apos b e cpos) : DE X E (.Call (.Attribute a "get" apos) [b, e] [] cpos) (tDGet2 tea teb tec) (dGet2 ta tb tc) :=
  ⟨pe_dget2 hu ho.1 he.1 hf.1 m, fun B er π ρ σ H ws q Q R hE h k => ho.2 B er π ρ σ H ws _ _ R hE h fun r ρ1 v H1 ws1 h1 R1 => by
    obtain ⟨a, kvs, ps, rfl, e1, _, h1⟩ := isDct_of R1 List.mem_cons_self h1
    refine ⟨a, rfl, .inl ⟨_, e1⟩, he.2 B er _ ρ1 σ H1 ws1 _ _ R1 hE h1 fun s ρ2 y H2 ws2 h2 R2 => hf.2 B er _ ρ2 σ H2 ws2 _ _ R2 hE h2 fun z ρ3 yz H3 ws3 h3 R3 => ?_⟩
    obtain ⟨a', kvs', ps', ea, e2, kd, h3⟩ := isDct_of R3 (List.mem_cons_of_mem _ (List.mem_cons_of_mem _ List.mem_cons_self)) h3
    cases ea
    obtain ⟨kk, ek, h3⟩ := wd_of h3
    obtain ⟨d, hd, h3⟩ := sd_of R3 List.mem_cons_self h3
    obtain ⟨key, e3, h3⟩ := optW_of h3
    refine ⟨valV kvs' key, .inl ⟨kvs', key, e2, key_db (R3.view (List.mem_cons_of_mem _ List.mem_cons_self) ek) e3, rfl⟩, k _ ρ3 _ H3 ws3 h3 (R3.pop.pop.pop.imm ?_)⟩
    rcases kd.look key with ⟨z1, z2⟩ | ⟨d', w, z1, z2, hd'⟩ <;> rw [z1, z2]
    · exact hd
    · exact hd'⟩
def isOwnD (ρ : Rho) (i : Nat) : Prop := ownD ρ i fun _ => True
def dPop1 (i : Nat) (tk : TD) : TD := fun ρ er q => isOwnD ρ i ∧ tk ρ er fun s ρ1 => wd s ρ1 fun k => ownD ρ1 i fun ps => optW k.key fun j => optW (lkD ps j) fun d => q (.imm d) (upS ρ1 i (.dct (drD ps j)))
theorem de_pop1 (ho : PE X (.Name x p) (tVar i)) (he : DE X E b teb tb) (m : M1 X (.Name x p) "pop" apos b cpos) : DE X E (.Call (.Attribute (.Name x p) "pop" apos) [b] [] cpos) (tDPop1 (tVar i) teb) (dPop1 i tb) :=
  ⟨pe_dpop1 ho he.1 m, fun B er π ρ σ H ws q Q R hE h k => by
    obtain ⟨h0, h⟩ := h
    obtain ⟨a, kvs, ps, g1, g2, g3, kd, _, _⟩ := ownD_of R h0
    refine ⟨_, g1, a, rfl, .inl ⟨_, .inl g3⟩, he.2 B er π ρ σ H ws _ _ R hE h fun s ρ1 y H1 ws1 h1 R1 => ?_⟩
    obtain ⟨kk, ek, h1⟩ := wd_of h1
    have V := R1.viewTop ek
    obtain ⟨a', kvs', ps', f1, f2, f3, kd', h1, up⟩ := ownD_of R1.pop h1
    rw [g1] at f1
    cases f1
    obtain ⟨key, e3, h1⟩ := optW_of h1
    obtain ⟨d, e4, h1⟩ := optW_of h1
    rcases kd'.look key with ⟨z1, z2⟩ | ⟨d', w, z1, z2, hd⟩
    · rw [z1] at e4; cases e4
    · rw [z1] at e4
      cases e4
      have U := up _ _ (kd'.drop key)
      exact ⟨kvs', key, w, f3, key_db V e3, z2, k _ _ w _ ws1 h1 (U.imm (by rw [mns_in f2]; exact hd))⟩⟩
def dPop2 (i : Nat) (tk tx : TD) : TD := fun ρ er q => isOwnD ρ i ∧ tk ρ er fun s ρ1 => tx ρ1 er fun y ρ2 => wd s ρ2 fun k => sd y ρ2 fun d0 => ownD ρ2 i fun ps => optW k.key fun j => q (.imm ((lkD ps j).getD d0)) (upS ρ2 i (.dct (drD ps j)))
theorem dropK_none {κ : Type} [DecidableEq κ] {kvs : List (κ × V)} {k : κ} (h : valV kvs k = none) : dropK kvs k = kvs := by
  unfold dropK
  rw [List.filter_eq_self]
  intro p hp
  unfold valV at h
  cases q : kvs.find? (fun kv => decide (kv.1 = k)) with
  | some z => rw [q] at h; cases h
  | none =>
    have := List.find?_eq_none.mp q p hp
    simpa using this
theorem upd_self {H : Hp} {a : Addr} {o : HO} (h : H a = some o) : upd H a o = H := by
  funext b
  unfold upd
  by_cases z : b = a
  · rw [if_pos z, z, h]
  · rw [if_neg z]
theorem de_pop2 (ho : PE X (.Name x p) (tVar i)) (he : DE X E b teb tb) (hf : DE X E e tec tc) (m : M2 X (.Name x p) "pop" apos b e cpos) : DE X E (.Call (.Attribute (.Name x p) "pop" apos) [b, e] [] cpos) (tDPop2 (tVar i) teb tec) (dPop2 i tb tc) :=
  ⟨pe_dpop2 ho he.1 hf.1 m, fun B er π ρ σ H ws q Q R hE h k => by
    obtain ⟨h0, h⟩ := h
    obtain ⟨a, kvs, ps, g1, g2, g3, kd, _, _⟩ := ownD_of R h0
    refine ⟨_, g1, a, rfl, .inl ⟨_, .inl g3⟩, he.2 B er π ρ σ H ws _ _ R hE h fun s ρ1 y H1 ws1 h1 R1 => hf.2 B er _ ρ1 σ H1 ws1 _ _ R1 hE h1 fun s2 ρ2 y2 H2 ws2 h2 R2 => ?_⟩
    obtain ⟨kk, ek, h2⟩ := wd_of h2
    obtain ⟨d0, hd0, h2⟩ := sd_of R2 List.mem_cons_self h2
    have V := R2.view (List.mem_cons_of_mem _ List.mem_cons_self) ek
    obtain ⟨a', kvs', ps', f1, f2, f3, kd', h2, up⟩ := ownD_of R2.pop.pop h2
    rw [g1] at f1
    cases f1
    obtain ⟨key, e3, h2⟩ := optW_of h2
    have U := up _ _ (kd'.drop key)
    refine ⟨kvs', key, f3, key_db V e3, fun w hw => ?_, fun hn => ?_⟩
    · rcases kd'.look key with ⟨z1, z2⟩ | ⟨d', w', z1, z2, hd⟩
      · rw [z2] at hw; cases hw
      · rw [z2] at hw
        cases hw
        rw [z1] at h2
        exact k _ _ _ _ ws2 h2 (U.imm (by rw [mns_in f2]; exact hd))
    · rcases kd'.look key with ⟨z1, z2⟩ | ⟨d', w', z1, z2, hd⟩
      · rw [z1] at h2
        rw [dropK_none hn, upd_self f3] at U
        exact k _ _ _ _ ws2 h2 (U.imm hd0)
      · rw [z2] at hn; cases hn⟩
end
end Dl
set_option maxRecDepth 100000
set_option maxHeartbeats 4000000
/-! the data layer: walks, loops -/
namespace Dl
open PySem PySem.Spec PyProof.Rows L2 L3
section
variable {K : PySem.W.Frag} {B : Base} {π π' : List (V × Sl)} {ρ : Rho} {σ σ' : L2.St} {H : Hp} {ws : List Addr} {v : V} {x : Sl} {d d' : D}
theorem Rel.sub (R : Rel K B π ρ σ H ws) (s : π'.Sublist π) : Rel K B π' ρ σ H ws :=
  { R with pn := fun p h => R.pn p (s.mem h), npp := fun p h => R.npp p (s.mem h), apP := R.apP.sublist s, apX := fun p h => R.apX p (s.mem h) }
theorem noH_append {π1 π2 : List (V × Sl)} (h1 : NoH π1) (h2 : NoH π2) : NoH (π1 ++ π2) := fun p hp => by
  rcases List.mem_append.mp hp with h | h
  · exact h1 p h
  · exact h2 p h
/-- the handles forgotten -/
def unh1 (p : V × Sl) : V × Sl := match p.2 with
  | .slot _ => (p.1, .no)
  | _ => p
def unh (π : List (V × Sl)) : List (V × Sl) := π.map unh1
theorem unh1_own {p : V × Sl} (h : (unh1 p).2.isOwn) : p.2.isOwn ∧ (unh1 p) = p := by
  obtain ⟨v, x⟩ := p
  cases x with
  | slot i => exact h.elim
  | own d => exact ⟨h, rfl⟩
  | _ => exact h.elim
theorem unh_noH : NoH (unh π) := fun p hp j z => by
  obtain ⟨q, hq, rfl⟩ := List.mem_map.mp hp
  obtain ⟨v, x⟩ := q
  cases x <;> cases z
theorem Rel.unh (R : Rel K B π ρ σ H ws) : Rel K B (unh π) ρ σ H ws := by
  refine { R with pn := fun p hp => ?_, npp := fun p hp d z => ?_, apP := ?_, apX := fun p hp h1 => ?_ }
  · obtain ⟨q, hq, rfl⟩ := List.mem_map.mp hp
    have t := R.pn q hq
    obtain ⟨v, x⟩ := q
    cases x <;> first | exact t | trivial
  · obtain ⟨q, hq, rfl⟩ := List.mem_map.mp hp
    have t := R.npp q hq
    obtain ⟨v, x⟩ := q
    cases x <;> first | exact t d z | cases z
  · unfold Dl.unh
    rw [List.pairwise_map]
    exact R.apP.imp fun {p q} h h1 h2 => by
      obtain ⟨o1, e1⟩ := unh1_own h1
      obtain ⟨o2, e2⟩ := unh1_own h2
      rw [e1, e2]
      exact h o1 o2
  · obtain ⟨q, hq, rfl⟩ := List.mem_map.mp hp
    obtain ⟨o1, e1⟩ := unh1_own h1
    rw [e1]
    exact R.apX q hq o1
/-- .. and known again -/
theorem Rel.reh (R : Rel K B (Dl.unh π) ρ σ H ws) (h : ∀ v i, (v, Sl.slot i) ∈ π → σ[i]? = some (some v)) (np : ∀ p ∈ π, ∀ d, p.2 ≠ .par d) : Rel K B π ρ σ H ws := by
  refine { R with pn := fun p hp => ?_, npp := np, apP := ?_, apX := fun p hp h1 => ?_ }
  · obtain ⟨v, x⟩ := p
    have t : Ent K B σ H ws (unh1 (v, x)).1 (unh1 (v, x)).2 := R.pn _ (List.mem_map.mpr ⟨_, hp, rfl⟩)
    cases x with
    | slot i => exact h v i hp
    | _ => exact t
  · have := R.apP
    unfold Dl.unh at this
    rw [List.pairwise_map] at this
    exact this.imp fun {p q} h h1 h2 => by
      obtain ⟨v, x⟩ := p
      obtain ⟨w, y⟩ := q
      cases x <;> first | exact h1.elim | skip
      cases y <;> first | exact h2.elim | skip
      exact h h1 h2
  · obtain ⟨v, x⟩ := p
    have t := R.apX (unh1 (v, x)) (List.mem_map.mpr ⟨_, hp, rfl⟩)
    cases x <;> first | exact h1.elim | exact t h1
/-- the waiting object at the top is changed -/
theorem Rel.mutTop {a : Addr} {o : HO} (R : Rel K B ((.ref a, .own d) :: π) ρ σ H ws) (mu : Mut (some o)) (t : Top K (mns ws H) o d') : Rel K B ((.ref a, .own d') :: π) ρ σ (upd H a o) ws := by
  have h2 : Ent K B σ H ws (.ref a) (.own d) := R.top
  obtain ⟨b, u, q, am, an, _, _, _⟩ := id h2
  cases q
  have G := mns_in (H := H) (o := o) am
  have ap := List.pairwise_cons.mp R.apP
  have other : ∀ {w : V} {y : Sl}, Ent K B σ H ws w y → (y.isOwn → w ≠ .ref a) → Ent K B σ (upd H a o) ws w y := fun {w y} q n1 => by
    cases y with
    | no => trivial
    | imm d =>
      have q' : Da K (mns ws H) w d := q
      show Da K (mns ws (upd H a o)) w d
      rw [G]; exact q'
    | own d =>
      obtain ⟨b, u, e, m, n, ho, mu, t⟩ := q
      exact ⟨b, u, e, m, n, by rw [upd_ne (fun z => n1 trivial (by rw [e, z]))]; exact ho, mu, by rw [G]; exact t⟩
    | par d =>
      obtain ⟨b, u, e, m, n, ho, mu, t⟩ := q
      exact ⟨b, u, e, m, n, by rw [upd_ne (fun z => R.w0 b n (by rw [z]; exact an))]; exact ho, mu, by rw [G]; exact t⟩
    | drw => exact q
    | slot j => exact q
  have base : ∀ b u, B.H0 b = some u → b ≠ a := fun b u e1 z => by rw [z, an] at e1; cases e1
  refine { R with sl := fun j y q n => ?_, pn := fun p hp => ?_, npp := fun p hp dd z => ?_, apP := List.pairwise_cons.mpr ⟨fun q hq _ h2 => ap.1 q hq trivial h2, ap.2⟩, apX := fun p hp h1 => ?_, keep := fun b u e1 n n2 => ?_, tab := fun P q t => (by obtain ⟨_, u, z, _, _, ho, _, tp⟩ := R.pn _ List.mem_cons_self; cases z; exact tab_upd (R.tab P q t) ho tp.off), stay := fun b n z => ?_, wsH := fun b m z => ?_, dr := fun dd st e1 => ?_ }
  · obtain ⟨w, s1, s2⟩ := R.sl j y q n
    exact ⟨w, s1, other s2 fun ho z => R.apX _ List.mem_cons_self trivial j y w q ho s1 z.symm⟩
  · rcases List.mem_cons.mp hp with rfl | hp
    · exact ⟨_, o, rfl, am, an, upd_same, mu, by rw [G]; exact t⟩
    · exact other (R.pn p (List.mem_cons_of_mem _ hp)) fun ho z => ap.1 p hp trivial ho z.symm
  · rcases List.mem_cons.mp hp with rfl | hp
    · cases z
    · exact R.npp p (List.mem_cons_of_mem _ hp) dd z
  · rcases List.mem_cons.mp hp with rfl | hp
    · exact R.apX (.ref a, .own d) List.mem_cons_self trivial
    · exact R.apX p (List.mem_cons_of_mem _ hp) h1
  · rw [upd_ne (base b u e1)]
    exact R.keep b u e1 n n2
  · by_cases q : b = a
    · rw [q, upd_same] at z; cases z
    · rw [upd_ne q] at z; exact R.stay b n z
  · by_cases q : b = a
    · rw [q, upd_same] at z; cases z
    · rw [upd_ne q] at z; exact R.wsH b m z
  · obtain ⟨s1, s2, ⟨ms, sp, mx, s3, s4, s5⟩, s6⟩ := R.dr dd st e1
    have n1 : ∀ c ∈ B.ws0, c ≠ a := fun c m z => R.w0 c m (by rw [z]; exact an)
    exact ⟨s1, s2, ⟨ms, sp, mx, by rw [upd_ne (n1 dd s1)]; exact s3, by rw [upd_ne (n1 st s2)]; exact s4, s5⟩, s6⟩
/-! ### the slots of a comprehension's own names -/
def wipeD (ρ : Rho) : List Nat → Rho
  | [] => ρ
  | v :: vs => (wipeD ρ vs).set v .no
theorem wipeD_length (ρ : Rho) : ∀ vs : List Nat, (wipeD ρ vs).length = ρ.length
  | [] => rfl
  | v :: vs => by unfold wipeD; rw [List.length_set, wipeD_length ρ vs]
theorem wipeD_at (ρ : Rho) (i : Nat) : ∀ vs : List Nat, (wipeD ρ vs)[i]? = ρ[i]? ∧ i ∉ vs ∨ ((wipeD ρ vs)[i]? = some .no ∨ (wipeD ρ vs)[i]? = none) ∧ i ∈ vs
  | [] => .inl ⟨rfl, by simp⟩
  | v :: vs => by
    unfold wipeD
    by_cases h : i = v
    · subst h
      refine .inr ⟨?_, List.mem_cons_self⟩
      by_cases hl : i < (wipeD ρ vs).length
      · exact .inl (List.getElem?_set_self hl)
      · right
        rw [List.getElem?_eq_none_iff, List.length_set]
        omega
    · rw [List.getElem?_set_ne (Ne.symm h)]
      rcases wipeD_at ρ i vs with ⟨a, b⟩ | ⟨a, b⟩
      · exact .inl ⟨a, fun z => (List.mem_cons.mp z).elim h b⟩
      · exact .inr ⟨a, List.mem_cons_of_mem _ b⟩
theorem wipe_at (σ : L2.St) (i : Nat) : ∀ vs : List Nat, i ∉ vs → (wipe σ vs)[i]? = σ[i]?
  | [], _ => rfl
  | v :: vs, h => by
    unfold wipe
    rw [List.getElem?_set_ne (fun z => h (by simp [z]))]
    exact wipe_at σ i vs fun z => h (List.mem_cons_of_mem _ z)
/-- other values in slots that are not known -/
theorem Rel.reslot (R : Rel K B π ρ σ H ws) (nh : NoH π) (vs : List Nat) (np : ∀ i ∈ vs, ∀ d, ρ[i]? ≠ some (.par d)) (hl : σ'.length = σ.length) (hs : ∀ i, i ∉ vs → σ'[i]? = σ[i]?) : Rel K B π (wipeD ρ vs) σ' H ws := by
  have ent : ∀ {w : V} {z : Sl}, (∀ j, z ≠ .slot j) → Ent K B σ H ws w z → Ent K B σ' H ws w z := fun {w z} n h => by
    cases z with
    | slot j => exact (n j rfl).elim
    | _ => exact h
  have get : ∀ {j : Nat} {z : Sl}, (wipeD ρ vs)[j]? = some z → z ≠ .no → j ∉ vs ∧ ρ[j]? = some z := fun {j z} e n => by
    rcases wipeD_at ρ j vs with ⟨a, b⟩ | ⟨a, b⟩
    · exact ⟨b, by rw [← a]; exact e⟩
    · rcases a with a | a
      · rw [a] at e; cases e; exact (n rfl).elim
      · rw [a] at e; cases e
  have own : ∀ {z : Sl}, z.isOwn → z ≠ .no := fun h z => by rw [z] at h; exact h
  refine { R with len := by rw [wipeD_length, hl]; exact R.len, sl := fun j z e n => ?_, nsl := fun j k e => ?_, pn := fun p hp => ent (nh p hp) (R.pn p hp), apS := fun j k z t w u e1 e2 h1 h2 e3 e4 n => ?_, apX := fun p hp h1 j z w e h2 e3 => ?_, ps := fun j a m => ?_, pr := fun j d e => ?_ }
  · obtain ⟨h1, h2⟩ := get e n
    obtain ⟨w, h3, h4⟩ := R.sl j z h2 n
    exact ⟨w, by rw [hs j h1]; exact h3, ent (fun k y => R.nsl j k (by rw [h2, y])) h4⟩
  · exact R.nsl j k (get e (fun z => nomatch z)).2
  · obtain ⟨g1, g2⟩ := get e1 (own h1)
    obtain ⟨g3, g4⟩ := get e2 (own h2)
    rw [hs j g1] at e3
    rw [hs k g3] at e4
    exact R.apS j k z t w u g2 g4 h1 h2 e3 e4 n
  · obtain ⟨g1, g2⟩ := get e (own h2)
    rw [hs j g1] at e3
    exact R.apX p hp h1 j z w g2 h2 e3
  · obtain ⟨h1, h2, d, h3⟩ := R.ps j a m
    have n : j ∉ vs := fun z => np j z d h3
    refine ⟨h1, by rw [hs j n]; exact h2, d, ?_⟩
    rcases wipeD_at ρ j vs with ⟨a, _⟩ | ⟨_, b⟩
    · rw [a]; exact h3
    · exact (n b).elim
  · exact R.pr j d (get e (fun z => nomatch z)).2
end
/-! ### what is walked -/
/-- items one by one, while the relation holds -/
structure WalkD (K : PySem.W.Frag) (B : Base) (π : List (V × Sl)) (J : It) (items : List D) : Prop where
  goes : ∀ ρ σ H ws i, Rel K B π ρ σ H ws → i < items.length → J.go i H
  stops : ∀ ρ σ H ws, Rel K B π ρ σ H ws → J.stop items.length H
  yields : ∀ ρ σ H ws i d x H', Rel K B π ρ σ H ws → items[i]? = some d → J.yld i H x H' → Res K H (mns ws H) x d H'
/-- a reading of what a loop walks: the items -/
abbrev TDI := Rho → (Exn → Prop) → (List D → Rho → Prop) → Prop
def DI (X : Cx) (E : XK) (tg iter : Expr) (wi : TI) (t : TDI) : Prop := PI X tg iter wi ∧ ∀ (B : Base) (er : Exn → Prop) (π : List (V × Sl)) (ρ : Rho) (σ : L2.St) (H : Hp) (ws : List Addr) (q : List D → Rho → Prop) (Rr : It → Hp → Prop),
  Rel X.K B π ρ σ H ws → EOk X.K B er E → t ρ er q → (∀ items ρ' H' ws' J pend, q items ρ' → NoH pend → Rel X.K B (pend ++ π) ρ' σ H' ws' → WalkD X.K B (pend ++ π) J items → Rr J H') → wi σ H Rr
/-- .. of an owned object too, in a comprehension: the guard says that it stands still -/
structure WalkG (K : PySem.W.Frag) (B : Base) (π : List (V × Sl)) (σ : L2.St) (J : It) (items : List D) (gd : Rho → Prop) : Prop where
  goes : ∀ ρ H ws i, Rel K B π ρ σ H ws → gd ρ → i < items.length → J.go i H
  stops : ∀ ρ H ws, Rel K B π ρ σ H ws → gd ρ → J.stop items.length H
  yields : ∀ ρ H ws i d x H', Rel K B π ρ σ H ws → gd ρ → items[i]? = some d → J.yld i H x H' → Res K H (mns ws H) x d H'
abbrev TDIg := Rho → (Exn → Prop) → (List D → (Rho → Prop) → Rho → Prop) → Prop
def DIg (X : Cx) (E : XK) (tg iter : Expr) (wi : TI) (t : TDIg) : Prop := PI X tg iter wi ∧ ∀ (B : Base) (er : Exn → Prop) (π : List (V × Sl)) (ρ : Rho) (σ : L2.St) (H : Hp) (ws : List Addr) (q : List D → (Rho → Prop) → Rho → Prop) (Rr : It → Hp → Prop),
  Rel X.K B π ρ σ H ws → EOk X.K B er E → t ρ er q → (∀ items gd ρ' H' ws' J pend, q items gd ρ' → gd ρ' → Rel X.K B (pend ++ π) ρ' σ H' ws' → WalkG X.K B (pend ++ π) σ J items gd → Rr J H') → wi σ H Rr
def gdT : Rho → Prop := fun _ => True
def dG (t : TDI) : TDIg := fun ρ er q => t ρ er fun items ρ1 => q items gdT ρ1
theorem di_g {X : Cx} {E : XK} {tg iter : Expr} {wi : TI} {t : TDI} (h : DI X E tg iter wi t) : DIg X E tg iter wi (dG t) :=
  ⟨h.1, fun B er π ρ σ H ws q Rr R hE hw k => h.2 B er π ρ σ H ws _ Rr R hE hw fun items ρ' H' ws' J pend hq _ R' W => k items gdT ρ' H' ws' J pend hq trivial R'
    ⟨fun ρ H ws i R _ hi => W.goes ρ σ H ws i R hi, fun ρ H ws R _ => W.stops ρ σ H ws R, fun ρ H ws i d x H' R _ => W.yields ρ σ H ws i d x H' R⟩⟩
section
variable {X : Cx} {E : XK} {tg l e a b : Expr} {ta tb : TD} {te tea teb : TE} {pos p : Pos} {taa : TA} {u : TDA}
/-- a list, a tuple or a text -/
def iSeq (K : PySem.W.Frag) (tl : TE) : TI := fun σ H R => tl σ H fun x H1 => (∃ a, x = .ref a ∧ (∃ xs, SqL K H1 a xs) ∧ R (Itl K a) H1) ∨ (∃ a, x = .ref a ∧ (∃ xs, SqT K H1 a xs) ∧ R (Itt K a) H1) ∨ ∃ z, x = .str z ∧ R (Its z) H1
theorem pi_seq (hl : PE X l te) : PI X tg l (iSeq X.K te) := by
  refine ⟨fun pins s σ H R I h => thn (hl.run pins s σ H _ I h) ?_⟩
  rintro u s1 ⟨x, H1, J, rel, (⟨c, rfl, ⟨xs, seq⟩, goal⟩ | ⟨c, rfl, ⟨xs, seq⟩, goal⟩ | ⟨z, rfl, goal⟩)⟩
  · obtain rfl : u = .ref c := rel
    obtain ⟨its, _, pl, _⟩ := J.list seq
    exact wpAny_pyIter_list pl.isList (pi_one (tk := s1.toks) J _ (turn_list c _) ⟨_, Heap.get?_push_size _ rfl, rfl, rfl⟩ goal)
  · obtain rfl : u = .ref c := rel
    obtain ⟨its, _, pl, _⟩ := J.tuple seq
    exact wpAny_pyIter_tuple (show s1.heap.IsTuple c its.toArray from pl) (pi_one (tk := s1.toks) J _ (turn_tuple c _) ⟨_, Heap.get?_push_size _ rfl, rfl, rfl⟩ goal)
  · obtain ⟨tk, rfl⟩ := rel
    have wide := fun n => wpAny_pyIter_wide (prog := X.prog) (w := X.w) (A := X.A) (E := X.xe) n (pi_one (tk := s1.toks) J _ (turn_str (tg := tg) _ z tk "str_iterator" (.inr rfl)) ⟨_, Heap.get?_push_size _ rfl, rfl, rfl⟩ goal)
    have narrow := fun n => wpAny_pyIter_ascii (prog := X.prog) (w := X.w) (A := X.A) (E := X.xe) n (pi_one (tk := s1.toks) J _ (turn_str (tg := tg) _ z tk "str_ascii_iterator" (.inl rfl)) ⟨_, Heap.get?_push_size _ rfl, rfl, rfl⟩ goal)
    cases n : z.cps.all (· < 128)
    · exact wide n
    · exact narrow n
def seqD : D → (List D → Prop) → Prop
  | .lst xs, q => q xs
  | .tup xs, q => q xs
  | .str z, q => q (z.cps.toList.map fun c => .str ⟨#[c]⟩)
  | _, _ => False
def dSeqI (t : TD) : TDI := fun ρ er q => t ρ er fun r ρ1 => sd r ρ1 fun d => seqD d fun items => q items ρ1
theorem walk_dl {K : PySem.W.Frag} {B : Base} {π : List (V × Sl)} {a : Addr} {items : List D} (m : (V.ref a, Sl.imm (.lst items)) ∈ π) : WalkD K B π (Itl K a) items := by
  have at_ : ∀ ρ σ H ws, Rel K B π ρ σ H ws → ∃ xs, SqL K H a xs ∧ Das K (mns ws H) xs items := fun ρ σ H ws R => by
    have t : Da K (mns ws H) (.ref a) (.lst items) := R.pn _ m
    cases t with
    | lst e h => exact ⟨_, SqL.of (mns_some e).2, h⟩
  refine ⟨fun ρ σ H ws i R hi => ?_, fun ρ σ H ws R => ?_, fun ρ σ H ws i d x H' R e y => ?_⟩
  · obtain ⟨xs, h1, h2⟩ := at_ ρ σ H ws R
    have hx : i < xs.length := by rw [h2.length]; exact hi
    exact ⟨xs, xs[i], h1, List.getElem?_eq_getElem hx⟩
  · obtain ⟨xs, h1, h2⟩ := at_ ρ σ H ws R
    exact ⟨xs, h1, by rw [h2.length]; exact Nat.le_refl _⟩
  · obtain ⟨xs, h1, h2⟩ := at_ ρ σ H ws R
    obtain ⟨rfl, y⟩ := y
    obtain ⟨v, ev, hv⟩ := h2.get e
    have := y xs h1
    rw [ev] at this
    cases this
    exact .same hv
theorem walk_dt {K : PySem.W.Frag} {B : Base} {π : List (V × Sl)} {a : Addr} {items : List D} (m : (V.ref a, Sl.imm (.tup items)) ∈ π) : WalkD K B π (Itt K a) items := by
  have at_ : ∀ ρ σ H ws, Rel K B π ρ σ H ws → ∃ xs, SqT K H a xs ∧ Das K (mns ws H) xs items := fun ρ σ H ws R => by
    have t : Da K (mns ws H) (.ref a) (.tup items) := R.pn _ m
    cases t with
    | tup e h => exact ⟨_, mns_le.sqT e, h⟩
  refine ⟨fun ρ σ H ws i R hi => ?_, fun ρ σ H ws R => ?_, fun ρ σ H ws i d x H' R e y => ?_⟩
  · obtain ⟨xs, h1, h2⟩ := at_ ρ σ H ws R
    have hx : i < xs.length := by rw [h2.length]; exact hi
    exact ⟨xs, xs[i], h1, List.getElem?_eq_getElem hx⟩
  · obtain ⟨xs, h1, h2⟩ := at_ ρ σ H ws R
    exact ⟨xs, h1, by rw [h2.length]; exact Nat.le_refl _⟩
  · obtain ⟨xs, h1, h2⟩ := at_ ρ σ H ws R
    obtain ⟨rfl, y⟩ := y
    obtain ⟨v, ev, hv⟩ := h2.get e
    have := y xs h1
    rw [ev] at this
    cases this
    exact .same hv
theorem walk_ds {K : PySem.W.Frag} {B : Base} {π : List (V × Sl)} {z : Str} : WalkD K B π (Its z) (z.cps.toList.map fun c => D.str ⟨#[c]⟩) := by
  have n : (z.cps.toList.map fun c => D.str ⟨#[c]⟩).length = z.cps.size := by rw [List.length_map, Array.length_toList]
  refine ⟨fun ρ σ H ws i R hi => by rw [n] at hi; exact hi, fun ρ σ H ws R => by rw [n]; exact Nat.le_refl _, fun ρ σ H ws i d x H' R e y => ?_⟩
  obtain ⟨rfl, c, ec, rfl⟩ := y
  rw [List.getElem?_map, Array.getElem?_toList, ec] at e
  cases e
  exact .same (.str _)
theorem di_seq {K : PySem.W.Frag} (h : DE X E l te ta) (hK : X.K = K := by rfl) : DI X E tg l (iSeq K te) (dSeqI ta) := by
  subst hK
  exact 
  ⟨pi_seq h.1, fun B er π ρ σ H ws q Rr R hE hw k => h.2 B er π ρ σ H ws _ _ R hE hw fun r ρ1 v H1 ws1 h1 R1 => by
    obtain ⟨d, hd, h1⟩ := sd_of R1 List.mem_cons_self h1
    have R2 := R1.pop.imm hd
    have go := fun items J (W : WalkD X.K B ((v, .imm d) :: π) J items) (z : q items ρ1) => k items ρ1 H1 ws1 J [(v, .imm d)] z (fun p hp j y => by rw [List.mem_singleton.mp hp] at y; cases y) R2 W
    cases hd with
    | lst e hd' => exact .inl ⟨_, rfl, ⟨_, SqL.of (mns_some e).2⟩, go _ _ (walk_dl List.mem_cons_self) h1⟩
    | tup e hd' => exact .inr (.inl ⟨_, rfl, ⟨_, mns_le.sqT e⟩, go _ _ (walk_dt List.mem_cons_self) h1⟩)
    | str z => exact .inr (.inr ⟨z, rfl, go _ _ walk_ds h1⟩)
    | _ => exact h1.elim⟩
/-- an owned list, walked by a comprehension -/
def dOwnI (i : Nat) : TDIg := fun ρ _ q => ownL ρ i fun items => q items (fun ρ' => ∃ x, ρ'[i]? = some x ∧ (x = .own (.lst items) ∨ x = .par (.lst items))) ρ
theorem di_own {K : PySem.W.Frag} {i : Nat} {x : Str} (h : PE X (.Name x p) (tVar i)) (hK : X.K = K := by rfl) : DIg X E tg (.Name x p) (iSeq K (tVar i)) (dOwnI i) := by
  subst hK
  exact 
  ⟨pi_seq h, fun B er π ρ σ H ws q Rr R hE hw k => by
    obtain ⟨items, x, e, ho, hq⟩ : ∃ items x, ρ[i]? = some x ∧ (x = .own (.lst items) ∨ x = .par (.lst items)) ∧ q items (fun ρ' => ∃ x, ρ'[i]? = some x ∧ (x = .own (.lst items) ∨ x = .par (.lst items))) ρ := by
      unfold dOwnI ownL at hw
      split at hw
      · rename_i ds e
        exact ⟨ds, _, e, .inl rfl, hw⟩
      · rename_i ds e
        exact ⟨ds, _, e, .inr rfl, hw⟩
      · exact hw.elim
    obtain ⟨a, o, h1, _, h3, _, t⟩ := R.at_ e ho
    have at_ : ∀ ρ' H' ws', Rel X.K B ([] ++ π) ρ' σ H' ws' → (∃ x, ρ'[i]? = some x ∧ (x = .own (.lst items) ∨ x = .par (.lst items))) → ∃ xs, SqL X.K H' a xs ∧ Das X.K (mns ws' H') xs items := fun ρ' H' ws' R' ⟨y, e', ho'⟩ => by
      obtain ⟨a', o', g1, _, g3, _, t'⟩ := R'.at_ e' ho'
      rw [h1] at g1
      cases g1
      cases t' with
      | lst hd => exact ⟨_, SqL.of g3, hd⟩
    cases t with
    | lst hd =>
      refine ⟨_, h1, .inl ⟨a, rfl, ⟨_, SqL.of h3⟩, k items _ ρ H ws (Itl X.K a) [] hq ⟨x, e, ho⟩ R ⟨fun ρ' H' ws' j R' g hj => ?_, fun ρ' H' ws' R' g => ?_, fun ρ' H' ws' j d y H2 R' g e2 yy => ?_⟩⟩⟩
      · obtain ⟨xs, s1, s2⟩ := at_ ρ' H' ws' R' g
        have hx : j < xs.length := by rw [s2.length]; exact hj
        exact ⟨xs, xs[j], s1, List.getElem?_eq_getElem hx⟩
      · obtain ⟨xs, s1, s2⟩ := at_ ρ' H' ws' R' g
        exact ⟨xs, s1, by rw [s2.length]; exact Nat.le_refl _⟩
      · obtain ⟨xs, s1, s2⟩ := at_ ρ' H' ws' R' g
        obtain ⟨rfl, yy⟩ := yy
        obtain ⟨v, ev, hv⟩ := s2.get e2
        have := yy xs s1
        rw [ev] at this
        cases this
        exact .same hv⟩
/-- ranges -/
def int1 (ds : List D) (k : Int → Prop) : Prop := match ds with
  | [.int n] => k n
  | _ => False
def int2 (ds : List D) (k : Int → Int → Prop) : Prop := match ds with
  | [.int m, .int n] => k m n
  | _ => False
theorem int1_of {ds : List D} {k : Int → Prop} (h : int1 ds k) : ∃ n, ds = [.int n] ∧ k n := by
  unfold int1 at h
  split at h
  · exact ⟨_, rfl, h⟩
  · exact h.elim
theorem int2_of {ds : List D} {k : Int → Int → Prop} (h : int2 ds k) : ∃ m n, ds = [.int m, .int n] ∧ k m n := by
  unfold int2 at h
  split at h
  · exact ⟨_, _, rfl, h⟩
  · exact h.elim
def dRng1 (u : TDA) : TDI := fun ρ er q => u ρ er fun rs ρ1 => wds rs ρ1 fun ds => int1 ds fun n => -(2 ^ 62) ≤ n ∧ n < 2 ^ 62 ∧ q ((List.range n.toNat).map fun i => .int ((0 : Int) + (i : Nat))) ρ1
def dRng2 (u : TDA) : TDI := fun ρ er q => u ρ er fun rs ρ1 => wds rs ρ1 fun ds => int2 ds fun m n => (-(2 ^ 62) ≤ m ∧ m < 2 ^ 62 ∧ -(2 ^ 62) ≤ n ∧ n < 2 ^ 62) ∧ q ((List.range (n - m).toNat).map fun i => .int (m + (i : Nat))) ρ1
theorem walk_dr {K : PySem.W.Frag} {B : Base} {π : List (V × Sl)} {lo : Int} {n : Nat} : WalkD K B π (Itr lo n) ((List.range n).map fun i => D.int (lo + (i : Nat))) := by
  have len : ((List.range n).map fun i => D.int (lo + (i : Nat))).length = n := by simp
  refine ⟨fun ρ σ H ws i R hi => by rw [len] at hi; exact hi, fun ρ σ H ws R => by rw [len]; exact Nat.le_refl _, fun ρ σ H ws i d x H' R e y => ?_⟩
  obtain ⟨rfl, rfl⟩ := y
  rw [List.getElem?_map] at e
  obtain ⟨j, ej, e⟩ := Option.map_eq_some_iff.mp e
  obtain ⟨_, ej⟩ := List.getElem?_eq_some_iff.mp ej
  rw [List.getElem_range] at ej
  subst ej
  subst e
  exact .same (.int _)
theorem di_range1 (hg : Gl X "range") (hm : X.mg "range" = none) (ha : DA X E [a] taa u) (hs : starEach [a] X.env = [(false, eval a X.env)] := by rfl) : DI X E tg (.Call (.Name "range" p) [a] [] pos) (iRng1 taa) (dRng1 u) :=
  ⟨pi_range1 hg hm ha.1 hs, fun B er π ρ σ H ws q Rr R hE hw k => ha.2 B er π ρ σ H ws _ _ R hE hw fun rs ρ1 vs H1 ws1 h1 e1 R1 => by
    obtain ⟨ds, pd, h1⟩ := wds_of R1 e1 h1
    obtain ⟨n, rfl, b1, b2, hq⟩ := int1_of h1
    cases pd with
    | cons a t =>
      cases a
      cases t
      exact ⟨n, rfl, b1, b2, k _ ρ1 H1 ws1 _ [] hq (fun p hp => absurd hp List.not_mem_nil) R1.popAll walk_dr⟩⟩
theorem di_range2 (hg : Gl X "range") (hm : X.mg "range" = none) (ha : DA X E [a, b] taa u) (hs : starEach [a, b] X.env = [(false, eval a X.env), (false, eval b X.env)] := by rfl) (hs2 : starEach [b] X.env = [(false, eval b X.env)] := by rfl) :
    DI X E tg (.Call (.Name "range" p) [a, b] [] pos) (iRng2 taa) (dRng2 u) :=
  ⟨pi_range2 hg hm ha.1 hs hs2, fun B er π ρ σ H ws q Rr R hE hw k => ha.2 B er π ρ σ H ws _ _ R hE hw fun rs ρ1 vs H1 ws1 h1 e1 R1 => by
    obtain ⟨ds, pd, h1⟩ := wds_of R1 e1 h1
    obtain ⟨m, n, rfl, bs, hq⟩ := int2_of h1
    cases pd with
    | cons a t =>
      cases a
      cases t with
      | cons a t =>
        cases a
        cases t
        exact ⟨m, n, rfl, bs, k _ ρ1 H1 ws1 _ [] hq (fun p hp => absurd hp List.not_mem_nil) R1.popAll walk_dr⟩⟩
/-! ### for -/
variable {body : List Stmt} {iter : Expr} {wi : TI} {g : TG} {tb' : TS} {tdg : TDG} {tdb : TDS} {tdi : TDI} {sl : List Nat}
def forW (g : TDG) (body : TDS) (er : Exn → Prop) (Dd : DEnds) : List D → Rho → Prop
  | [], ρ => Dd.nx ρ
  | d :: ds, ρ => g (.imm d) ρ er fun ρ1 => body { Dd with nx := forW g body er Dd ds, ct := forW g body er Dd ds, bk := Dd.nx } ρ1 er
def dFor (t : TDI) (g : TDG) (body : TDS) : TDS := fun Dd ρ er => t ρ er fun items ρ1 => forW g body er Dd items ρ1
theorem rel_suffix {K : PySem.W.Frag} {B : Base} {π pend : List (V × Sl)} {ρ : Rho} {σ : L2.St} {H : Hp} {ws : List Addr} (R : Rel K B (pend ++ π) ρ σ H ws) : Rel K B π ρ σ H ws := R.sub (List.sublist_append_right _ _)
theorem for_core {K : PySem.W.Frag} {B : Base} {er : Exn → Prop} {π : List (V × Sl)} {ρ : Rho} {σ : L2.St} {H : Hp} {ws : List Addr} {J : It} {items : List D} {Dd : DEnds} {D : Ends} (W : WalkD X.K B π J items) (R : Rel X.K B π ρ σ H ws) (nh : NoH π) (hE : EOk X.K B er E)
    (hg : DG X E tg g sl tdg) (hb : DSs X E body tb' tdb) (f : forW tdg tdb er Dd items ρ) (L : Link X.K B π Dd D) :
    ∃ Wn : Nat → Nat → L2.St → Hp → Prop, (∃ m, Wn 0 m σ H) ∧ ∀ i m τ G, Wn i m τ G → (J.stop i G ∧ D.nx τ G) ∨ (J.go i G ∧ ∃ N : L2.St → Hp → Prop, (∀ τ' G', N τ' G' → ∃ m', m' < m ∧ Wn (i + 1) m' τ' G') ∧ ∀ x G', J.yld i G x G' → g x τ G' fun τ2 G2 => tb' { D with nx := N, ct := N, bk := D.nx } τ2 G2) := by
  have w : Walk J items.length (fun H => ∃ ρ σ ws, Rel X.K B π ρ σ H ws) (fun i H x H' => ∀ ρ σ ws, Rel X.K B π ρ σ H ws → ∀ d, items[i]? = some d → Res X.K H (mns ws H) x d H') :=
    ⟨fun i H hi ⟨ρ, σ, ws, R⟩ => W.goes ρ σ H ws i R hi, fun H ⟨ρ, σ, ws, R⟩ => W.stops ρ σ H ws R, fun i H x H' _ _ y ρ σ ws R d e => W.yields ρ σ H ws i d x H' R e y⟩
  refine for_it w (fun i σ H => ∃ ρ ws, Rel X.K B π ρ σ H ws ∧ forW tdg tdb er Dd (items.drop i) ρ) ⟨ρ, ws, R, f⟩ (fun i σ H _ ⟨ρ, ws, R, _⟩ => ⟨ρ, σ, ws, R⟩) ?_ ?_
  · rintro i x σ2 H2 H3 hi ⟨ρ2, ws2, R2, f⟩ y
    rw [List.drop_eq_getElem_cons hi] at f
    have R3 := R2.res (y ρ2 σ2 ws2 R2 items[i] (List.getElem?_eq_getElem hi))
    refine hg.2 B er π ρ2 σ2 H3 ws2 x _ _ _ R3 True.intro nh hE f fun ρ3 σ3 H4 ws3 f3 R4 _ _ => ?_
    exact hb.2 B er π ρ3 σ3 H4 ws3 _ _ R4 nh hE f3 ⟨fun ρ σ H ws q R => ⟨ρ, ws, R, q⟩, L.rt, fun ρ σ H ws q R => L.nx ρ σ H ws q R, fun ρ σ H ws q R => ⟨ρ, ws, R, q⟩⟩
  · rintro σ2 H2 ⟨ρ2, ws2, R2, f⟩
    rw [List.drop_length] at f
    exact L.nx ρ2 σ2 H2 ws2 f R2
theorem Link.pend {K : PySem.W.Frag} {B : Base} {π pend : List (V × Sl)} {Dd : DEnds} {D : Ends} (L : Link K B π Dd D) : Link K B (pend ++ π) Dd D :=
  ⟨fun ρ σ H ws q R => L.nx ρ σ H ws q (rel_suffix R), fun r ρ σ v H ws q hv R => L.rt r ρ σ v H ws q hv (R.sub (List.Sublist.cons_cons _ (List.sublist_append_right _ _))), fun ρ σ H ws q R => L.bk ρ σ H ws q (rel_suffix R), fun ρ σ H ws q R => L.ct ρ σ H ws q (rel_suffix R)⟩
theorem ds_for (hp : PassesOwn (model X.prog X.w) X.A X.env X.xe) (hc : X.calm = true) (hi : DI X E tg iter wi tdi) (hg : DG X E tg g sl tdg) (hb : DSs X E body tb' tdb) (hs : ∀ x, foldedSetIterable iter X.env x = pure x := by intro _; rfl) :
    DS X E (.For tg iter body [] pos) (tFor wi g tb') (dFor tdi tdg tdb) :=
  ⟨ps_for hp hc hi.1 hg.1 hb.1 hs, fun B er π ρ σ H ws Dd D R nh hE h L => hi.2 B er π ρ σ H ws _ _ R hE h fun items ρ1 H1 ws1 J pend h1 np R1 W =>
    for_core (K := X.K) W R1 (noH_append np nh) hE hg hb h1 L.pend⟩
/-! ### while -/
def dWhile (c : TDT) (body : TDS) : TDS := fun Dd ρ er => ∃ W : Nat → Rho → Prop, (∃ m, W m ρ) ∧ ∀ m ρ, W m ρ → c ρ er fun b ρ1 => cnd b (body { Dd with nx := fun ρ2 => ∃ m', m' < m ∧ W m' ρ2, ct := fun ρ2 => ∃ m', m' < m ∧ W m' ρ2, bk := Dd.nx } ρ1 er) (Dd.nx ρ1)
theorem ds_while {c : Expr} {tt : TT} {tc : TDT} (hp : PassesOwn (model X.prog X.w) X.A X.env X.xe) (hc : DT X E c tt tc) (hb : DSs X E body tb' tdb) : DS X E (.While c body [] pos) (tWhile tt tb') (dWhile tc tdb) :=
  ⟨ps_while hp hc.1 hb.1, fun B er π ρ σ H ws Dd D R nh hE h L => by
    obtain ⟨W, ⟨m0, w0⟩, turn⟩ := h
    refine ⟨fun m σ H => ∃ ρ ws, Rel X.K B π ρ σ H ws ∧ W m ρ, ⟨m0, ρ, ws, R, w0⟩, ?_⟩
    rintro m σ1 H1 ⟨ρ1, ws1, R1, w1⟩
    refine hc.2 B er π ρ1 σ1 H1 ws1 _ _ R1 hE (turn m ρ1 w1) fun b ρ2 H2 ws2 h2 R2 => ?_
    cases b with
    | true =>
      refine iteT ⟨fun σ H => ∃ ρ ws, Rel X.K B π ρ σ H ws ∧ ∃ m', m' < m ∧ W m' ρ, fun σ' H' ⟨ρ, ws, R, m', lt, w⟩ => ⟨m', lt, ρ, ws, R, w⟩, ?_⟩
      exact hb.2 B er π ρ2 σ1 H2 ws2 _ _ R2 nh hE h2 ⟨fun ρ σ H ws q R => ⟨ρ, ws, R, q⟩, L.rt, fun ρ σ H ws q R => L.nx ρ σ H ws q R, fun ρ σ H ws q R => ⟨ρ, ws, R, q⟩⟩
    | false => exact iteF (L.nx ρ2 σ1 H2 ws2 h2 R2)⟩
end
end Dl
set_option maxRecDepth 100000
set_option maxHeartbeats 4000000
/-! the data layer: comprehensions -/
namespace Dl
open PySem PySem.Spec PyProof.Rows L2 L3
theorem wipe_eq {σ τ : L2.St} (vs : List Nat) (hl : τ.length = σ.length) (h : ∀ i, i ∉ vs → τ[i]? = σ[i]?) : wipe τ vs = wipe σ vs := by
  have at_ : ∀ (σ : L2.St) (i : Nat), i ∈ vs → (wipe σ vs)[i]? = if i < σ.length then some none else none := by
    clear h
    intro σ i hi
    induction vs with
    | nil => cases hi
    | cons v vs ih =>
      unfold wipe
      by_cases q : v = i
      · subst q
        by_cases l : v < σ.length
        · rw [List.getElem?_set_self (by rw [wipe_length]; exact l), if_pos l]
        · rw [if_neg l, List.getElem?_eq_none_iff, List.length_set, wipe_length]
          omega
      · rw [List.getElem?_set_ne q]
        exact ih (by
          rcases List.mem_cons.mp hi with z | z
          · exact (q z.symm).elim
          · exact z)
  refine List.ext_getElem? fun i => ?_
  by_cases hi : i ∈ vs
  · rw [at_ τ i hi, at_ σ i hi, hl]
  · rw [wipe_at τ i vs hi, wipe_at σ i vs hi, h i hi]
def noPar (ρ : Rho) : List Nat → Prop
  | [] => True
  | v :: vs => (match ρ[v]? with
    | some x => x.isPar = false
    | none => True) ∧ noPar ρ vs
theorem noPar_of {K : PySem.W.Frag} {B : Base} {π : List (V × Sl)} {ρ : Rho} {σ : L2.St} {H : Hp} {ws : List Addr} (R : Rel K B π ρ σ H ws) : ∀ {vs : List Nat}, noPar ρ vs → ∀ i ∈ vs, ∀ a, (i, a) ∉ B.ps
  | [], _, i, h, _ => by cases h
  | v :: vs, h, i, hi, a => by
    rcases List.mem_cons.mp hi with rfl | hi
    · intro m
      obtain ⟨_, _, d, e⟩ := R.ps i a m
      have := h.1
      rw [e] at this
      cases this
    · exact noPar_of R h.2 i hi a
def compW (gd : Rho → Prop) (g : TDG) (tt : TDT) (te : TD) (vs : List Nat) (er : Exn → Prop) (q : List D → Rho → Prop) : List D → List D → Rho → Prop
  | [], acc, ρ => gd ρ ∧ q acc ρ
  | d :: ds, acc, ρ => gd ρ ∧ g (.imm d) (wipeD ρ vs) er fun ρ2 => tt ρ2 er fun b ρ3 => cnd b (te ρ3 er fun r ρ4 => sd r ρ4 fun y => acc.length < sizeLine ∧ compW gd g tt te vs er q ds (acc ++ [y]) (wipeD ρ4 vs)) (compW gd g tt te vs er q ds acc (wipeD ρ3 vs))
theorem compW_gd {gd : Rho → Prop} {g : TDG} {tt : TDT} {te : TD} {vs : List Nat} {er : Exn → Prop} {q : List D → Rho → Prop} {ds acc : List D} {ρ : Rho} (h : compW gd g tt te vs er q ds acc ρ) : gd ρ := by
  cases ds with
  | nil => exact h.1
  | cons d ds => exact h.1
def dLc (o : Bool) (t : TDIg) (g : TDG) (tt : TDT) (te : TD) (vs : List Nat) : TD := fun ρ er q => t ρ er fun items gd ρ1 => noPar ρ1 vs ∧ compW gd g tt te vs er (fun acc ρ2 => q (mkS o (.lst acc)) (wipeD ρ2 vs)) items [] ρ1
def DTs (X : Cx) (E : XK) (es : List Expr) (tt : TT) (t : TDT) : Prop := PTs X es tt ∧ ∀ (B : Base) (er : Exn → Prop) (π : List (V × Sl)) (ρ : Rho) (σ : L2.St) (H : Hp) (ws : List Addr) (q : Bool → Rho → Prop) (Q : Bool → Hp → Prop),
  Rel X.K B π ρ σ H ws → EOk X.K B er E → t ρ er q → (∀ b ρ' H' ws', q b ρ' → Rel X.K B π ρ' σ H' ws' → Q b H') → tt σ H Q
def dYes : TDT := fun ρ _ q => q true ρ
theorem dts_nil {X : Cx} {E : XK} : DTs X E [] tYes dYes := ⟨pts_nil, fun B er π ρ σ H ws q Q R _ h k => k true ρ H ws h R⟩
theorem dts_one {X : Cx} {E : XK} {c : Expr} {tt : TT} {t : TDT} (h : DT X E c tt t) : DTs X E [c] tt t := ⟨pts_one h.1, h.2⟩
section
variable {X : Cx} {E : XK} {elt tg iter : Expr} {ifs : List Expr} {scope : Scope} {own : List (Str × Nat)} {pos : Pos} {wi : TI} {g : TG} {tt : TT} {te : TE} {tdi : TDIg} {tdg : TDG} {tdt : TDT} {tde : TD} {sl : List Nat}
theorem lc_core2 {B : Base} {er : Exn → Prop} {π pend : List (V × Sl)} {ρ : Rho} {σ : L2.St} {H : Hp} {ws : List Addr} {J : It} {items : List D} {gd : Rho → Prop} {o : Bool} {vs : List Nat} {q : Sl → Rho → Prop} {Qd : Addr → Hp → Prop}
    (hg : ∀ (s : Shared) (H : Hp) (C : Addr) (cl : List (Str × Addr)) (fp : List Addr), DG (X.blk s H scope (compEnvC scope cl C X.env) fp) E tg g sl tdg)
    (ht : ∀ (s : Shared) (H : Hp) (C : Addr) (cl : List (Str × Addr)) (fp : List Addr), DTs (X.blk s H scope (compEnvC scope cl C X.env) fp) E ifs tt tdt)
    (he : ∀ (s : Shared) (H : Hp) (C : Addr) (cl : List (Str × Addr)) (fp : List Addr), DE (X.blk s H scope (compEnvC scope cl C X.env) fp) E elt te tde)
    (hsl : ∀ i ∈ sl, i ∈ vs) (W : WalkG X.K B (pend ++ π) σ J items gd) (R1 : Rel X.K B (pend ++ π) ρ σ H ws) (hE : EOk X.K B er E) (npar : noPar ρ vs) (hq : compW gd tdg tdt tde vs er (fun acc ρ2 => q (mkS o (.lst acc)) (wipeD ρ2 vs)) items [] ρ)
    (kk : ∀ r ρ' D H' ws', q r ρ' → Rel X.K B ((.ref D, r) :: π) ρ' σ H' ws' → Qd D H') :
    ∀ D, H D = none → ∃ Wn : Nat → Nat → Hp → Prop, (∃ m, Wn 0 m (upd H D (.lst []))) ∧ ∀ i m G, Wn i m G → (J.stop i G ∧ Qd D G) ∨ (J.go i G ∧ ∃ Nx : Hp → Prop, (∀ G', Nx G' → ∃ m', m' < m ∧ Wn (i + 1) m' G') ∧ ∀ x G', J.yld i G x G' → g x (wipe σ vs) G' fun τ G2 => wipe τ vs = wipe σ vs ∧ tt τ G2 fun b G3 =>
      if b = true then te τ G3 fun y G4 => ∃ acc, G4 D = some (.lst acc) ∧ acc.length < sizeLine ∧ Nx (upd G4 D (.lst (acc ++ [y]))) else Nx G3) := by
  have Hg := (hg X.s_0 H 0 [] []).2
  have Ht := (ht X.s_0 H 0 [] []).2
  have He := (he X.s_0 H 0 [] []).2
  intro D nD
  have npB := noPar_of R1 npar
  have np2 : ∀ {π ρ σ H ws}, Rel X.K B π ρ σ H ws → ∀ i ∈ vs, ∀ d, ρ[i]? ≠ some (.par d) := fun R i hi d e => by
    obtain ⟨a, m⟩ := R.pr i d e
    exact npB i hi a m
  have w : Walk J items.length (fun H => ∃ ρ ws, Rel X.K B (pend ++ π) ρ σ H ws ∧ gd ρ) (fun i H x H' => ∀ ρ ws, Rel X.K B (pend ++ π) ρ σ H ws → gd ρ → ∀ d, items[i]? = some d → Res X.K H (mns ws H) x d H') :=
    ⟨fun i H hi ⟨ρ, ws, R, hg⟩ => W.goes ρ H ws i R hg hi, fun H ⟨ρ, ws, R, hg⟩ => W.stops ρ H ws R hg, fun i H x H' _ _ y ρ ws R hg d e => W.yields ρ H ws i d x H' R hg e y⟩
  refine lc_it w (fun i H => ∃ ρ ws acc, Rel X.K B ((.ref D, .own (.lst acc)) :: (pend ++ π)) ρ σ H ws ∧ compW gd tdg tdt tde vs er (fun acc ρ2 => q (mkS o (.lst acc)) (wipeD ρ2 vs)) (items.drop i) acc ρ) ?_ ?_ ?_ ?_
  · exact ⟨ρ, _, [], R1.allocO nD True.intro (.lst .nil), hq⟩
  · rintro i H _ ⟨ρ, ws, acc, R, f⟩
    exact ⟨ρ, ws, R.pop, compW_gd f⟩
  · rintro i x H2 H3 hi ⟨ρ2, ws2, acc, R2, f⟩ y
    rw [List.drop_eq_getElem_cons hi] at f
    obtain ⟨g2, f⟩ := f
    have handles : ∀ v j, (v, Sl.slot j) ∈ (V.ref D, Sl.own (.lst acc)) :: (pend ++ π) → σ[j]? = some (some v) := fun v j m => R2.pn _ m
    have R3 := R2.res (d := items[i]) (H1 := H3) (v := x) (by
      have r := y ρ2 ws2 R2.pop g2 items[i] (List.getElem?_eq_getElem hi)
      exact r)
    have R4 := (R3.unh).reslot unh_noH vs (np2 R3) (σ' := wipe σ vs) (wipe_length σ vs) fun j hj => wipe_at σ j vs hj
    have nh : NoH (unh ((V.ref D, Sl.own (.lst acc)) :: (pend ++ π))) := unh_noH
    refine Hg B er _ _ _ H3 ws2 x (.imm items[i]) _ _ R4 True.intro nh hE f fun ρ3 σ3 H4 ws3 f3 R5 hl hsame => ?_
    have same : ∀ j, j ∉ vs → σ3[j]? = σ[j]? := fun j hj => by
      rw [hsame j fun m => hj (hsl j m), wipe_at σ j vs hj]
    have len3 : σ3.length = σ.length := by rw [hl, wipe_length]
    refine ⟨wipe_eq vs len3 same, Ht B er _ ρ3 σ3 H4 ws3 _ _ R5 hE f3 fun b ρ4 H5 ws4 f4 R6 => ?_⟩
    have back : ∀ {ρ H ws d}, Rel X.K B ((V.ref D, Sl.own d) :: unh (pend ++ π)) ρ σ3 H ws → Rel X.K B ((V.ref D, Sl.own d) :: (pend ++ π)) (wipeD ρ vs) σ H ws := fun {ρ H ws d} R => by
      have r1 := R.reslot (nh := fun p hp j z => by
        rcases List.mem_cons.mp hp with rfl | hp
        · cases z
        · exact unh_noH p hp j z) vs (np2 R) (σ' := σ) len3.symm fun j hj => (same j hj).symm
      refine Rel.reh (π := (V.ref D, Sl.own d) :: (pend ++ π)) r1 (fun v j m => ?_) fun p hp dd z => ?_
      · rcases List.mem_cons.mp m with m | m
        · cases m
        · exact handles v j (List.mem_cons_of_mem _ m)
      · rcases List.mem_cons.mp hp with rfl | hp
        · cases z
        · exact R2.npp p (List.mem_cons_of_mem _ hp) dd z
    cases b with
    | true =>
      refine iteT (He B er _ ρ4 σ3 H5 ws4 _ _ R6 hE f4 fun r ρ5 v H6 ws5 f5 R7 => ?_)
      obtain ⟨d, hd, hz, f5⟩ := sd_of R7 List.mem_cons_self f5
      obtain ⟨a, ob, ea, am, an, ho, mu, t⟩ := R7.pop.top
      cases ea
      cases t with
      | lst hds => exact ⟨_, ho, by rw [hds.length]; exact hz, _, ws5, acc ++ [d], back (R7.pop.mutTop True.intro (.lst (hds.snoc hd))), f5⟩
    | false => exact iteF ⟨_, ws4, acc, back R6, f4⟩
  · rintro H2 ⟨ρ2, ws2, acc, R2, f⟩
    rw [List.drop_length] at f
    obtain ⟨_, f⟩ := f
    have R3 : Rel X.K B ((V.ref D, Sl.own (.lst acc)) :: π) ρ2 σ H2 ws2 := R2.sub (List.Sublist.cons_cons _ (List.sublist_append_right _ _))
    have R4 : Rel X.K B ((V.ref D, Sl.own (.lst acc)) :: π) (wipeD ρ2 vs) σ H2 ws2 :=
      Rel.reh (R3.unh.reslot unh_noH vs (np2 R3) rfl fun _ _ => rfl) (fun v j m => R3.pn _ m) R3.npp
    cases o with
    | true => exact kk _ _ _ _ _ f R4
    | false =>
      obtain ⟨ws3, R5⟩ := R4.freeze
      exact kk _ _ _ _ _ f R5
theorem de_lc (o : Bool) (hc : X.calm = true) (hN : X.N.Nodup) (hi : DIg X E tg iter wi tdi) (ok : BlkOk X.N X.env.scope scope own)
    (hg : ∀ (s : Shared) (H : Hp) (C : Addr) (cl : List (Str × Addr)) (fp : List Addr), DG (X.blk s H scope (compEnvC scope cl C X.env) fp) E tg g sl tdg)
    (ht : ∀ (s : Shared) (H : Hp) (C : Addr) (cl : List (Str × Addr)) (fp : List Addr), DTs (X.blk s H scope (compEnvC scope cl C X.env) fp) E ifs tt tdt)
    (he : ∀ (s : Shared) (H : Hp) (C : Addr) (cl : List (Str × Addr)) (fp : List Addr), DE (X.blk s H scope (compEnvC scope cl C X.env) fp) E elt te tde)
    (hsl : ∀ i ∈ sl, i ∈ own.map (·.2) := by decide) (hs : ∀ x, foldedSetIterable iter X.env x = pure x := by intro _; rfl) :
    DE X E (.ListComp elt [⟨tg, iter, ifs, 0⟩] scope pos) (tLc wi g tt te (own.map (·.2))) (dLc o tdi tdg tdt tde (own.map (·.2))) :=
  ⟨pe_lc hc hN hi.1 ok (fun s H C cl fp => (hg s H C cl fp).1) (fun s H C cl fp => (ht s H C cl fp).1) (fun s H C cl fp => (he s H C cl fp).1) hs, fun B er π ρ σ H ws q Q R hE hw kk =>
    hi.2 B er π ρ σ H ws _ _ R hE hw fun items gd ρ1 H1 ws1 J pend hq _ R1 W => lc_core2 (Qd := fun D H => Q (.ref D) H) hg ht he hsl W R1 hE hq.1 hq.2 fun r ρ' D H' ws' h R' => kk r ρ' _ H' ws' h R'⟩
end
end Dl
set_option maxRecDepth 100000
set_option maxHeartbeats 4000000
/-! the data layer: defs and their calls -/
namespace Dl
open PySem PySem.Spec PyProof.Rows L2 L3 LamX
abbrev TF := List Sl → (Exn → Prop) → (Sl → Rho → Prop) → Prop
def spD (K : PySem.W.Frag) (n : Nat) (t : TF) : Sp := fun vs H Q E => ∃ (B : Base) (args : List Sl) (ws : List Addr) (er : Exn → Prop) (q : Sl → Rho → Prop), B.H0 = H ∧ B.ws0 = ws ∧ args.length = n ∧ Rel K B [] args (vs.map some) H ws ∧ EOk K B er E ∧ t args er q ∧
  ∀ r ρ σ v H' ws', q r ρ → r.val → Rel K B [(v, r)] ρ σ H' ws' → Q v H'
theorem spD_len {K : PySem.W.Frag} {n : Nat} {t : TF} {vs : List V} {H : Hp} {Q : VK} {E : XK} (h : spD K n t vs H Q E) : vs.length = n := by
  obtain ⟨B, args, ws, er, q, _, _, hl, R, _⟩ := h
  have := R.len
  rw [hl, List.length_map] at this
  exact this.symm
section
variable {K : PySem.W.Frag} {B : Base} {π : List (V × Sl)} {ρ : Rho} {σ : L2.St} {H H' : Hp} {ws ws2 : List Addr} {v : V} {x : Sl} {d : D} {p : Addr} {o : HO}
theorem Rel.ext (R : Rel K B [] ρ σ H ws) (n : Nat) : Rel K B [] (ρ ++ List.replicate n .no) (σ ++ List.replicate n none) H ws := by
  have get : ∀ {i : Nat} {x : Sl}, (ρ ++ List.replicate n .no)[i]? = some x → x ≠ .no → ρ[i]? = some x ∧ (σ ++ List.replicate n none)[i]? = σ[i]? := fun {i x} e ne => by
    by_cases q : i < ρ.length
    · rw [List.getElem?_append_left q] at e
      exact ⟨e, List.getElem?_append_left (by rw [← R.len]; exact q)⟩
    · rw [List.getElem?_append_right (by omega), List.getElem?_replicate] at e
      split at e
      · cases e; exact (ne rfl).elim
      · cases e
  have ent : ∀ {w : V} {z : Sl}, (∀ j, z ≠ .slot j) → Ent K B σ H ws w z → Ent K B (σ ++ List.replicate n none) H ws w z := fun {w z} nn h => by
    cases z with
    | slot j => exact (nn j rfl).elim
    | _ => exact h
  have own : ∀ {z : Sl}, z.isOwn → z ≠ .no := fun h z => by rw [z] at h; exact h
  refine { R with len := by simp [R.len], sl := fun i x e ne => ?_, nsl := fun i j e => R.nsl i j (get e (fun z => nomatch z)).1, pn := fun p hp => absurd hp List.not_mem_nil, apS := fun i j y z v w e1 e2 h1 h2 e3 e4 ne => ?_, apX := fun p hp => absurd hp List.not_mem_nil, ps := fun i a m => ?_, pr := fun i d e => R.pr i d (get e (fun z => nomatch z)).1 }
  · obtain ⟨h1, h2⟩ := get e ne
    obtain ⟨w, h3, h4⟩ := R.sl i x h1 ne
    exact ⟨w, by rw [h2]; exact h3, ent (fun k y => R.nsl i k (by rw [h1, y])) h4⟩
  · obtain ⟨a1, b1⟩ := get e1 (own h1)
    obtain ⟨a2, b2⟩ := get e2 (own h2)
    rw [b1] at e3
    rw [b2] at e4
    exact R.apS i j y z v w a1 a2 h1 h2 e3 e4 ne
  · obtain ⟨h1, h2, d, h3⟩ := R.ps i a m
    have hi : i < ρ.length := (List.getElem?_eq_some_iff.mp h3).1
    exact ⟨h1, by rw [List.getElem?_append_left (by rw [← R.len]; exact hi)]; exact h2, d, by rw [List.getElem?_append_left hi]; exact h3⟩
theorem Rel.parN {a d st : Addr} {o : HO} (R : Rel K B π ρ σ H ws) (m : a ∈ B.ws0) (mu : Mut (some o)) (ho : H a = some o) (e : B.dr = some (d, st)) (np : ∃ i, (i, a) ∈ B.ps) : a ≠ d ∧ a ≠ st := by
  obtain ⟨i, np⟩ := np
  obtain ⟨_, _, _, h⟩ := R.dr d st e
  exact h i a np
/-- the heap goes on: all that is not the draws' is kept -/
theorem Rel.heap (R : Rel K B π ρ σ H ws) (hk : ∀ b o, H b = some o → (∀ d st, B.dr = some (d, st) → b ≠ d ∧ b ≠ st) → (∀ ps, o ≠ .tbl ps) → H' b = some o) (htab : ∀ P q, LamX.TabS H P q → LamX.TabS H' P q) (hst : ∀ b, H b ≠ none → H' b ≠ none) (hdr : ∀ d st, B.dr = some (d, st) → Dr d st H') (sub : ∀ a ∈ ws, a ∈ ws2) (nw : ∀ a ∈ ws2, a ∈ ws ∨ (H a = none ∧ H' a ≠ none)) : Rel K B π ρ σ H' ws2 := by
  have nd : ∀ b, b ∉ ws → ∀ d st, B.dr = some (d, st) → b ≠ d ∧ b ≠ st := fun b n d st e => by
    obtain ⟨h1, h2, _⟩ := R.dr d st e
    exact ⟨fun z => n (z ▸ R.wg d h1), fun z => n (z ▸ R.wg st h2)⟩
  have l : Le (mns ws H) (mns ws2 H') := .ofN fun b u e n2 => by
    obtain ⟨n, q⟩ := mns_some e
    refine mns_of (fun z => ?_) (hk b u q (nd b n) n2)
    rcases nw b z with z | z
    · exact n z
    · rw [z.1] at q; cases q
  have g : ∀ {v x}, Ent K B σ H ws v x → (∀ d, x = .par d → ∃ i a, v = .ref a ∧ (i, a) ∈ B.ps) → Ent K B σ H' ws2 v x := fun {v x} h hx => by
    cases x with
    | no => trivial
    | imm d => exact Da.le l h
    | own d =>
      obtain ⟨a, o, e, m, n, ho, mu, t⟩ := h
      refine ⟨a, o, e, sub a m, n, hk a o ho (fun d st e => ?_) t.off.1, mu, t.le l⟩
      obtain ⟨h1, h2, _⟩ := R.dr d st e
      exact ⟨fun z => R.w0 d h1 (by rw [← z]; exact n), fun z => R.w0 st h2 (by rw [← z]; exact n)⟩
    | par d =>
      obtain ⟨i, a', rfl, hm⟩ := hx d rfl
      obtain ⟨a, o, e, m, n, ho, mu, t⟩ := h
      cases e
      exact ⟨_, o, rfl, sub _ m, n, hk _ o ho (fun d st e => R.parN n mu ho e ⟨i, hm⟩) t.off.1, mu, t.le l⟩
    | drw => exact h
    | slot i => exact h
  have up := hst
  refine { R with sl := fun i x e n => ?_, pn := fun p hp => g (R.pn p hp) fun d z => (R.npp p hp d z).elim, wl := fun a m => ?_, wg := fun a m => sub a (R.wg a m), keep := fun a o e n n2 => hk a o (R.keep a o e n n2) (fun d st e1 => ?_) n2, tab := fun P q t => htab P q (R.tab P q t), stay := fun a n => up a (R.stay a n), wsH := fun a m => ?_, dr := fun d st e => ?_ }
  · obtain ⟨v, h1, h2⟩ := R.sl i x e n
    refine ⟨v, h1, g h2 fun d z => ?_⟩
    subst z
    obtain ⟨a, hm⟩ := R.pr i d e
    obtain ⟨_, h3, _⟩ := R.ps i a hm
    rw [h1] at h3
    cases h3
    exact ⟨i, a, rfl, hm⟩
  · rcases nw a m with q | q
    · exact R.wl a q
    · right
      cases z : B.H0 a with
      | none => rfl
      | some u => exact (R.stay a (by rw [z]; simp) q.1).elim
  · unfold Base.P at n
    rw [e1] at n
    exact ⟨fun z => n (List.mem_append.mpr (.inr (by simp [z]))), fun z => n (List.mem_append.mpr (.inr (by simp [z])))⟩
  · rcases nw a m with q | q
    · exact up a (R.wsH a q)
    · exact q.2
  · obtain ⟨h1, h2, _, h4⟩ := R.dr d st e
    exact ⟨h1, h2, hdr d st e, h4⟩
/-- an object that came of a call is owned -/
theorem Rel.adopt (R : Rel K B π ρ σ H ws) (m : p ∈ ws) (n : B.H0 p = none) (ho : H p = some o) (mu : Mut (some o)) (t : Top K (mns ws H) o d) (h1 : ∀ (i : Nat) (x : Sl) (v : V), ρ[i]? = some x → x.isOwn → σ[i]? = some (some v) → v ≠ .ref p) (h2 : ∀ q ∈ π, q.2.isOwn → q.1 ≠ .ref p) :
    Rel K B ((.ref p, .own d) :: π) ρ σ H ws := by
  refine { R with pn := fun q hq => ?_, npp := fun q hq d z => ?_, apP := List.pairwise_cons.mpr ⟨fun q hq _ h z => h2 q hq h z.symm, R.apP⟩, apX := fun q hq h i x v e ho' e' => ?_ }
  · rcases List.mem_cons.mp hq with rfl | hq
    · exact ⟨p, o, rfl, m, n, ho, mu, t⟩
    · exact R.pn q hq
  · rcases List.mem_cons.mp hq with rfl | hq
    · cases z
    · exact R.npp q hq d z
  · rcases List.mem_cons.mp hq with rfl | hq
    · exact fun z => h1 i x v e ho' e' z.symm
    · exact R.apX q hq h i x v e ho' e'
end
section
variable {P : Program} {w : World} {K : PySem.W.Frag} {mg : Str → Option Value} {base : Heap} {CX : CXT} {k : Nat} {f : Addr} {name qual : Str} {params : Arguments} {body : List Stmt} {scope : Scope} {dV kV doc pm cdv ct oc : Value} {an od : Option Addr} {osl : Array (Option Value)} {N ps : List Str} {tb : TDS}
def dBody (n : Nat) (tb : TDS) : TF := fun args er q => tb { nx := fun ρ => q (.imm .non) ρ, rt := q } (args ++ List.replicate n .no) er
theorem fn_d (lk : K.lookup f = some ⟨oc, od, .func (PySem.W.fnOf name qual params body scope dV kV doc pm an cdv ct), osl⟩) (hcd : PySem.W.codeIn K cdv qual = true) (S : FnScope N ps scope)
    (h : ∀ (A : Around) (outer : List Env) (s : Shared) (H : Hp) (E : XK), (A.deeper (envOfC qual scope s.heap.objs.size f cdv)).guards = some [] → Room k (A.deeper (envOfC qual scope s.heap.objs.size f cdv)) →
      ∃ ts, DSs (cxOf CX P w K mg base N qual scope f cdv A outer s H E) E body ts tb) :
    FnG P w K mg base CX (k + 1) f (PySem.W.fnOf name qual params body scope dV kV doc pm an cdv ct) ps (spD K ps.length (dBody (N.length - ps.length) tb)) :=
  fn_g lk hcd S (fun vs H Q E h => spD_len h) fun A outer s H vs Q E gd hr hs => by
    obtain ⟨ts, hp, tr⟩ := h A outer s H E gd hr
    refine ⟨ts, hp, ?_⟩
    have hlv := spD_len hs
    obtain ⟨B, args, ws, er, q, rfl, rfl, hl, R, hE, ht, post⟩ := hs
    have R2 := R.ext (N.length - ps.length)
    refine tr B er [] _ _ _ _ _ _ (by unfold L2.start; rw [hlv]; exact R2) (fun p hp => absurd hp List.not_mem_nil) hE ht ⟨fun ρ σ H ws q' R' => post _ ρ σ _ H ws q' True.intro (R'.imm .non), fun r ρ σ v H ws q' hv R' => post r ρ σ v H ws q' hv R', fun _ _ _ _ z => z.elim, fun _ _ _ _ z => z.elim⟩
end
end Dl
set_option maxRecDepth 100000
set_option maxHeartbeats 4000000
/-! the data layer: calls of defs -/
namespace Dl
open PySem PySem.Spec PyProof.Rows L2 L3 LamX
/-! ### sorts of things -/
def D.hd : D → Nat
  | .lst _ => 1
  | .dct _ => 2
  | .set _ => 3
  | .ins _ _ => 4
  | _ => 0
def hoK : HO → Nat
  | .lst _ => 1
  | .dK _ => 2
  | .set _ _ => 3
  | .ins _ _ _ => 4
  | _ => 0
mutual
/-- nothing of the sort n is within -/
def D.noN (n : Nat) : D → Bool
  | .lst xs => n != 1 && D.noNs n xs
  | .tup xs => D.noNs n xs
  | .dct ps => n != 2 && D.noNp n ps
  | .set _ => n != 3
  | .ins _ ps => n != 4 && D.noNf n ps
  | _ => true
def D.noNs (n : Nat) : List D → Bool
  | [] => true
  | d :: ds => D.noN n d && D.noNs n ds
def D.noNp (n : Nat) : List (Key × D) → Bool
  | [] => true
  | (_, d) :: ds => D.noN n d && D.noNp n ds
def D.noNf (n : Nat) : List (Str × D) → Bool
  | [] => true
  | (_, d) :: ds => D.noN n d && D.noNf n ds
end
/-- .. below the thing itself -/
def D.noNt (n : Nat) : D → Bool
  | .lst xs => D.noNs n xs
  | .tup xs => D.noNs n xs
  | .dct ps => D.noNp n ps
  | .ins _ ps => D.noNf n ps
  | _ => true
theorem noNp_map (n : Nat) : ∀ ps : List (Key × D), D.noNp n ps = D.noNs n (ps.map (·.2))
  | [] => rfl
  | (_, d) :: ps => by
    show (D.noN n d && D.noNp n ps) = (D.noN n d && D.noNs n (ps.map (·.2)))
    rw [noNp_map n ps]
theorem noNf_map (n : Nat) : ∀ ps : List (Str × D), D.noNf n ps = D.noNs n (ps.map (·.2))
  | [] => rfl
  | (_, d) :: ps => by
    show (D.noN n d && D.noNf n ps) = (D.noN n d && D.noNs n (ps.map (·.2)))
    rw [noNf_map n ps]
def BoOk (G : Hp) (bs : List Addr) (ns : List Nat) : Prop := ∀ b ∈ bs, ∃ o, G b = some o ∧ hoK o ≠ 0 ∧ hoK o ∈ ns
section
variable {K : PySem.W.Frag} {G : Hp} {bs : List Addr} {ns : List Nat}
theorem sqT_out (hb : BoOk G bs ns) {a : Addr} {xs : List V} (e : SqT K G a xs) : SqT K (mns bs G) a xs := by
  rcases e with (e | ⟨ob, e⟩) | e
  · exact .inl (.inl (mns_of (fun m => by obtain ⟨o, h1, h2, _⟩ := hb a m; rw [e] at h1; cases h1; exact h2 rfl) e))
  · exact .inl (.inr ⟨ob, mns_of (fun m => by obtain ⟨o, h1, h2, _⟩ := hb a m; rw [e] at h1; cases h1; exact h2 rfl) e⟩)
  · exact .inr e
theorem noN_lst {ds : List D} (p : ∀ n ∈ ns, (D.lst ds).noN n = true) : 1 ∉ ns ∧ ∀ n ∈ ns, D.noNs n ds = true :=
  ⟨fun m => by have := p 1 m; simp [D.noN] at this, fun n m => by have := p n m; simp only [D.noN, Bool.and_eq_true] at this; exact this.2⟩
theorem noN_dct {ds : List (Key × D)} (p : ∀ n ∈ ns, (D.dct ds).noN n = true) : 2 ∉ ns ∧ ∀ n ∈ ns, D.noNs n (ds.map (·.2)) = true :=
  ⟨fun m => by have := p 2 m; simp [D.noN] at this, fun n m => by have := p n m; simp only [D.noN, Bool.and_eq_true] at this; rw [← noNp_map]; exact this.2⟩
theorem noN_set {ds : List Int} (p : ∀ n ∈ ns, (D.set ds).noN n = true) : 3 ∉ ns := fun m => by have := p 3 m; simp [D.noN] at this
theorem noN_ins {C : Addr} {ds : List (Str × D)} (p : ∀ n ∈ ns, (D.ins C ds).noN n = true) : 4 ∉ ns ∧ ∀ n ∈ ns, D.noNs n (ds.map (·.2)) = true :=
  ⟨fun m => by have := p 4 m; simp [D.noN] at this, fun n m => by have := p n m; simp only [D.noN, Bool.and_eq_true] at this; rw [← noNf_map]; exact this.2⟩
theorem noN_cons {d : D} {ds : List D} (p : ∀ n ∈ ns, D.noNs n (d :: ds) = true) : (∀ n ∈ ns, d.noN n = true) ∧ ∀ n ∈ ns, D.noNs n ds = true := by
  have q : ∀ n ∈ ns, d.noN n = true ∧ D.noNs n ds = true := fun n m => by have := p n m; simp only [D.noNs, Bool.and_eq_true] at this; exact this
  exact ⟨fun n m => (q n m).1, fun n m => (q n m).2⟩
theorem bo_off (hb : BoOk G bs ns) {a : Addr} {o : HO} (e : G a = some o) (h : hoK o ∉ ns) : mns bs G a = some o := mns_of (fun m => by
  obtain ⟨o', h1, h2, h3⟩ := hb a m
  rw [e] at h1
  cases h1
  exact h h3) e
theorem bo_frz (hb : BoOk G bs ns) {a : Addr} {ob : Obj} {o : HO} (e : G a = some (.frz ob o)) : mns bs G a = some (.frz ob o) := mns_of (fun m => by
  obtain ⟨o', h1, h2, h3⟩ := hb a m
  rw [e] at h1
  cases h1
  exact h2 rfl) e
mutual
theorem Da.out (hb : BoOk G bs ns) : ∀ {v : V} {d : D}, Da K G v d → (∀ n ∈ ns, d.noN n = true) → Da K (mns bs G) v d
  | _, _, .non, _ => .non
  | _, _, .bl b, _ => .bl b
  | _, _, .int i, _ => .int i
  | _, _, .str x, _ => .str x
  | _, _, .lst e h, p => .lst (bo_off hb e (noN_lst p).1) (Das.out hb h (noN_lst p).2)
  | _, _, .tup e h, p => .tup (sqT_out hb e) (Das.out hb h p)
  | _, _, .dct e k h, p => .dct (e.elim (fun e => .inl (bo_off hb e (noN_dct p).1)) fun ⟨ob, e⟩ => .inr ⟨ob, bo_frz hb e⟩) k (Das.out hb h (noN_dct p).2)
  | _, _, .set e m z, p => .set (bo_off hb e (noN_set p)) m z
  | _, _, .ins e k h, p => .ins (bo_off hb e (noN_ins p).1) k (Das.out hb h (noN_ins p).2)
theorem Das.out (hb : BoOk G bs ns) : ∀ {vs : List V} {ds : List D}, Das K G vs ds → (∀ n ∈ ns, D.noNs n ds = true) → Das K (mns bs G) vs ds
  | _, _, .nil, _ => .nil
  | _, _, .cons h t, p => .cons (Da.out hb h (noN_cons p).1) (Das.out hb t (noN_cons p).2)
end
theorem Top.out (hb : BoOk G bs ns) {o : HO} {d : D} (t : Top K G o d) (p : ∀ n ∈ ns, d.noNt n = true) : Top K (mns bs G) o d := by
  cases t with
  | lst h => exact .lst (h.out hb p)
  | tup h => exact .tup (h.out hb p)
  | dct k h => exact .dct k (h.out hb fun n m => by rw [← noNp_map]; exact p n m)
  | set m z => exact .set m z
  | ins k h => exact .ins k (h.out hb fun n m => by rw [← noNf_map]; exact p n m)
theorem top_kind {o : HO} {d : D} (mu : Mut (some o)) (t : Top K G o d) : hoK o = d.hd ∧ hoK o ≠ 0 := by
  cases t with
  | tup h => exact mu.elim
  | lst h => exact ⟨rfl, by simp [hoK]⟩
  | dct k h => exact ⟨rfl, by simp [hoK]⟩
  | set m z => exact ⟨rfl, by simp [hoK]⟩
  | ins k h => exact ⟨rfl, by simp [hoK]⟩
end
/-! ### arguments -/
/-- an argument: data or the draws; an object of a slot, to be changed; one that is only read -/
inductive Ar where
  | val (x : Sl) | chg (i : Nat) (d : D) | bor (i : Nat) (d : D)
def Ar.sl : Ar → Sl
  | .val x => x
  | .chg _ d => .par d
  | .bor _ d => .imm d
def useS : List Ar → List Nat
  | [] => []
  | .val _ :: as => useS as
  | .chg i _ :: as => i :: useS as
  | .bor i _ :: as => i :: useS as
def kindsB : List Ar → List Nat
  | [] => []
  | .bor _ d :: as => d.hd :: kindsB as
  | .val _ :: as => kindsB as
  | .chg _ _ :: as => kindsB as
def arC (c : Bool) (r : Sl) (ρ : Rho) (k : Ar → Prop) : Prop := match rsv r ρ with
  | .imm d => c = false ∧ k (.val (.imm d))
  | .drw => k (.val .drw)
  | .own d => (match r with | .slot i => k (cond c (.chg i d) (.bor i d)) | _ => False)
  | .par d => (match r with | .slot i => k (cond c (.chg i d) (.bor i d)) | _ => False)
  | _ => False
def argC : List Bool → List Sl → Rho → (List Ar → Prop) → Prop
  | c :: cs, r :: rs, ρ, k => arC c r ρ fun a => argC cs rs ρ fun as => k (a :: as)
  | [], [], _, k => k []
  | _, _, _, _ => False
def ArgOk (K : PySem.W.Frag) (B : Base) (G : Hp) (v : V) (x : Sl) : Prop := (∃ d, x = .imm d ∧ Da K G v d) ∨ (x = .drw ∧ ∃ d st, B.dr = some (d, st) ∧ v = .ref d)
def SlotOb (K : PySem.W.Frag) (B : Base) (ρ : Rho) (σ : L2.St) (H : Hp) (ws : List Addr) (i : Nat) (d : D) (a : Addr) : Prop :=
  ∃ x o, ρ[i]? = some x ∧ (x = .own d ∨ x = .par d) ∧ σ[i]? = some (some (.ref a)) ∧ a ∈ ws ∧ H a = some o ∧ Mut (some o) ∧ Top K (mns ws H) o d
def ArOk (K : PySem.W.Frag) (B : Base) (ρ : Rho) (σ : L2.St) (H : Hp) (ws : List Addr) (v : V) : Ar → Prop
  | .val x => ArgOk K B (mns ws H) v x
  | .chg i d => ∃ a, v = .ref a ∧ SlotOb K B ρ σ H ws i d a
  | .bor i d => ∃ a, v = .ref a ∧ SlotOb K B ρ σ H ws i d a
section
variable {K : PySem.W.Frag} {B : Base} {π : List (V × Sl)} {ρ : Rho} {σ : L2.St} {H H' : Hp} {ws ws' : List Addr} {v : V} {x r : Sl} {d : D} {ρ' : Rho} {σ' : L2.St} {π' : List (V × Sl)}
theorem Rel.slotOb {i : Nat} (R : Rel K B π ρ σ H ws) (e : ρ[i]? = some x) (h : x = .own d ∨ x = .par d) (ev : σ[i]? = some (some v)) : ∃ a, v = .ref a ∧ SlotOb K B ρ σ H ws i d a := by
  obtain ⟨a, o, h1, h2, h3, h4, h5⟩ := R.at_ e h
  rw [ev] at h1
  cases h1
  exact ⟨a, rfl, x, o, e, h, ev, h2, h3, h4, h5⟩
theorem arC_of {c : Bool} {k : Ar → Prop} (R : Rel K B π ρ σ H ws) (m : (v, r) ∈ π) (h : arC c r ρ k) : ∃ a, ArOk K B ρ σ H ws v a ∧ k a := by
  have t := R.pn _ m
  have slot : ∀ i d, r = .slot i → (ρ[i]?).getD .no = .own d ∨ (ρ[i]?).getD .no = .par d → k (cond c (.chg i d) (.bor i d)) → ∃ a, ArOk K B ρ σ H ws v a ∧ k a := fun i d er e hk => by
    clear h
    subst er
    have t' : σ[i]? = some (some v) := t
    have : ∃ x, ρ[i]? = some x ∧ (x = .own d ∨ x = .par d) := by
      cases q : ρ[i]? with
      | none => rw [q] at e; rcases e with e | e <;> cases e
      | some x => rw [q] at e; exact ⟨x, rfl, e⟩
    obtain ⟨x, e1, e2⟩ := this
    obtain ⟨a, hv, s⟩ := R.slotOb e1 e2 t'
    cases c with
    | true => exact ⟨.chg i d, ⟨a, hv, s⟩, hk⟩
    | false => exact ⟨.bor i d, ⟨a, hv, s⟩, hk⟩
  have get : ∀ i y, r = .slot i → (ρ[i]?).getD .no = y → y ≠ .no → Ent K B σ H ws v y := fun i y er e n => by
    subst er
    have t' : σ[i]? = some (some v) := t
    cases q : ρ[i]? with
    | none => rw [q] at e; exact (n e.symm).elim
    | some x =>
      rw [q] at e
      obtain rfl : x = y := e
      obtain ⟨w, h1, h2⟩ := R.sl i x q n
      rw [t'] at h1
      cases h1
      exact h2
  unfold arC at h
  split at h
  · rename_i d e
    refine ⟨.val (.imm d), .inl ⟨d, rfl, ?_⟩, h.2⟩
    cases r with
    | slot i => exact get i _ rfl e (fun z => nomatch z)
    | imm d' => cases e; exact t
    | _ => cases e
  · rename_i e
    refine ⟨.val .drw, .inr ⟨rfl, ?_⟩, h⟩
    cases r with
    | slot i => exact get i _ rfl e (fun z => nomatch z)
    | drw => exact t
    | _ => cases e
  · rename_i d e
    cases r with
    | slot i => exact slot i d rfl (.inl e) h
    | _ => exact h.elim
  · rename_i d e
    cases r with
    | slot i => exact slot i d rfl (.inr e) h
    | _ => exact h.elim
  · exact h.elim
theorem argC_of : ∀ {cs : List Bool} {vs : List V} {rs : List Sl} {π : List (V × Sl)} {k : List Ar → Prop}, Rel K B (pushAll vs rs π) ρ σ H ws → vs.length = rs.length → argC cs rs ρ k → ∃ as, Paired (ArOk K B ρ σ H ws) vs as ∧ k as
  | [], [], [], _, _, _, _, h => ⟨[], .nil, h⟩
  | [], [], _ :: _, _, _, _, e, _ => by cases e
  | [], _ :: _, [], _, _, _, e, _ => by cases e
  | [], _ :: _, _ :: _, _, _, _, _, h => h.elim
  | _ :: _, _, [], _, _, _, _, h => h.elim
  | _ :: _, [], _ :: _, _, _, _, e, _ => by cases e
  | c :: cs, v :: vs, r :: rs, π, k, R, e, h => by
    obtain ⟨x, hx, h⟩ := arC_of R (pushAll_keep (vs := vs) (rs := rs) (π := (v, r) :: π) List.mem_cons_self) h
    obtain ⟨as, p, h⟩ := argC_of (vs := vs) (rs := rs) R (by simpa using e) h
    exact ⟨x :: as, .cons hx p, h⟩
theorem Rel.apart {i j : Nat} {d e : D} {a : Addr} (R : Rel K B π ρ σ H ws) (h1 : SlotOb K B ρ σ H ws i d a) (h2 : SlotOb K B ρ σ H ws j e a) : i = j := by
  obtain ⟨x, o, a1, a2, a3, a4, _⟩ := h1
  obtain ⟨y, u, b1, b2, b3, b4, _⟩ := h2
  refine Classical.byContradiction fun ne => ?_
  have own : ∀ {i : Nat} {d : D}, ρ[i]? = some (.own d) → σ[i]? = some (some (.ref a)) → B.H0 a = none := fun {i d} e1 e2 => by
    obtain ⟨w, f1, f2⟩ := R.sl i _ e1 (fun z => nomatch z)
    rw [e2] at f1
    cases f1
    obtain ⟨b, _, q, _, n, _⟩ := f2
    cases q
    exact n
  have par : ∀ {i : Nat} {d : D}, ρ[i]? = some (.par d) → σ[i]? = some (some (.ref a)) → (i, a) ∈ B.ps ∧ B.H0 a ≠ none := fun {i d} e1 e2 => by
    obtain ⟨b, m⟩ := R.pr i d e1
    obtain ⟨m2, f, _⟩ := R.ps i b m
    rw [e2] at f
    cases f
    exact ⟨m, R.w0 _ m2⟩
  rcases a2 with rfl | rfl <;> rcases b2 with rfl | rfl
  · exact R.apS i j _ _ _ _ a1 b1 trivial trivial a3 b3 ne rfl
  · exact (par b1 b3).2 (own a1 a3)
  · exact (par a1 a3).2 (own b1 b3)
  · exact ne (R.psd i j a (par a1 a3).1 (par b1 b3).1)
theorem Rel.offDr {i : Nat} {d : D} {a e st : Addr} (R : Rel K B π ρ σ H ws) (h : SlotOb K B ρ σ H ws i d a) (ed : B.dr = some (e, st)) : a ≠ e ∧ a ≠ st := by
  obtain ⟨x, o, a1, a2, a3, a4, _⟩ := h
  obtain ⟨s1, s2, _, s4⟩ := R.dr e st ed
  rcases a2 with rfl | rfl
  · obtain ⟨w, f1, f2⟩ := R.sl i _ a1 (fun z => nomatch z)
    rw [a3] at f1
    cases f1
    obtain ⟨b, _, q, _, n, _⟩ := f2
    cases q
    exact ⟨fun z => R.w0 e s1 (z ▸ n), fun z => R.w0 st s2 (z ▸ n)⟩
  · obtain ⟨b, m⟩ := R.pr i d a1
    obtain ⟨_, f, _⟩ := R.ps i b m
    rw [a3] at f
    cases f
    exact s4 i _ m
/-! ### which addresses -/
def rf : V → Addr
  | .ref a => a
  | _ => 0
def bsA : List V → List Ar → List Addr
  | v :: vs, .bor _ _ :: as => rf v :: bsA vs as
  | _ :: vs, .val _ :: as => bsA vs as
  | _ :: vs, .chg _ _ :: as => bsA vs as
  | _, _ => []
def chA : List V → List Ar → List Addr
  | v :: vs, .chg _ _ :: as => rf v :: chA vs as
  | _ :: vs, .val _ :: as => chA vs as
  | _ :: vs, .bor _ _ :: as => chA vs as
  | _, _ => []
def psC : Nat → List V → List Ar → List (Nat × Addr)
  | n, v :: vs, .chg _ _ :: as => (n, rf v) :: psC (n + 1) vs as
  | n, _ :: vs, .val _ :: as => psC (n + 1) vs as
  | n, _ :: vs, .bor _ _ :: as => psC (n + 1) vs as
  | _, _, _ => []
theorem bsA_of : ∀ {vs : List V} {as : List Ar}, Paired (ArOk K B ρ σ H ws) vs as → ∀ a ∈ bsA vs as, ∃ i d, SlotOb K B ρ σ H ws i d a ∧ i ∈ useS as ∧ d.hd ∈ kindsB as
  | _, _, .nil, a, m => by cases m
  | _ :: vs, .val x :: as, .cons h t, a, m => bsA_of t a m
  | _ :: vs, .chg i d :: as, .cons h t, a, m => by
    obtain ⟨j, e, h1, h2, h3⟩ := bsA_of t a m
    exact ⟨j, e, h1, List.mem_cons_of_mem _ h2, h3⟩
  | _ :: vs, .bor i d :: as, .cons h t, a, m => by
    obtain ⟨b, rfl, h⟩ := h
    rcases List.mem_cons.mp m with rfl | m
    · exact ⟨i, d, h, List.mem_cons_self, List.mem_cons_self⟩
    · obtain ⟨j, e, h1, h2, h3⟩ := bsA_of t a m
      exact ⟨j, e, h1, List.mem_cons_of_mem _ h2, List.mem_cons_of_mem _ h3⟩
theorem chA_of : ∀ {vs : List V} {as : List Ar}, Paired (ArOk K B ρ σ H ws) vs as → ∀ a ∈ chA vs as, ∃ i d, SlotOb K B ρ σ H ws i d a ∧ i ∈ useS as
  | _, _, .nil, a, m => by cases m
  | _ :: vs, .val x :: as, .cons h t, a, m => chA_of t a m
  | _ :: vs, .bor i d :: as, .cons h t, a, m => by
    obtain ⟨j, e, h1, h2⟩ := chA_of t a m
    exact ⟨j, e, h1, List.mem_cons_of_mem _ h2⟩
  | _ :: vs, .chg i d :: as, .cons h t, a, m => by
    obtain ⟨b, rfl, h⟩ := h
    rcases List.mem_cons.mp m with rfl | m
    · exact ⟨i, d, h, List.mem_cons_self⟩
    · obtain ⟨j, e, h1, h2⟩ := chA_of t a m
      exact ⟨j, e, h1, List.mem_cons_of_mem _ h2⟩
/-- what is changed is not what is only read -/
theorem ch_bs (R : Rel K B π ρ σ H ws) : ∀ {vs : List V} {as : List Ar}, Paired (ArOk K B ρ σ H ws) vs as → (useS as).Nodup → ∀ a ∈ chA vs as, a ∉ bsA vs as
  | _, _, .nil, _, a, m => by cases m
  | _ :: vs, .val x :: as, .cons h t, nd, a, m => ch_bs R t nd a m
  | _ :: vs, .bor i d :: as, .cons h t, nd, a, m => by
    obtain ⟨b, rfl, h⟩ := h
    have nd' := List.nodup_cons.mp nd
    intro m2
    rcases List.mem_cons.mp m2 with rfl | m2
    · obtain ⟨j, e, h1, h2⟩ := chA_of t _ m
      exact nd'.1 (by rw [R.apart h h1]; exact h2)
    · exact ch_bs R t nd'.2 a m m2
  | _ :: vs, .chg i d :: as, .cons h t, nd, a, m => by
    obtain ⟨b, rfl, h⟩ := h
    have nd' := List.nodup_cons.mp nd
    intro m2
    rcases List.mem_cons.mp m with rfl | m
    · obtain ⟨j, e, h1, h2, _⟩ := bsA_of t _ m2
      exact nd'.1 (by rw [R.apart h h1]; exact h2)
    · exact ch_bs R t nd'.2 a m m2
theorem psC_of : ∀ {vs : List V} {as : List Ar} {n j : Nat} {a : Addr}, Paired (ArOk K B ρ σ H ws) vs as → (j, a) ∈ psC n vs as → ∃ m i d, j = n + m ∧ as[m]? = some (.chg i d) ∧ vs[m]? = some (.ref a) ∧ SlotOb K B ρ σ H ws i d a ∧ a ∈ chA vs as
  | _, _, _, _, _, .nil, m => by cases m
  | _ :: vs, .val x :: as, n, j, a, .cons h t, m => by
    obtain ⟨m', i, d, h1, h2, h3, h4, h5⟩ := psC_of t (show (j, a) ∈ psC (n + 1) vs as from m)
    exact ⟨m' + 1, i, d, by omega, by simpa using h2, by simpa using h3, h4, h5⟩
  | _ :: vs, .bor x y :: as, n, j, a, .cons h t, m => by
    obtain ⟨m', i, d, h1, h2, h3, h4, h5⟩ := psC_of t (show (j, a) ∈ psC (n + 1) vs as from m)
    exact ⟨m' + 1, i, d, by omega, by simpa using h2, by simpa using h3, h4, h5⟩
  | _ :: vs, .chg i d :: as, n, j, a, .cons h t, m => by
    obtain ⟨b, rfl, h⟩ := h
    rcases List.mem_cons.mp m with e | m
    · cases e
      exact ⟨0, i, d, rfl, rfl, rfl, h, List.mem_cons_self⟩
    · obtain ⟨m', i, d, h1, h2, h3, h4, h5⟩ := psC_of t m
      exact ⟨m' + 1, i, d, by omega, by simpa using h2, by simpa using h3, h4, List.mem_cons_of_mem _ h5⟩
theorem psC_in : ∀ {vs : List V} {as : List Ar} {n m i : Nat} {d : D} {v : V}, as[m]? = some (.chg i d) → vs[m]? = some v → (n + m, rf v) ∈ psC n vs as
  | [], _, _, _, _, _, _, _, e => by simp at e
  | _ :: _, [], _, _, _, _, _, e, _ => by simp at e
  | w :: vs, a :: as, n, 0, i, d, v, e1, e2 => by
    simp at e1 e2
    subst e1 e2
    exact List.mem_cons_self
  | w :: vs, a :: as, n, m + 1, i, d, v, e1, e2 => by
    have q : (n + 1 + m, rf v) ∈ psC (n + 1) vs as := psC_in (by simpa using e1) (by simpa using e2)
    have z : n + 1 + m = n + (m + 1) := by omega
    rw [z] at q
    cases a with
    | chg _ _ => exact List.mem_cons_of_mem _ q
    | val _ => exact q
    | bor _ _ => exact q
theorem ch_nd (R : Rel K B π ρ σ H ws) : ∀ {vs : List V} {as : List Ar}, Paired (ArOk K B ρ σ H ws) vs as → (useS as).Nodup → (chA vs as).Nodup
  | _, _, .nil, _ => .nil
  | _ :: vs, .val x :: as, .cons h t, nd => ch_nd (vs := vs) (as := as) R t nd
  | _ :: vs, .bor i d :: as, .cons h t, nd => ch_nd (vs := vs) (as := as) R t (List.nodup_cons.mp nd).2
  | _ :: vs, .chg i d :: as, .cons h t, nd => by
    obtain ⟨b, rfl, h⟩ := h
    have nd' := List.nodup_cons.mp nd
    refine List.nodup_cons.mpr ⟨fun m => ?_, ch_nd R t nd'.2⟩
    obtain ⟨j, e, h1, h2⟩ := chA_of t _ m
    exact nd'.1 (by rw [R.apart h h1]; exact h2)
theorem use_uniq : ∀ {as : List Ar} {m n i : Nat} {d e : D}, (useS as).Nodup → as[m]? = some (.chg i d) → as[n]? = some (.chg i e) → m = n := by
  have mem : ∀ {as : List Ar} {m i : Nat} {d : D}, as[m]? = some (.chg i d) → i ∈ useS as := by
    intro as
    induction as with
    | nil => intro m i d e; simp at e
    | cons a as ih =>
      intro m i d e
      cases m with
      | zero => simp at e; subst e; exact List.mem_cons_self
      | succ m =>
        have := ih (m := m) (i := i) (d := d) (by simpa using e)
        cases a with
        | val _ => exact this
        | chg _ _ => exact List.mem_cons_of_mem _ this
        | bor _ _ => exact List.mem_cons_of_mem _ this
  intro as
  induction as with
  | nil => intro m n i d e _ h; simp at h
  | cons a as ih =>
    intro m n i d e nd h1 h2
    have nd2 : (useS as).Nodup := by
      cases a with
      | val _ => exact nd
      | chg _ _ => exact (List.nodup_cons.mp nd).2
      | bor _ _ => exact (List.nodup_cons.mp nd).2
    cases m with
    | zero =>
      cases n with
      | zero => rfl
      | succ n =>
        simp at h1 h2
        subst h1
        exact ((List.nodup_cons.mp nd).1 (mem h2)).elim
    | succ m =>
      cases n with
      | zero =>
        simp at h1 h2
        subst h2
        exact ((List.nodup_cons.mp nd).1 (mem h1)).elim
      | succ n => exact congrArg Nat.succ (ih nd2 (by simpa using h1) (by simpa using h2))
/-! ### into the call and back -/
def wsC (ws : List Addr) (bs : List Addr) : List Addr := ws.filter fun b => decide (b ∉ bs)
theorem wsC_mem {bs : List Addr} {a : Addr} : a ∈ wsC ws bs ↔ a ∈ ws ∧ a ∉ bs := by
  unfold wsC
  rw [List.mem_filter]
  simp
theorem wsC_le {bs : List Addr} : Le (mns ws H) (mns (wsC ws bs) H) := .of fun b u e => by
  obtain ⟨n, q⟩ := mns_some e
  exact mns_of (fun m => n (wsC_mem.mp m).1) q
def baseC (B : Base) (H : Hp) (ws : List Addr) (vs : List V) (as : List Ar) : Base := ⟨H, wsC ws (bsA vs as), psC 0 vs as, B.dr⟩
theorem paired_at {α β : Type} {F : α → β → Prop} : ∀ {xs : List α} {ys : List β} {i : Nat} {y : β}, Paired F xs ys → ys[i]? = some y → ∃ x, xs[i]? = some x ∧ F x y
  | _, _, _, _, .nil, e => by simp at e
  | _, _, 0, _, .cons h _, e => by simp at e; subst e; exact ⟨_, rfl, h⟩
  | _, _, i + 1, y, .cons _ t, e => by
    obtain ⟨x, h1, h2⟩ := paired_at (i := i) (y := y) t (by simpa using e)
    exact ⟨x, by simpa using h1, h2⟩
theorem bsA_in : ∀ {vs : List V} {as : List Ar} {m i : Nat} {d : D} {v : V}, as[m]? = some (.bor i d) → vs[m]? = some v → rf v ∈ bsA vs as
  | [], _, _, _, _, _, _, e => by simp at e
  | _ :: _, [], _, _, _, _, e, _ => by simp at e
  | w :: vs, a :: as, 0, i, d, v, e1, e2 => by
    simp at e1 e2
    subst e1 e2
    exact List.mem_cons_self
  | w :: vs, a :: as, m + 1, i, d, v, e1, e2 => by
    have q : rf v ∈ bsA vs as := bsA_in (by simpa using e1) (by simpa using e2)
    cases a with
    | bor _ _ => exact List.mem_cons_of_mem _ q
    | val _ => exact q
    | chg _ _ => exact q
theorem Rel.initC {vs : List V} {as : List Ar} (R : Rel K B π ρ σ H ws) (h : Paired (ArOk K B ρ σ H ws) vs as) (nd : (useS as).Nodup) : Rel K (baseC B H ws vs as) [] (as.map Ar.sl) (vs.map some) H (wsC ws (bsA vs as)) := by
  have at_ : ∀ {i : Nat} {x : Sl}, (as.map Ar.sl)[i]? = some x → ∃ a v, as[i]? = some a ∧ x = a.sl ∧ vs[i]? = some v ∧ ArOk K B ρ σ H ws v a := fun {i x} e => by
    rw [List.getElem?_map] at e
    obtain ⟨a, e1, e2⟩ := Option.map_eq_some_iff.mp e
    obtain ⟨v, e3, e4⟩ := paired_at h e1
    exact ⟨a, v, e1, e2.symm, e3, e4⟩
  have own : ∀ {i : Nat} {x : Sl}, (as.map Ar.sl)[i]? = some x → ¬ x.isOwn ∧ ∀ j, x ≠ .slot j := fun {i x} e => by
    obtain ⟨a, v, _, rfl, _, ok⟩ := at_ e
    cases a with
    | val y => rcases ok with ⟨d, rfl, _⟩ | ⟨rfl, _⟩ <;> exact ⟨id, fun _ z => nomatch z⟩
    | chg i d => exact ⟨id, fun _ z => nomatch z⟩
    | bor i d => exact ⟨id, fun _ z => nomatch z⟩
  have offd : ∀ d st, B.dr = some (d, st) → d ∉ bsA vs as ∧ st ∉ bsA vs as := fun d st e => by
    refine ⟨fun m => ?_, fun m => ?_⟩
    · obtain ⟨i, y, s, _⟩ := bsA_of h _ m
      exact (R.offDr s e).1 rfl
    · obtain ⟨i, y, s, _⟩ := bsA_of h _ m
      exact (R.offDr s e).2 rfl
  refine { len := ?_, sl := fun i x e n => ?_, nsl := fun i j e => (own e).2 j rfl, pn := fun p hp => absurd hp List.not_mem_nil, npp := fun p hp => absurd hp List.not_mem_nil, apS := fun i j x y v w e1 e2 h1 _ _ _ _ => ((own e1).1 h1).elim, apP := .nil, apX := fun p hp => absurd hp List.not_mem_nil, wl := fun a m => .inl m, wg := fun a m => m, w0 := fun a m => R.wsH a (wsC_mem.mp m).1, keep := fun a o e _ _ => e, tab := fun _ _ t => t, stay := fun a n => n, wsH := fun a m => R.wsH a (wsC_mem.mp m).1, ps := fun i a m => ?_, pr := fun i d e => ?_, psd := fun i j a m1 m2 => ?_, dr := fun d st e => ?_ }
  · rw [List.length_map, List.length_map, h.length]
  · obtain ⟨a, v, e1, rfl, e3, ok⟩ := at_ e
    refine ⟨v, by rw [List.getElem?_map, e3]; rfl, ?_⟩
    cases a with
    | val y =>
      rcases ok with ⟨d, rfl, hd⟩ | ⟨rfl, hd⟩
      · exact Da.le wsC_le hd
      · exact hd
    | chg j d =>
      obtain ⟨a, rfl, s⟩ := ok
      have ia : (0 + i, a) ∈ psC 0 vs as := psC_in e1 e3
      obtain ⟨_, _, _, _, _, _, _, ch⟩ := psC_of h ia
      obtain ⟨_, o, _, _, _, am, ho, mu, t⟩ := id s
      have m : a ∈ wsC ws (bsA vs as) := wsC_mem.mpr ⟨am, ch_bs R h nd a ch⟩
      exact ⟨a, o, rfl, m, m, ho, mu, t.le wsC_le⟩
    | bor j d =>
      obtain ⟨a, rfl, s⟩ := ok
      have ia : a ∈ bsA vs as := bsA_in e1 e3
      obtain ⟨_, o, _, _, _, am, ho, mu, t⟩ := id s
      exact Da.ofTop (mns_of (fun m => (wsC_mem.mp m).2 ia) ho) (t.le wsC_le)
  · obtain ⟨m', j, d, h1, h2, h3, s, ch⟩ := psC_of h m
    obtain ⟨_, o, _, _, _, am, ho, mu, t⟩ := id s
    have z : i = m' := by omega
    subst z
    exact ⟨wsC_mem.mpr ⟨am, ch_bs R h nd a ch⟩, by rw [List.getElem?_map, h3]; rfl, d, by rw [List.getElem?_map, h2]; rfl⟩
  · obtain ⟨a, v, e1, e2, e3, ok⟩ := at_ e
    cases a with
    | val y => rcases ok with ⟨d', rfl, _⟩ | ⟨rfl, _⟩ <;> cases e2
    | bor j d' => cases e2
    | chg j d' =>
      have q := psC_in (n := 0) e1 e3
      rw [Nat.zero_add] at q
      exact ⟨_, q⟩
  · obtain ⟨m', i', d, h1, h2, h3, s, _⟩ := psC_of h m1
    obtain ⟨n', j', e, g1, g2, g3, s', _⟩ := psC_of h m2
    have z := R.apart s s'
    subst z
    have := use_uniq nd h2 g2
    omega
  · obtain ⟨h1, h2, h3, _⟩ := R.dr d st e
    obtain ⟨n1, n2⟩ := offd d st e
    refine ⟨wsC_mem.mpr ⟨R.wg d h1, n1⟩, wsC_mem.mpr ⟨R.wg st h2, n2⟩, h3, fun i a m => ?_⟩
    obtain ⟨_, _, _, _, _, _, s, _⟩ := psC_of h m
    exact R.offDr s e
/-- what the caller's slots are behind the call -/
def back1 (a : Ar) (r : Option Sl) (ρ : Rho) : Rho := match a with
  | .chg i _ => (match r with | some (.par d) => upS ρ i d | _ => ρ)
  | _ => ρ
def backR : List Ar → Rho → Rho → Rho
  | [], _, ρ => ρ
  | a :: as, ρ', ρ => backR as ρ'.tail (back1 a ρ'.head? ρ)
def clean1 (ns : List Nat) (a : Ar) (r : Option Sl) : Prop := match a with
  | .chg _ _ => (match r with | some (.par d) => ∀ n ∈ ns, d.noNt n = true | _ => True)
  | _ => True
def cleanR (ns : List Nat) : List Ar → Rho → Prop
  | [], _ => True
  | a :: as, ρ' => clean1 ns a ρ'.head? ∧ cleanR ns as ρ'.tail
def clnR (ns : List Nat) (r : Sl) : Prop := match r with
  | .imm d => ∀ n ∈ ns, d.noN n = true
  | .own d => ∀ n ∈ ns, d.noNt n = true
  | _ => True
theorem cleanR_at {ns : List Nat} : ∀ {as : List Ar} {ρ' : Rho} {m i : Nat} {d d' : D}, cleanR ns as ρ' → as[m]? = some (.chg i d) → ρ'[m]? = some (.par d') → ∀ n ∈ ns, d'.noNt n = true
  | [], _, _, _, _, _, _, e, _ => by simp at e
  | a :: as, ρ', 0, i, d, d', h, e1, e2 => by
    simp at e1
    subst e1
    have z : ρ'.head? = some (.par d') := by rw [List.head?_eq_getElem?]; exact e2
    have := h.1
    rw [z] at this
    exact this
  | a :: as, ρ', m + 1, i, d, d', h, e1, e2 => cleanR_at (m := m) h.2 (by simpa using e1) (by rw [List.getElem?_tail]; exact e2)
/-- the heap in which the objects S are as they were -/
def GS (H H' : Hp) (S : List Addr) : Hp := fun b => if b ∈ S then H b else H' b
theorem upS_own {i j : Nat} {d : D} {y : Sl} (e : (upS ρ i d)[j]? = some y) (h : y.isOwn) : ∃ y', ρ[j]? = some y' ∧ y'.isOwn := by
  unfold upS at e
  split at e
  · rename_i x ex
    by_cases q : j = i
    · subst q
      rw [List.getElem?_set_self (List.getElem?_eq_some_iff.mp ex).1] at e
      cases e
      refine ⟨x, ex, ?_⟩
      cases x <;> exact h
    · rw [List.getElem?_set_ne (Ne.symm q)] at e
      exact ⟨y, e, h⟩
  · exact ⟨y, e, h⟩
theorem backR_own : ∀ {as : List Ar} {ρ' ρ : Rho} {j : Nat} {y : Sl}, (backR as ρ' ρ)[j]? = some y → y.isOwn → ∃ y', ρ[j]? = some y' ∧ y'.isOwn
  | [], _, _, _, y, e, h => ⟨y, e, h⟩
  | a :: as, ρ', ρ, j, y, e, h => by
    obtain ⟨y1, e1, h1⟩ := backR_own (as := as) e h
    unfold back1 at e1
    split at e1
    · split at e1
      · exact upS_own e1 h1
      · exact ⟨y1, e1, h1⟩
    · exact ⟨y1, e1, h1⟩
theorem back_ind {ρ0 : Rho} {ws2 : List Addr} (R0 : Rel K B π ρ0 σ H ws) : ∀ {vs : List V} {as : List Ar} {ρt ρ : Rho}, Paired (ArOk K B ρ0 σ H ws) vs as → (useS as).Nodup → (∀ i ∈ useS as, ρ[i]? = ρ0[i]?) →
    (∀ (m i : Nat) (d : D) (a : Addr), as[m]? = some (Ar.chg i d) → vs[m]? = some (V.ref a) → ∃ (o' : HO) (d' : D), ρt[m]? = some (Sl.par d') ∧ H' a = some o' ∧ Mut (some o') ∧ ∀ S, (∀ b ∈ S, b ∈ ws') → Top K (mns ws2 (GS H H' S)) o' d') →
    (∀ b ∈ chA vs as, b ∈ ws') → Rel K B π ρ σ (GS H H' (chA vs as)) ws2 → Rel K B π (backR as ρt ρ) σ H' ws2
  | _, _, ρt, ρ, .nil, _, _, _, _, R => by
    have : GS H H' (chA [] []) = H' := by funext b; unfold GS; rw [if_neg (by show b ∉ []; simp)]
    rw [this] at R
    exact R
  | _ :: vs, .val x :: as, ρt, ρ, .cons h t, nd, hs, hp, hc, R => by
    refine back_ind R0 (vs := vs) (as := as) t nd hs (fun m i d a e1 e2 => ?_) hc R
    obtain ⟨o', d', g1, g2⟩ := hp (m + 1) i d a (by simpa using e1) (by simpa using e2)
    exact ⟨o', d', by rw [List.getElem?_tail]; exact g1, g2⟩
  | _ :: vs, .bor x y :: as, ρt, ρ, .cons h t, nd, hs, hp, hc, R => by
    refine back_ind R0 (vs := vs) (as := as) t (List.nodup_cons.mp nd).2 (fun i m => hs i (List.mem_cons_of_mem _ m)) (fun m i d a e1 e2 => ?_) hc R
    obtain ⟨o', d', g1, g2⟩ := hp (m + 1) i d a (by simpa using e1) (by simpa using e2)
    exact ⟨o', d', by rw [List.getElem?_tail]; exact g1, g2⟩
  | _ :: vs, .chg i d :: as, ρt, ρ, .cons h t, nd, hs, hp, hc, R => by
    obtain ⟨a, rfl, s⟩ := h
    have nd' := List.nodup_cons.mp nd
    obtain ⟨o', d', g1, g2, mu, tp⟩ := hp 0 i d a rfl rfl
    obtain ⟨x, o, e1, e2, e3, am, ho, _, _⟩ := id s
    have ei : ρ[i]? = some x := by rw [hs i List.mem_cons_self]; exact e1
    have na : a ∉ chA vs as := fun m => by
      obtain ⟨j, e, h1, h2⟩ := chA_of t _ m
      exact nd'.1 (by rw [R0.apart s h1]; exact h2)
    have M := R.mut ei e2 e3 mu (tp _ hc)
    have eqG : upd (GS H H' (chA (.ref a :: vs) (.chg i d :: as))) a o' = GS H H' (chA vs as) := by
      funext b
      by_cases z : b = a
      · subst z
        rw [upd_same]
        unfold GS
        rw [if_neg na, g2]
      · rw [upd_ne z]
        unfold GS
        have : (b ∈ chA (.ref a :: vs) (.chg i d :: as)) ↔ b ∈ chA vs as := by
          show b ∈ a :: chA vs as ↔ _
          rw [List.mem_cons]
          exact ⟨fun q => q.elim (fun y => (z y).elim) id, .inr⟩
        by_cases y : b ∈ chA vs as
        · rw [if_pos y, if_pos (this.mpr y)]
        · rw [if_neg y, if_neg (fun q => y (this.mp q))]
    rw [eqG] at M
    have hd : ρt.head? = some (.par d') := by rw [List.head?_eq_getElem?]; exact g1
    have b1 : back1 (.chg i d) ρt.head? ρ = ρ.set i (x.with_ d') := by
      rw [hd]
      show upS ρ i d' = _
      unfold upS
      rw [ei]
    show Rel K B π (backR as ρt.tail (back1 (.chg i d) ρt.head? ρ)) σ H' ws2
    rw [b1]
    refine back_ind R0 (vs := vs) (as := as) t nd'.2 (fun j m => ?_) (fun m j e b e1 e2 => ?_) (fun b m => hc b (List.mem_cons_of_mem _ m)) M
    · rw [List.getElem?_set_ne (fun z => nd'.1 (by rw [z]; exact m))]
      exact hs j (List.mem_cons_of_mem _ m)
    · obtain ⟨o', d', g1, g2⟩ := hp (m + 1) j e b (by simpa using e1) (by simpa using e2)
      exact ⟨o', d', by rw [List.getElem?_tail]; exact g1, g2⟩
theorem kindsB_of {as : List Ar} {vs : List V} (h : Paired (ArOk K B ρ σ H ws) vs as) (e : kindsB as = []) : bsA vs as = [] := by
  cases q : bsA vs as with
  | nil => rfl
  | cons b bs =>
    obtain ⟨_, _, _, _, m⟩ := bsA_of h b (by rw [q]; exact List.mem_cons_self)
    rw [e] at m
    cases m
theorem psC_ex : ∀ {n : Nat} {vs : List V} {as : List Ar} {b : Addr}, b ∈ chA vs as → ∃ m, (m, b) ∈ psC n vs as
  | n, [], [], b, m => by cases m
  | n, [], _ :: _, b, m => by cases m
  | n, _ :: _, [], b, m => by cases m
  | n, v :: vs, .chg i d :: as, b, m => by
    rcases List.mem_cons.mp m with rfl | m
    · exact ⟨n, List.mem_cons_self⟩
    · obtain ⟨k, h⟩ := psC_ex (n := n + 1) (vs := vs) (as := as) m
      exact ⟨k, List.mem_cons_of_mem _ h⟩
  | n, _ :: vs, .bor i d :: as, b, m => psC_ex (n := n + 1) (vs := vs) (as := as) m
  | n, _ :: vs, .val x :: as, b, m => psC_ex (n := n + 1) (vs := vs) (as := as) m
/-- what is borrowed stays and is seen from within as data -/
theorem Rel.bor {vs : List V} {as : List Ar} (R : Rel K B π ρ σ H ws) (h : Paired (ArOk K B ρ σ H ws) vs as) (nd : (useS as).Nodup) (R' : Rel K (baseC B H ws vs as) π' ρ' σ' H' ws') : BoOk (mns ws' H') (bsA vs as) (kindsB as) := fun b m => by
  obtain ⟨i, d, s, _, hk⟩ := bsA_of h b m
  obtain ⟨_, o, _, _, _, am, ho, mu, t⟩ := id s
  obtain ⟨k1, k2⟩ := top_kind mu t
  have nw : b ∉ ws' := fun z => by
    rcases R'.wl b z with z | z
    · exact (wsC_mem.mp z).2 m
    · have z' : H b = none := z
      rw [ho] at z'
      cases z'
  have np : b ∉ (baseC B H ws vs as).P := fun z => by
    unfold Base.P at z
    rcases List.mem_append.mp z with z | z
    · obtain ⟨⟨j, b'⟩, z1, rfl⟩ := List.mem_map.mp z
      obtain ⟨_, _, _, _, _, _, _, ch⟩ := psC_of h z1
      exact ch_bs R h nd _ ch m
    · have z' : b ∈ (match B.dr with | none => [] | some p => [p.1, p.2]) := z
      cases q : B.dr with
      | none => rw [q] at z'; simp at z'
      | some p =>
        obtain ⟨e, st⟩ := p
        rw [q] at z'
        obtain ⟨n1, n2⟩ := R.offDr s q
        simp at z'
        rcases z' with z' | z'
        · exact n1 z'
        · exact n2 z'
  exact ⟨o, mns_of nw (R'.keep b o ho np t.off.1), k2, by rw [k1]; exact hk⟩
theorem Rel.backC {vs : List V} {as : List Ar} (R : Rel K B π ρ σ H ws) (h : Paired (ArOk K B ρ σ H ws) vs as) (nd : (useS as).Nodup) (R' : Rel K (baseC B H ws vs as) π' ρ' σ' H' ws') (cl : cleanR (kindsB as) as ρ') (ws2 : List Addr)
    (sub : ∀ b ∈ ws, b ∈ ws2) (nw : ∀ b ∈ ws2, b ∈ ws ∨ (H b = none ∧ H' b ≠ none)) (in' : ∀ b ∈ ws2, b ∈ ws' ∨ b ∈ bsA vs as) : Rel K B π (backR as ρ' ρ) σ H' ws2 := by
  have ch : ∀ b ∈ chA vs as, b ∈ ws' := fun b m => by
    obtain ⟨i, d, s, _⟩ := chA_of h b m
    obtain ⟨_, o, _, _, _, am, _⟩ := id s
    exact R'.wg b (wsC_mem.mpr ⟨am, ch_bs R h nd b m⟩)
  have bo := R.bor h nd R'
  refine back_ind (ws' := ws') R h nd (fun _ _ => rfl) (fun m i d a e1 e2 => ?_) ch (R.heap (fun b o e n n2 => ?_) (fun P q t => ?_) (fun b n => ?_) (fun d st e => ?_) sub fun b m => ?_)
  · have pm : (m, a) ∈ psC 0 vs as := by
      have := psC_in (n := 0) e1 e2
      rw [Nat.zero_add] at this
      exact this
    obtain ⟨_, f, d', g⟩ := R'.ps m a pm
    obtain ⟨a', o', q1, q2, q3, mu, tp⟩ := R'.at_ g (.inr rfl)
    rw [f] at q1
    cases q1
    refine ⟨o', d', g, q3, mu, fun S hS => (tp.out bo (cleanR_at cl e1 g)).le (.of fun b u e => ?_)⟩
    obtain ⟨n1, e⟩ := mns_some e
    obtain ⟨n2, e⟩ := mns_some e
    refine mns_of (fun m => (in' b m).elim n2 n1) ?_
    unfold GS
    rw [if_neg (fun m => n2 (hS b m))]
    exact e
  · unfold GS
    by_cases z : b ∈ chA vs as
    · rw [if_pos z]; exact e
    · rw [if_neg z]
      refine R'.keep b o e (fun m => ?_) n2
      unfold Base.P at m
      rcases List.mem_append.mp m with m | m
      · obtain ⟨⟨j, b'⟩, z1, rfl⟩ := List.mem_map.mp m
        obtain ⟨_, _, _, _, _, _, _, c⟩ := psC_of h z1
        exact z c
      · have z' : b ∈ (match B.dr with | none => [] | some p => [p.1, p.2]) := m
        cases q : B.dr with
        | none => rw [q] at z'; simp at z'
        | some p =>
          obtain ⟨e, st⟩ := p
          rw [q] at z'
          obtain ⟨n1, n2⟩ := n e st q
          simp at z'
          rcases z' with z' | z'
          · exact n1 z'
          · exact n2 z'
  · refine tab_at (R'.tab P q t) fun b o e z => ?_
    unfold GS
    rw [if_neg (fun m => ?_)]
    · exact e
    · obtain ⟨m', pm⟩ := psC_ex (n := 0) m
      obtain ⟨_, f, d', g⟩ := R'.ps m' b pm
      obtain ⟨a', o', q1, q2, q3, mu, tp⟩ := R'.at_ g (.inr rfl)
      rw [f] at q1
      cases q1
      rw [e] at q3
      cases q3
      rcases z with ⟨_, ps, z⟩ | ⟨p, z⟩
      · exact tp.off.1 _ z
      · exact tp.off.2 _ z
  · unfold GS
    by_cases z : b ∈ chA vs as
    · rw [if_pos z]; exact n
    · rw [if_neg z]; exact R'.stay b n
  · obtain ⟨ms, sp, mx, h1, h2, h3⟩ := (R'.dr d st e).2.2.1
    have off : ∀ b ∈ chA vs as, b ≠ d ∧ b ≠ st := fun b m => by
      obtain ⟨i, y, s, _⟩ := chA_of h b m
      exact R.offDr s e
    refine ⟨ms, sp, mx, ?_, ?_, h3⟩
    · unfold GS
      rw [if_neg (fun m => (off _ m).1 rfl)]; exact h1
    · unfold GS
      rw [if_neg (fun m => (off _ m).2 rfl)]; exact h2
  · rcases nw b m with z | z
    · exact .inl z
    · refine .inr ⟨z.1, ?_⟩
      unfold GS
      by_cases y : b ∈ chA vs as
      · obtain ⟨i, d, s, _⟩ := chA_of h b y
        obtain ⟨_, o, _, _, _, _, ho, _⟩ := id s
        rw [z.1] at ho
        cases ho
      · rw [if_neg y]; exact z.2
theorem Rel.callC {vs : List V} {as : List Ar} (R : Rel K B π ρ σ H ws) (h : Paired (ArOk K B ρ σ H ws) vs as) (nd : (useS as).Nodup) (R' : Rel K (baseC B H ws vs as) ((v, r) :: π') ρ' σ' H' ws') (hr : r.val) (c1 : clnR (kindsB as) r) (cl : cleanR (kindsB as) as ρ') :
    ∃ ws2, Rel K B ((v, r) :: π) (backR as ρ' ρ) σ H' ws2 := by
  have step := R.backC h nd R' cl
  have bo := R.bor h nd R'
  have inC : ∀ b ∈ ws, b ∈ ws' ∨ b ∈ bsA vs as := fun b m => by
    by_cases z : b ∈ bsA vs as
    · exact .inr z
    · exact .inl (R'.wg b (wsC_mem.mpr ⟨m, z⟩))
  cases r with
  | imm d => exact ⟨ws, (step ws (fun _ m => m) (fun _ m => .inl m) inC).imm (Da.le (.of fun b o e => by
      obtain ⟨n1, e⟩ := mns_some e
      obtain ⟨n2, e⟩ := mns_some e
      exact mns_of (fun m => (inC b m).elim n2 n1) e) (Da.out bo R'.top c1))⟩
  | own d =>
    obtain ⟨p, u, rfl, m, n, hu, mu, t⟩ := R'.top
    have n' : H p = none := n
    have in' : ∀ b ∈ p :: ws, b ∈ ws' ∨ b ∈ bsA vs as := fun b m' => by
      rcases List.mem_cons.mp m' with rfl | m'
      · exact .inl m
      · exact inC b m'
    refine ⟨p :: ws, (step (p :: ws) (fun b m => List.mem_cons_of_mem _ m) (fun b m => ?_) in').adopt List.mem_cons_self (R.fresh n').2 hu mu ((t.out bo c1).le (.of fun b o e => ?_)) (fun j y w e1 h1 e2 z => ?_) fun q hq h1 z => R.ent_old (R.pn q hq) h1 n' z⟩
    · rcases List.mem_cons.mp m with rfl | m
      · exact .inr ⟨n', by rw [hu]; simp⟩
      · exact .inl m
    · obtain ⟨n1, e⟩ := mns_some e
      obtain ⟨n2, e⟩ := mns_some e
      exact mns_of (fun m' => (in' b m').elim n2 n1) e
    · obtain ⟨y', e3, h3⟩ := backR_own e1 h1
      obtain ⟨w', e4, e5⟩ := R.sl j y' e3 (fun z => by rw [z] at h3; exact h3)
      rw [e2] at e4
      cases e4
      exact R.ent_old e5 h3 n' z
  | _ => exact hr.elim
/-- .. where something is raised -/
theorem Rel.raiseC {vs : List V} {as : List Ar} (R : Rel K B π ρ σ H ws) (h : Paired (ArOk K B ρ σ H ws) vs as) (nd : (useS as).Nodup) (nb : kindsB as = []) (R' : Rel K (baseC B H ws vs as) π' ρ' σ' H' ws') : Rel K B π (backR as ρ' ρ) σ H' ws ∧ ∀ b ∈ ws, b ∈ ws' := by
  have z := kindsB_of h nb
  have inC : ∀ b ∈ ws, b ∈ ws' := fun b m => R'.wg b (wsC_mem.mpr ⟨m, by rw [z]; simp⟩)
  refine ⟨R.backC h nd R' ?_ ws (fun _ m => m) (fun _ m => .inl m) fun b m => .inl (inC b m), inC⟩
  rw [nb]
  clear z inC R' nd nb h
  induction as generalizing ρ' with
  | nil => trivial
  | cons a as ih =>
    refine ⟨?_, ih⟩
    unfold clean1
    split
    · split
      · exact fun n m => absurd m List.not_mem_nil
      · trivial
    · trivial
end
section
variable {X : Cx} {E : XK} {e : Expr} {es : List Expr} {taa : TA} {u : TDA} {pos p : Pos} {CX : CXT} {k n : Nat} {f : Addr} {fd : FuncData} {ps : List Str} {x : Str} {t : TF} {cs : List Bool}
/-- a def that is called; cs: which arguments it may change -/
def dCall (cs : List Bool) (t : TF) (u : TDA) : TD := fun ρ er q => u ρ er fun rs ρ1 => argC cs rs ρ1 fun as => (useS as).Nodup ∧ t (as.map Ar.sl) (fun y => kindsB as = [] ∧ er y) fun r ρ' => clnR (kindsB as) r ∧ cleanR (kindsB as) as ρ' ∧ q r (backR as ρ' ρ1)
theorem callP {Q : VK} {B : Base} {er : Exn → Prop} {π : List (V × Sl)} {ρ : Rho} {σ : L2.St} {H : Hp} {ws : List Addr} {vs : List V} {as : List Ar} {q : Sl → Rho → Prop} (R : Rel X.K B π ρ σ H ws) (hE : EOk X.K B er E) (pa : Paired (ArOk X.K B ρ σ H ws) vs as) (nd : (useS as).Nodup)
    (h : t (as.map Ar.sl) (fun y => kindsB as = [] ∧ er y) fun r ρ' => clnR (kindsB as) r ∧ cleanR (kindsB as) as ρ' ∧ q r (backR as ρ' ρ)) (hn : ∀ as er q, t as er q → as.length = n)
    (kk : ∀ r ρ' v H' ws', q r ρ' → Rel X.K B ((v, r) :: π) ρ' σ H' ws' → Q v H') : spD X.K n t vs H Q E := by
  refine ⟨baseC B H ws vs as, as.map Ar.sl, wsC ws (bsA vs as), fun y => kindsB as = [] ∧ er y, _, rfl, rfl, hn _ _ _ h, R.initC pa nd, fun y hy π' ρ' σ' H' ws' cls d R' xr => ?_, h, fun r ρ' σ' v H' ws' hq hv R' => ?_⟩
  · obtain ⟨R3, sub⟩ := R.raiseC pa nd hy.1 R'
    refine hE y hy.2 _ _ _ H' ws cls d R3 ?_
    obtain ⟨x1, x2⟩ := xr
    refine ⟨x1, ?_⟩
    cases e2 : y.2 with
    | none => rw [e2] at x2; exact x2
    | some z =>
      rw [e2] at x2
      obtain ⟨p, v, y1, y2, y3⟩ := x2
      exact ⟨p, v, y1, y2, y3.le (.of fun b o e => by obtain ⟨n, q⟩ := mns_some e; exact mns_of (fun m => n (sub b m)) q)⟩
  · obtain ⟨c1, c2, hq⟩ := hq
    obtain ⟨ws2, R3⟩ := R.callC pa nd R' hv c1 c2
    exact kk r _ v H' ws2 hq R3
theorem call_run {Q : VK} (ha : DA X E es taa u) {B : Base} {er : Exn → Prop} {π : List (V × Sl)} {ρ : Rho} {σ : L2.St} {H : Hp} {ws : List Addr} {q : Sl → Rho → Prop} (R : Rel X.K B π ρ σ H ws) (hE : EOk X.K B er E) (h : dCall cs t u ρ er q) (hn : ∀ as er q, t as er q → as.length = n)
    (kk : ∀ r ρ' v H' ws', q r ρ' → Rel X.K B ((v, r) :: π) ρ' σ H' ws' → Q v H') : tCall (spD X.K n t) [] E taa σ H Q :=
  ha.2 B er π ρ σ H ws _ _ R hE h fun rs ρ1 vs H1 ws1 h1 e1 R1 => by
    obtain ⟨as, pa, nd, h1⟩ := argC_of R1 e1 h1
    have pa' : Paired (ArOk X.K B ρ1 σ H1 ws1) vs as := pa
    rw [List.append_nil]
    exact callP R1.popAll hE pa' nd h1 hn kk
theorem de_call (cs : List Bool) (F : FnG X.prog X.w X.K X.mg X.base CX k f fd ps (spD X.K n t)) (gd : X.A.guards = some []) (hr : Room k X.A) (hg : Gl X x) (hm : X.mg x = some (.ref f)) (hk : PySem.W.keepIn X.K (.ref f) = true) (hb : L2.Binds X.K fd ps []) (hx : Passes CX X E) (hn : ∀ as er q, t as er q → as.length = n)
    (ha : DA X E (e :: es) taa u) (hdb : (x == ("__debug__" : Str)) = false := by decide) (he : starEach (e :: es) X.env = (false, eval e X.env) :: starEach es X.env := by rfl) (hpl : (backTo pos (starEach es X.env)).any (·.1) = false := by rfl) :
    DE X E (.Call (.Name x p) (e :: es) [] pos) (tCall (spD X.K n t) [] E taa) (dCall cs t u) :=
  ⟨pe_callG F gd hr hg hm hk hb .nil hx ha.1 hdb he hpl, fun B er π ρ σ H ws q Q R hE h kk => call_run ha R hE h hn kk⟩
end
end Dl
set_option maxRecDepth 100000
set_option maxHeartbeats 4000000
/-! the data layer: built-in functions -/
namespace Dl
open PySem PySem.Spec PyProof.Rows L2 L3
section
variable {X : Cx}
/-- len -/
def lenW (ds : List D) (q : D → Prop) : Prop := match ds with
  | [.lst xs] => q (.int (xs.length : Nat))
  | [.tup xs] => q (.int (xs.length : Nat))
  | [.str s] => s.length ≤ sizeLine ∧ q (.int (s.length : Nat))
  | [.dct ps] => q (.int (ps.length : Nat))
  | [.set xs] => q (.int (xs.length : Nat))
  | _ => False
def rLenA (K : PySem.W.Frag) : List V → Hp → VK → Prop := fun xs H Q => (∃ x n, xs = [x] ∧ LenV K x H n ∧ Q (.int n) H) ∨ (∃ a kvs, xs = [.ref a] ∧ Rd H a (.dK kvs) ∧ Q (.int (kvs.length : Nat)) H) ∨ ∃ a S n, xs = [.ref a] ∧ H a = some (.set S n) ∧ Q (.int (n : Nat)) H
theorem call_lenA : CallR X (.builtin "len") (rLenA X.K) := by
  rintro pins s σ H xs us Q I rel (h | ⟨c, kvs, rfl, hd, goal⟩ | ⟨c, S, n, rfl, hs, goal⟩)
  · exact call_len pins s σ H xs us Q I rel h
  · obtain ⟨u, rfl, ru⟩ := vals1 rel
    obtain rfl : u = .ref c := ru
    exact d_len I hd fun tk sf If => ⟨.int _, H, If, ⟨tk, rfl⟩, goal⟩
  · obtain ⟨u, rfl, ru⟩ := vals1 rel
    obtain rfl : u = .ref c := ru
    have so : s.heap.SetOf (intKind X.prog X.w) c S n := I.hok c _ hs
    obtain ⟨ob, es, ep, tb, ho, hex, hdat, _, _, hscan, hfit, hn⟩ := so
    have small : n < scanBound := hn ▸ hscan
    exact call_len_set ho hex hdat hfit (by unfold scanBound at hscan; omega) ⟨.int (n : Nat), H, I.tok _, ⟨_, by rw [hn]⟩, goal⟩
theorem cd_len {K : PySem.W.Frag} (hK : X.K = K := by rfl) : CallD X (.builtin "len") (rLenA K) lenW := by
  subst hK
  exact ⟨call_lenA, fun {vs ds H G q Q} l p hw k => by
  cases p with
  | nil => exact hw.elim
  | cons h t =>
    cases t with
    | cons _ _ => cases h <;> exact hw.elim
    | nil =>
      cases h with
      | lst e hd => exact .inl ⟨_, _, rfl, .inl ⟨_, SqL.of e, hd.length.symm⟩, k _ _ _ hw (.same (.int _))⟩
      | tup e hd => exact .inl ⟨_, _, rfl, .inr ⟨_, l.sqT e, hd.length.symm⟩, k _ _ _ hw (.same (.int _))⟩
      | str s => exact .inl ⟨_, _, rfl, ⟨hw.1, rfl⟩, k _ _ _ hw.2 (.same (.int _))⟩
      | dct e kk hd =>
        refine .inr (.inl ⟨_, _, rfl, e, ?_⟩)
        rw [(show Kd X.K G _ _ from ⟨kk, hd⟩).length]
        exact k _ _ _ hw (.same (.int _))
      | set e m z =>
        refine .inr (.inr ⟨_, _, _, rfl, e, ?_⟩)
        rw [z]
        exact k _ _ _ hw (.same (.int _))
      | _ => exact hw.elim⟩
/-- list(x) -/
def keyD : Key → D
  | .inl i => .int i
  | .inr s => .str s
def listW (ds : List D) (q : D → Prop) : Prop := match ds with
  | [.lst xs] => q (.lst xs)
  | [.tup xs] => q (.lst xs)
  | [.dct ps] => q (.lst (ps.map fun p => keyD p.1))
  | _ => False
theorem das_keys {K : PySem.W.Frag} {G : Hp} : ∀ {kvs : List (Key × V)} {ps : List (Key × D)}, Kd K G kvs ps → Das K G (kvs.map fun kv => kV kv.1) (ps.map fun p => keyD p.1)
  | [], [], _ => .nil
  | [], _ :: _, h => by have := h.1; cases this
  | _ :: _, [], h => by have := h.1; cases this
  | (q1, q2) :: kvs, (p1, p2) :: ps, h => by
    obtain ⟨e, a, t⟩ := h.uncons
    obtain rfl : q1 = p1 := e
    refine .cons ?_ (das_keys t)
    cases q1 with
    | inl i => exact .int i
    | inr s => exact .str s
def rListA (K : PySem.W.Frag) : List V → Hp → VK → Prop := fun xs H Q => (∃ p ys, xs = [.ref p] ∧ (SqL K H p ys ∨ SqT K H p ys) ∧ ∀ l, H l = none → Q (.ref l) (upd H l (.lst ys))) ∨ ∃ (a : Addr) (kvs : List (Key × V)), xs = [.ref a] ∧ Rd H a (.dK kvs) ∧ ∀ p, H p = none → Q (.ref p) (upd H p (.lst (kvs.map fun kv => kV kv.1)))
theorem call_listA (hc : X.calm = true) : CallR X (.type "list") (rListA X.K) := fun pins s σ H xs us Q I rel h => h.elim (call_list_of pins s σ H xs us Q I rel) (call_listD hc pins s σ H xs us Q I rel)
theorem co_list {K : PySem.W.Frag} (hc : X.calm = true) (hK : X.K = K := by rfl) : CallO X (.type "list") (rListA K) listW := by
  subst hK
  exact ⟨call_listA hc, fun {vs ds H G q Q} l p hw k => by
  cases p with
  | nil => exact hw.elim
  | cons h t =>
    cases t with
    | cons _ _ => cases h <;> exact hw.elim
    | nil =>
      cases h with
      | lst e hd => exact .inl ⟨_, _, rfl, .inl (SqL.of e), fun p np => k _ _ _ hw (.new np True.intro (.lst hd))⟩
      | tup e hd => exact .inl ⟨_, _, rfl, .inr (l.sqT e), fun p np => k _ _ _ hw (.new np True.intro (.lst hd))⟩
      | dct e kk hd => exact .inr ⟨_, _, rfl, e, fun p np => k _ _ _ hw (.new np True.intro (.lst (das_keys ⟨kk, hd⟩)))⟩
      | _ => exact hw.elim⟩
/-- tuple(x) -/
def tupW (ds : List D) (q : D → Prop) : Prop := match ds with
  | [.lst xs] => q (.tup xs)
  | [.tup xs] => q (.tup xs)
  | _ => False
theorem cd_tuple {K : PySem.W.Frag} (hK : X.K = K := by rfl) : CallD X (.type "tuple") (fun xs H Q => ∃ p ys, xs = [.ref p] ∧ ((SqL K H p ys ∧ ∀ l, H l = none → Q (.ref l) (upd H l (.tup ys))) ∨ (SqT K H p ys ∧ Q (.ref p) H))) tupW := by
  subst hK
  exact ⟨call_tuple_of, fun {vs ds H G q Q} l p hw k => by
  cases p with
  | nil => exact hw.elim
  | cons h t =>
    cases t with
    | cons _ _ => cases h <;> exact hw.elim
    | nil =>
      cases h with
      | lst e hd => exact ⟨_, _, rfl, .inl ⟨SqL.of e, fun p np => k _ _ _ hw (.new np (.tup hd))⟩⟩
      | tup e hd => exact ⟨_, _, rfl, .inr ⟨l.sqT e, k _ _ _ hw (.same (.tup e hd))⟩⟩
      | _ => exact hw.elim⟩
/-- sorted(x): ints, or the int keys of a dict -/
def srt (ns : List Int) : List Int := ns.mergeSort fun a b => decide (a ≤ b)
theorem srt_perm (ns : List Int) : (srt ns).Perm ns := List.mergeSort_perm ns _
theorem srt_le (ns : List Int) : (srt ns).Pairwise (· ≤ ·) := by
  have h := List.pairwise_mergeSort (le := fun a b : Int => decide (a ≤ b)) (fun a b c h1 h2 => decide_eq_true (Int.le_trans (of_decide_eq_true h1) (of_decide_eq_true h2))) (fun a b => by
    rcases Int.le_total a b with h | h
    · simp [h]
    · simp [h]) ns
  exact h.imp fun h => of_decide_eq_true h
theorem srt_one {ns ms : List Int} (p : ms.Perm ns) (s : ms.Pairwise (· ≤ ·)) : ms = srt ns := PySem.W.ksm_same (p.trans (srt_perm ns).symm) s (srt_le ns)
def keyI : Key → Int
  | .inl i => i
  | .inr _ => 0
def sortW (ds : List D) (q : D → Prop) : Prop := match ds with
  | [.lst xs] => ∃ ns : List Int, xs = ns.map D.int ∧ q (.lst ((srt ns).map D.int))
  | [.dct ps] => ∃ ns : List Int, ps.map (·.1) = ns.map Sum.inl ∧ q (.lst ((srt ns).map D.int))
  | _ => False
def rSrtA (prog : Program) (w : World) (K : PySem.W.Frag) : List V → Hp → VK → Prop := fun vs H Q => rSortedI K vs H Q ∨ rSrtD prog w vs H Q
theorem call_srtA (hc : X.calm = true) : CallR X (.builtin "sorted") (rSrtA X.prog X.w X.K) := CallR.or cr_sortedI (call_srtD hc)
theorem co_sorted {K : PySem.W.Frag} (hc : X.calm = true) (hK : X.K = K := by rfl) : CallO X (.builtin "sorted") (rSrtA X.prog X.w K) sortW := by
  subst hK
  exact ⟨call_srtA hc, fun {vs ds H G q Q} l p hw k => by
  cases p with
  | nil => exact hw.elim
  | cons h t =>
    cases t with
    | cons _ _ => cases h <;> exact hw.elim
    | nil =>
      cases h with
      | lst e hd =>
        obtain ⟨ns, rfl, hq⟩ := hw
        have := das_ints_of hd
        subst this
        refine .inl ⟨_, ns, rfl, SqL.of e, fun ns' p pm st np => ?_⟩
        rw [srt_one pm st]
        exact k _ _ _ hq (.new np True.intro (.lst (das_ints _)))
      | dct e kk hd =>
        obtain ⟨ns, en, hq⟩ := hw
        refine .inr (srt_ints (ks := ns) e (kk.trans en) fun ys p pm st np => ?_)
        rw [srt_one pm st]
        exact k _ _ _ hq (.new np True.intro (.lst (das_ints _)))
      | _ => exact hw.elim⟩
/-- all, any -/
def allW (ds : List D) (q : D → Prop) : Prop := match ds with
  | [.lst xs] => ∃ bs : List Bool, xs = bs.map D.bl ∧ q (.bl (bs.all id))
  | _ => False
def anyW (ds : List D) (q : D → Prop) : Prop := match ds with
  | [.lst xs] => ∃ bs : List Bool, xs = bs.map D.bl ∧ q (.bl (bs.any id))
  | _ => False
theorem cd_all {K : PySem.W.Frag} (hc : X.calm = true) (hK : X.K = K := by rfl) : CallD X (.builtin "all") (rAll K) allW := by
  subst hK
  exact ⟨cr_all hc, fun {vs ds H G q Q} l p hw k => by
  cases p with
  | nil => exact hw.elim
  | cons h t =>
    cases t with
    | cons _ _ => cases h <;> exact hw.elim
    | nil =>
      cases h with
      | lst e hd =>
        obtain ⟨bs, rfl, hq⟩ := hw
        have := das_bools_of hd
        subst this
        exact ⟨_, bs, rfl, SqL.of e, k _ _ _ hq (.same (.bl _))⟩
      | _ => exact hw.elim⟩
theorem cd_any {K : PySem.W.Frag} (hc : X.calm = true) (hK : X.K = K := by rfl) : CallD X (.builtin "any") (rAny K) anyW := by
  subst hK
  exact ⟨cr_any hc, fun {vs ds H G q Q} l p hw k => by
  cases p with
  | nil => exact hw.elim
  | cons h t =>
    cases t with
    | cons _ _ => cases h <;> exact hw.elim
    | nil =>
      cases h with
      | lst e hd =>
        obtain ⟨bs, rfl, hq⟩ := hw
        have := das_bools_of hd
        subst this
        exact ⟨_, bs, rfl, SqL.of e, k _ _ _ hq (.same (.bl _))⟩
      | _ => exact hw.elim⟩
/-- int(x) of an int or a bool -/
def intW (ds : List D) (q : D → Prop) : Prop := match ds with
  | [.int i] => q (.int i)
  | [.bl b] => q (.int (if b then 1 else 0))
  | _ => False
theorem cd_int : CallD X (.type "int") (fun xs H Q => (∃ i, xs = [.int i] ∧ Q (.int i) H) ∨ ∃ k, xs = [.bl k] ∧ Q (.int (if k then 1 else 0)) H) intW := ⟨call_int1, fun {vs ds H G q Q} l p hw k => by
  cases p with
  | nil => exact hw.elim
  | cons h t =>
    cases t with
    | cons _ _ => cases h <;> exact hw.elim
    | nil =>
      cases h with
      | int i => exact .inl ⟨i, rfl, k _ _ _ hw (.same (.int _))⟩
      | bl b => exact .inr ⟨b, rfl, k _ _ _ hw (.same (.int _))⟩
      | _ => exact hw.elim⟩
/-- min, max of two ints -/
def maxW (ds : List D) (q : D → Prop) : Prop := match ds with
  | [.int i, .int j] => q (.int (if j > i then j else i))
  | _ => False
def minW (ds : List D) (q : D → Prop) : Prop := match ds with
  | [.int i, .int j] => q (.int (if j < i then j else i))
  | _ => False
theorem cd_max2 (hc : X.calm = true) : CallD X (.builtin "max") (fun xs H Q => ∃ i j, xs = [.int i, .int j] ∧ Q (.int (if j > i then j else i)) H) maxW := ⟨call_max2 hc, fun {vs ds H G q Q} l p hw k => by
  unfold maxW at hw
  split at hw
  · cases p with
    | cons h t =>
      cases h
      cases t with
      | cons h t =>
        cases h
        cases t
        exact ⟨_, _, rfl, k _ _ _ hw (.same (.int _))⟩
  · exact hw.elim⟩
theorem cd_min2 (hc : X.calm = true) : CallD X (.builtin "min") (fun xs H Q => ∃ i j, xs = [.int i, .int j] ∧ Q (.int (if j < i then j else i)) H) minW := ⟨call_min2 hc, fun {vs ds H G q Q} l p hw k => by
  unfold minW at hw
  split at hw
  · cases p with
    | cons h t =>
      cases h
      cases t with
      | cons h t =>
        cases h
        cases t
        exact ⟨_, _, rfl, k _ _ _ hw (.same (.int _))⟩
  · exact hw.elim⟩
/-! ### sets of ints -/
def ddp (ns : List Int) : List Int := PyProof.Rows.firstMet (fun i => ns.getD i 0) ns.length
theorem foldl_ddp : ∀ (xs acc : List Int), acc.Nodup → (xs.foldl PyProof.Rows.step_dedup acc).Nodup ∧ ∀ k, k ∈ xs.foldl PyProof.Rows.step_dedup acc ↔ k ∈ acc ∨ k ∈ xs
  | [], acc, h => ⟨h, fun k => by simp⟩
  | x :: xs, acc, h => by
    rw [List.foldl_cons]
    have st : PyProof.Rows.step_dedup acc x = if acc.any (· == x) then acc else acc ++ [x] := rfl
    by_cases c : acc.any (· == x) = true
    · rw [st, if_pos c]
      obtain ⟨a, b⟩ := foldl_ddp xs acc h
      refine ⟨a, fun k => ?_⟩
      rw [b k, List.mem_cons]
      obtain ⟨y, hy, e⟩ := List.any_eq_true.mp c
      have : y = x := eq_of_beq e
      subst this
      constructor
      · rintro (q | q)
        · exact .inl q
        · exact .inr (.inr q)
      · rintro (q | q | q)
        · exact .inl q
        · exact .inl (q ▸ hy)
        · exact .inr q
    · rw [st, if_neg c]
      have nm : x ∉ acc := fun m => c (List.any_eq_true.mpr ⟨x, m, beq_self_eq_true x⟩)
      obtain ⟨a, b⟩ := foldl_ddp xs (acc ++ [x]) (by
        rw [List.nodup_append]
        exact ⟨h, by simp, fun a ha b hb z => nm (by rw [List.mem_singleton.mp hb] at z; exact z ▸ ha)⟩)
      refine ⟨a, fun k => ?_⟩
      rw [b k]
      simp [or_assoc]
theorem getD_map (ns : List Int) : (List.range ns.length).map (fun i => ns.getD i 0) = ns := by
  refine List.ext_getElem (by simp) fun i h1 h2 => ?_
  rw [List.getElem_map, List.getElem_range, List.getD_eq_getElem?_getD, List.getElem?_eq_getElem h2]
  rfl
theorem ddp_ok (ns : List Int) : (ddp ns).Nodup ∧ ∀ k, k ∈ ddp ns ↔ k ∈ ns := by
  have h := foldl_ddp ns [] .nil
  unfold ddp PyProof.Rows.firstMet
  rw [getD_map]
  exact ⟨h.1, fun k => by rw [h.2 k]; simp⟩
theorem perm_of_sub : ∀ {xs ys : List Int}, xs.Nodup → (∀ k ∈ xs, k ∈ ys) → ys.length ≤ xs.length → xs.Perm ys
  | [], ys, _, _, h => by
    have : ys = [] := List.length_eq_zero_iff.mp (by simpa using h)
    rw [this]
  | x :: xs, ys, nd, sub, h => by
    obtain ⟨n1, n2⟩ := List.nodup_cons.mp nd
    have m := sub x List.mem_cons_self
    have p := List.perm_cons_erase m
    have e := p.length_eq
    rw [List.length_cons] at e h
    refine ((perm_of_sub n2 (fun k hk => ?_) (by omega)).cons x).trans p.symm
    have hm := sub k (List.mem_cons_of_mem _ hk)
    rcases List.mem_cons.mp (p.mem_iff.mp hm) with z | z
    · exact (n1 (z ▸ hk)).elim
    · exact z
theorem ddp_len {ns : List Int} : (ddp ns).length = ns.length ↔ ns.Nodup := by
  obtain ⟨h1, h2⟩ := ddp_ok ns
  constructor
  · intro e
    exact (perm_of_sub h1 (fun k hk => (h2 k).mp hk) (by omega)).nodup_iff.mp h1
  · intro h
    exact ((List.perm_ext_iff_of_nodup h1 h).mpr h2).length_eq
def setW (ds : List D) (q : D → Prop) : Prop := match ds with
  | [.lst xs] => ∃ ns : List Int, xs = ns.map D.int ∧ ns.length ≤ 4000 ∧ q (.set (ddp ns))
  | [.tup xs] => ∃ ns : List Int, xs = ns.map D.int ∧ ns.length ≤ 4000 ∧ q (.set (ddp ns))
  | _ => False
def rSetI (K : PySem.W.Frag) : List V → Hp → VK → Prop := fun vs H Q => ∃ (a : Addr) (ns : List Int), vs = [.ref a] ∧ (SqL K H a (ns.map V.int) ∨ SqT K H a (ns.map V.int)) ∧ ns.length ≤ 4000 ∧ ∀ p, H p = none → Q (.ref p) (upd H p (.set (fun k => decide (k ∈ ddp ns)) (ddp ns).length))
theorem call_setI (hc : X.calm = true) : CallR X (.type "set") (rSetI X.K) := by
  rintro pins s σ H vs us Q I rel ⟨c, ns, rfl, seq, few, goal⟩
  obtain ⟨u, rfl, ru⟩ := vals1 rel
  obtain rfl : u = .ref c := ru
  have fin : ∀ (h' : Heap) (tk : Nat), h'.SetOf (intKind X.prog X.w) s.heap.objs.size (fun k => decide (k ∈ ddp ns)) (ddp ns).length → (∀ b o, s.heap.get? b = some o → h'.get? b = some o) → EP X pins σ Q (.ref s.heap.objs.size) { s with heap := h', toks := tk } := fun h' tk so old =>
    ⟨.ref _, _, I.laid (o := .set (fun k => decide (k ∈ ddp ns)) (ddp ns).length) (t' := tk) old (Nat.le_refl _) so, rfl, goal _ (I.hok.fresh (Nat.le_refl _))⟩
  rcases seq with seq | seq
  · obtain ⟨its, rv, pl, _⟩ := I.list seq
    have len : its.toArray.size = ns.length := by rw [List.size_toArray, ← rv.length, List.length_map]
    refine call_set_list (I.ok.hd hc) pl.isList (by simpa using RZ.intsAre_vals rv) (by rw [len]; unfold scanBound; omega) fun h' tk so old => ?_
    rw [len] at so
    have e : (fun k' => (PyProof.Rows.firstMet (fun i => ns.getD i 0) ns.length).any (· == k')) = fun k => decide (k ∈ ddp ns) := by
      funext k
      rw [Bool.eq_iff_iff, List.any_eq_true, decide_eq_true_eq]
      constructor
      · rintro ⟨y, hy, z⟩
        exact eq_of_beq z ▸ hy
      · intro m
        exact ⟨k, m, beq_self_eq_true k⟩
    rw [e] at so
    exact fin h' tk so fun b o z => old b o (Heap.lt_size z) z
  · obtain ⟨its, rv, pl, _⟩ := I.tuple seq
    refine call_set_tupI ns (I.ok.hd hc) (show s.heap.IsTuple c its.toArray from pl) (by simpa using RZ.intsAre_vals rv) (by unfold scanBound; omega) fun h' tk n R _ old => ?_
    obtain ⟨o, es, ep, t, ho, hex, hd, good, nd, mem, scan, fits, hn, _⟩ := R
    have ln : n = (ddp ns).length := by
      have : (es.toList.map keyOf).Perm (ddp ns) := (List.perm_ext_iff_of_nodup nd (ddp_ok ns).1).mpr fun k => by
        rw [← mem k, (ddp_ok ns).2 k, decide_eq_true_eq]
      have := this.length_eq
      rw [List.length_map, Array.length_toList] at this
      omega
    refine fin h' tk ⟨o, es, ep, t, ho, hex, hd, good_elems good, fun k => ?_, scan, fits, by omega⟩ old
    rw [decide_eq_true_eq, (ddp_ok ns).2 k, ← decide_eq_true_eq (p := k ∈ ns), mem k, List.mem_map]
    constructor
    · rintro ⟨e, he, z⟩
      exact ⟨e, he, (good_is (good e he) k).mpr z⟩
    · rintro ⟨e, he, z⟩
      exact ⟨e, he, (good_is (good e he) k).mp z⟩
theorem co_set {K : PySem.W.Frag} (hc : X.calm = true) (hK : X.K = K := by rfl) : CallO X (.type "set") (rSetI K) setW := by
  subst hK
  exact ⟨call_setI hc, fun {vs ds H G q Q} l p hw k => by
  cases p with
  | nil => exact hw.elim
  | cons h t =>
    cases t with
    | cons _ _ => cases h <;> exact hw.elim
    | nil =>
      cases h with
      | lst e hd =>
        obtain ⟨ns, rfl, few, hq⟩ := hw
        have := das_ints_of hd
        subst this
        exact ⟨_, ns, rfl, .inl (SqL.of e), few, fun p np => k _ _ _ hq (.new np True.intro (.set (fun _ => rfl) rfl))⟩
      | tup e hd =>
        obtain ⟨ns, rfl, few, hq⟩ := hw
        have := das_ints_of hd
        subst this
        exact ⟨_, ns, rfl, .inr (l.sqT e), few, fun p np => k _ _ _ hq (.new np True.intro (.set (fun _ => rfl) rfl))⟩
      | _ => exact hw.elim⟩
end
end Dl
set_option maxRecDepth 100000
set_option maxHeartbeats 4000000
/-! the data layer: isinstance, repr, dict(pairs), index, fields -/
namespace Dl
open PySem PySem.Spec PyProof.Rows L2 L3
/-! ### isinstance -/
def tyD : D → String
  | .non => "NoneType"
  | .bl _ => "bool"
  | .int _ => "int"
  | .str _ => "str"
  | .lst _ => "list"
  | .tup _ => "tuple"
  | .dct _ => "dict"
  | .set _ => "set"
  | .ins _ _ => "?"
def isTy (d : D) (T : String) : Bool := match d with
  | .bl _ => T == "bool" || T == "int"
  | .ins _ _ => false
  | d => T == tyD d
def six : List String := ["int", "bool", "str", "list", "tuple", "dict"]
def notIns : D → Bool
  | .ins _ _ => false
  | _ => true
theorem kit6 {T : String} (h : T ∈ six) (d : D) (n : notIns d = true) : kitB (tyD d) T = some (isTy d T) := by
  simp only [six, List.mem_cons, List.not_mem_nil, or_false] at h
  rcases h with rfl | rfl | rfl | rfl | rfl | rfl <;> cases d <;> first | (cases n; done) | (simp only [tyD, isTy]; decide +kernel)
theorem ty_db {K : PySem.W.Frag} {H G : Hp} {v : V} {d : D} (l : Le G H) (h : Db K H G v d) (n : notIns d = true) : TyX K H v (.type (tyD d)) := by
  cases h with
  | non => exact .base .non
  | bl b => exact .base (.bl b)
  | int i => exact .base (.int i)
  | str s => exact .base (.str s)
  | lst e h => exact .base (.lst e)
  | tup e h =>
    rcases l.sqT e with (e | ⟨o, e⟩) | ⟨o, its, m, e, c, _⟩
    · exact .base (.tup e)
    · exact .fTuple e
    · exact .kTuple e c
  | dct e k h =>
    rcases e with e | ⟨o, e⟩
    · exact .base (.dK e)
    · exact .fDict e
  | set e m z => exact .set e
  | ins e k h => cases n
section
variable {X : Cx} {E : XK} {a b e : Expr} {ta tb tc : TD} {tea teb te : TE} {pos p p1 p2 p3 : Pos} {es : List Expr} {taa : TA} {u : TDA}
def dIsi (Ts : List String) (t : TD) : TD := fun ρ er q => t ρ er fun r ρ1 => wd r ρ1 fun d => notIns d = true ∧ q (.imm (.bl (Ts.any fun T => isTy d T))) ρ1
theorem de_isi {K : PySem.W.Frag} {x T : String} (hT : T ∈ six) (ha : DE X E a tea ta) (hm : X.mg "isinstance" = none) (hg : Gl X "isinstance") (hg1 : Gl X (x : Str)) (hm1 : X.mg (x : Str) = none) (hv1 : bootBuiltins (x : Str) = some (.type T)) (hn1 : (x : Str) ≠ "__name__" := by decide) (hd1 : ((x : Str) == ("__debug__" : Str)) = false := by decide)
    (he : starEach (a :: [.Name x p1]) X.env = (false, eval a X.env) :: starEach [.Name x p1] X.env := by rfl) (he2 : starEach [.Name x p1] X.env = (false, eval (.Name x p1) X.env) :: starEach [] X.env := by rfl) (hpl : (backTo pos (starEach [.Name (x : Str) p1] X.env)).any (·.1) = false := by rfl) (hK : X.K = K := by rfl) :
    DE X E (.Call (.Name "isinstance" p) [a, .Name x p1] [] pos) (tCB (rIsi K) (tCons tea (tCons (tC (.ty T)) tNil))) (dIsi [T] ta) := by
  subst hK
  exact 
  ⟨pe_callB call_isi hg hm PyProof.Rows.boot_isinstance (pa_cons ha.1 (pa_cons (pe_bltn hg1 hm1 hv1 rfl hn1 hd1) pa_nil he2) he) (by decide) (by decide) he hpl, fun B er π ρ σ H ws q Q R hE h k => ha.2 B er π ρ σ H ws _ _ R hE h fun r ρ1 v H1 ws1 h1 R1 => by
    obtain ⟨d, ed, n, h1⟩ := wd_of h1
    have V := R1.viewTop ed
    refine ⟨v, .ty T, .type (tyD d), .type T, isTy d T, rfl, .ty T, ty_db mns_le V n, kit_ty (kit6 hT d n), k _ ρ1 _ H1 ws1 ?_ (R1.pop.imm (.bl _))⟩
    simpa using h1⟩
theorem kitAny_of {K : PySem.W.Frag} {d : D} (n : notIns d = true) : ∀ {Ts : List String}, (∀ T ∈ Ts, T ∈ six) → PySem.W.kitAny K (.type (tyD d)) (Ts.map Value.type) = some (Ts.any fun T => isTy d T)
  | [], _ => rfl
  | T :: Ts, h => by
    have e : PySem.W.kitOne K (.type (tyD d)) (.type T) = some (isTy d T) := kit_ty (kit6 (h T List.mem_cons_self) d n)
    show (match PySem.W.kitOne K (.type (tyD d)) (.type T) with | some true => some true | some false => PySem.W.kitAny K (.type (tyD d)) (Ts.map Value.type) | none => none) = _
    rw [e, List.any_cons]
    cases isTy d T with
    | true => rfl
    | false => exact kitAny_of n fun T m => h T (List.mem_cons_of_mem _ m)
theorem de_isi2 {K : PySem.W.Frag} {x1 x2 T1 T2 : String} {k3 : Nat} (h1 : T1 ∈ six) (h2 : T2 ∈ six) (ha : DE X E a tea ta) (hm : X.mg "isinstance" = none) (hg : Gl X "isinstance") (hg1 : Gl X (x1 : Str)) (hm1 : X.mg (x1 : Str) = none) (hv1 : bootBuiltins (x1 : Str) = some (.type T1))
    (hg2 : Gl X (x2 : Str)) (hm2 : X.mg (x2 : Str) = none) (hv2 : bootBuiltins (x2 : Str) = some (.type T2)) (hn1 : (x1 : Str) ≠ "__name__" := by decide) (hd1 : ((x1 : Str) == ("__debug__" : Str)) = false := by decide) (hn2 : (x2 : Str) ≠ "__name__" := by decide) (hd2 : ((x2 : Str) == ("__debug__" : Str)) = false := by decide)
    (he : starEach (a :: [.Tuple [.Name x1 p1, .Name x2 p2] k3 p3]) X.env = (false, eval a X.env) :: starEach [.Tuple [.Name x1 p1, .Name x2 p2] k3 p3] X.env := by rfl) (he2 : starEach [.Tuple [.Name (x1 : Str) p1, .Name (x2 : Str) p2] k3 p3] X.env = (false, eval (.Tuple [.Name x1 p1, .Name x2 p2] k3 p3) X.env) :: starEach [] X.env := by rfl)
    (he3 : starEach [.Name (x1 : Str) p1, .Name (x2 : Str) p2] X.env = (false, eval (.Name x1 p1) X.env) :: starEach [.Name x2 p2] X.env := by rfl) (he4 : starEach [.Name (x2 : Str) p2] X.env = (false, eval (.Name x2 p2) X.env) :: starEach [] X.env := by rfl) (hpl : (backTo pos (starEach [.Tuple [.Name (x1 : Str) p1, .Name (x2 : Str) p2] k3 p3] X.env)).any (·.1) = false := by rfl) (hK : X.K = K := by rfl) :
    DE X E (.Call (.Name "isinstance" p) [a, .Tuple [.Name x1 p1, .Name x2 p2] k3 p3] [] pos) (tCB (rIsiT K) (tCons tea (tCons (tTup (tCons (tC (.ty T1)) (tCons (tC (.ty T2)) tNil))) tNil))) (dIsi [T1, T2] ta) := by
  subst hK
  exact 
  ⟨pe_callB call_isiT hg hm PyProof.Rows.boot_isinstance (pa_cons ha.1 (pa_cons (pe_tup (pa_cons (pe_bltn hg1 hm1 hv1 rfl hn1 hd1) (pa_cons (pe_bltn hg2 hm2 hv2 rfl hn2 hd2) pa_nil he4) he3)) pa_nil he2) he) (by decide) (by decide) he hpl, fun B er π ρ σ H ws q Q R hE h k => ha.2 B er π ρ σ H ws _ _ R hE h fun r ρ1 v H1 ws1 hw R1 => by
    obtain ⟨d, ed, n, hw⟩ := wd_of hw
    refine ⟨by show 2 ≤ sizeLine; decide, fun t nt => ?_⟩
    have R2 : Rel X.K B ((v, r) :: π) ρ1 σ (upd H1 t (.tup [.ty T1, .ty T2])) ws1 := R1.allocG nt
    have V := R2.viewTop ed
    have six' : ∀ T ∈ [T1, T2], T ∈ six := fun T m => by
      rcases List.mem_cons.mp m with rfl | m
      · exact h1
      · rw [List.mem_singleton.mp m]; exact h2
    exact ⟨v, t, [.ty T1, .ty T2], .type (tyD d), [.type T1, .type T2], _, rfl, upd_same, .cons (.ty T1) (.cons (.ty T2) .nil), ty_db mns_le V n, kitAny_of n six', k _ ρ1 _ _ ws1 hw (R2.pop.imm (.bl _))⟩⟩
/-! ### repr -/
def shOk (d : D) : Prop := d.pl = true ∧ d.py.showable = true ∧ d.py.depth ≤ 9 ∧ d.py.shown.length ≤ sizeLine
mutual
theorem pl_nodict : ∀ d : D, d.pl = true → d.py.hasDict = false
  | .non, _ => rfl
  | .bl _, _ => rfl
  | .int _, _ => rfl
  | .str _, _ => rfl
  | .lst xs, h => by
    show PyData.hasDictAll (D.pys xs) = false
    exact pls_nodict xs h
  | .tup xs, h => by
    show PyData.hasDictAll (D.pys xs) = false
    exact pls_nodict xs h
  | .dct _, h => by cases h
  | .set _, h => by cases h
  | .ins _ _, h => by cases h
theorem pls_nodict : ∀ ds : List D, D.pls ds = true → PyData.hasDictAll (D.pys ds) = false
  | [], _ => rfl
  | d :: ds, h => by
    have h' : (D.pl d && D.pls ds) = true := h
    rw [Bool.and_eq_true] at h'
    show (PyData.hasDict d.py || PyData.hasDictAll (D.pys ds)) = false
    rw [pl_nodict d h'.1, pls_nodict ds h'.2]
    rfl
end
def reprW (ds : List D) (q : D → Prop) : Prop := match ds with
  | [d] => shOk d ∧ q (.str d.py.shown)
  | _ => False
def rReprA (K : PySem.W.Frag) : List V → Hp → VK → Prop := fun xs H Q => ∃ v d, xs = [v] ∧ Dp K H v d ∧ d.hasDict = false ∧ d.showable = true ∧ d.depth ≤ 9 ∧ d.shown.length ≤ sizeLine ∧ Q (.str d.shown) H
theorem call_reprA {k : Nat} (gd : X.A.guards = some []) (hr : Room k X.A) : CallR X (.builtin "repr") (rReprA X.K) := by
  rintro pins s σ H xs us Q I rel ⟨v, d, rfl, dp, nd, sh, dep, len, goal⟩
  obtain ⟨u, rfl, ru⟩ := vals1 rel
  have room := hr.un
  obtain ⟨as, rd⟩ := Dp.reads I d v u dp ru
  have deep : ∀ {c : Addr}, u = .ref c → wpAny (model X.prog X.w) X.A (call (.builtin "repr") [u]) (EP X pins σ Q) X.xe s := by
    rintro c rfl
    exact repr_of_reads' rd sh (fun z => by rw [nd] at z; cases z) gd (by omega) (fun _ _ z => z) (fun h2 u2 tk2 old => ⟨.str d.shown, H, L3.grown I old, ⟨_, rfl⟩, goal⟩) len
  cases rd with
  | none => exact P.repr_of_none ⟨.str _, H, I.tok _, ⟨_, rfl⟩, goal⟩
  | bool b => exact P.repr_of_bool ⟨.str _, H, I.tok _, ⟨_, rfl⟩, goal⟩
  | int i => exact P.repr_of_int (by simpa [PyData.showable] using sh) ⟨.str _, H, I.tok _, ⟨_, rfl⟩, goal⟩
  | str x => exact P.repr_of_str ⟨.str _, H, I.tok _, ⟨_, rfl⟩, goal⟩ len
  | list => exact deep rfl
  | tuple => exact deep rfl
  | dict => exact deep rfl
theorem cd_repr {K : PySem.W.Frag} {k : Nat} (gd : X.A.guards = some []) (hr : Room k X.A) (hK : X.K = K := by rfl) : CallD X (.builtin "repr") (rReprA K) reprW := by
  subst hK
  exact ⟨call_reprA gd hr, fun {vs ds H G q Q} l p hw k => by
  unfold reprW at hw
  split at hw
  · cases p with
    | cons h t =>
      cases t
      obtain ⟨⟨h1, h2, h3, h4⟩, hq⟩ := hw
      exact ⟨_, _, rfl, h.dp l h1, pl_nodict _ h1, h2, h3, h4, k _ _ _ hq (.same (.str _))⟩
  · exact hw.elim⟩
/-! ### dict(list of pairs) -/
def pairsD : List D → Option (List (Key × D))
  | [] => some []
  | .tup [k, d] :: ds => (k.key).bind fun j => (pairsD ds).map fun ps => (j, d) :: ps
  | _ => none
def mrgD (ps more : List (Key × D)) : List (Key × D) := more.foldl (fun acc p => puD acc p.1 p.2) ps
def dictW (ds : List D) (q : D → Prop) : Prop := match ds with
  | [.lst xs] => optW (pairsD xs) fun ps => q (.dct (mrgD [] ps))
  | _ => False
theorem Kd.merge {K : PySem.W.Frag} {G : Hp} : ∀ {more : List (Key × V)} {mp : List (Key × D)} {kvs : List (Key × V)} {ps : List (Key × D)}, Kd K G kvs ps → Kd K G more mp → Kd K G (mergeK kvs more) (mrgD ps mp)
  | [], [], _, _, h, _ => h
  | [], _ :: _, _, _, _, h => by have := h.1; cases this
  | _ :: _, [], _, _, _, h => by have := h.1; cases this
  | (q1, q2) :: more, (p1, p2) :: mp, kvs, ps, h, m => by
    obtain ⟨e, a, t⟩ := m.uncons
    obtain rfl : q1 = p1 := e
    show Kd K G (mergeK (putK kvs q1 q2) more) (mrgD (puD ps q1 p2) mp)
    exact Kd.merge (h.put q1 a) t
theorem pairs_of {K : PySem.W.Frag} {G H : Hp} (l : Le G H) : ∀ {vs : List V} {ds : List D} {ps : List (Key × D)}, Das K G vs ds → pairsD ds = some ps → ∃ (as : List Addr) (kvs : List (Key × V)), vs = as.map V.ref ∧ Paired (fun p kv => SqT K H p [kV kv.1, kv.2]) as kvs ∧ Kd K G kvs ps
  | _, [], ps, .nil, e => by
    cases e
    exact ⟨[], [], rfl, .nil, .nil⟩
  | _, d :: ds, ps, .cons h t, e => by
    unfold pairsD at e
    split at e
    · rename_i heq; cases heq
    · rename_i k d' ds' heq
      cases heq
      obtain ⟨j, ej, e⟩ := Option.bind_eq_some_iff.mp e
      obtain ⟨ps', e2, rfl⟩ := Option.map_eq_some_iff.mp e
      obtain ⟨as, kvs, rfl, p, kd⟩ := pairs_of l t e2
      cases h with
      | tup e hd =>
        cases hd with
        | cons hk t2 =>
          cases t2 with
          | cons hv t3 =>
            cases t3
            have ek : _ = kV j := key_db (Db.ofDa l hk) ej
            subst ek
            exact ⟨_ :: as, (j, _) :: kvs, rfl, .cons (l.sqT e) p, .cons hv kd⟩
    · cases e
theorem co_dict {K : PySem.W.Frag} (hc : X.calm = true) (hK : X.K = K := by rfl) : CallO X (.type "dict") (fun xs H Q => ∃ (a : Addr) (ps : List Addr) (kvs : List (Key × V)), xs = [.ref a] ∧ SqL K H a (ps.map V.ref) ∧ Paired (fun p kv => SqT K H p [kV kv.1, kv.2]) ps kvs ∧
    ∀ p, H p = none → Q (.ref p) (upd H p (.dK (mergeK [] kvs)))) dictW := by
  subst hK
  exact ⟨call_dictP hc, fun {vs ds H G q Q} l p hw k => by
  cases p with
  | nil => exact hw.elim
  | cons h t =>
    cases t with
    | cons _ _ => cases h <;> exact hw.elim
    | nil =>
      cases h with
      | lst e hd =>
        obtain ⟨ps, ep, hq⟩ := optW_of hw
        obtain ⟨as, kvs, rfl, pr, kd⟩ := pairs_of l hd ep
        have m := Kd.merge (K := X.K) .nil kd
        exact ⟨_, as, kvs, rfl, SqL.of e, pr, fun p np => k _ _ _ hq (.new np True.intro (.dct m.1 m.2))⟩
      | _ => exact hw.elim⟩
/-! ### fields of an instance -/
def fldD (d : D) (f : Str) (q : D → Prop) : Prop := match d with
  | .ins _ ps => optW (ps.lookup f) q
  | _ => False
def isIns (d : D) (C : Addr) : Prop := match d with
  | .ins C' _ => C' = C
  | _ => False
def dFld (C : Addr) (f : Str) (t : TD) : TD := fun ρ er q => t ρ er fun r ρ1 => wd r ρ1 fun d => isIns d C ∧ fldD d f fun d' => q (.imm d') ρ1
theorem das_lookup {K : PySem.W.Frag} {G : Hp} {f : Str} {d : D} : ∀ {fs : List (Str × V)} {ps : List (Str × D)}, fs.map (·.1) = ps.map (·.1) → Das K G (fs.map (·.2)) (ps.map (·.2)) → ps.lookup f = some d → ∃ v, fs.lookup f = some v ∧ Da K G v d
  | [], [], _, _, e => by cases e
  | [], _ :: _, h, _, _ => by cases h
  | _ :: _, [], h, _, _ => by cases h
  | (q1, q2) :: fs, (p1, p2) :: ps, h, hd, e => by
    obtain ⟨h1, h2⟩ := List.cons.inj h
    have h1' : q1 = p1 := h1
    subst h1'
    cases hd with
    | cons a t =>
      rw [List.lookup_cons] at e ⊢
      by_cases z : (f == q1) = true
      · rw [z] at e ⊢
        cases e
        exact ⟨q2, rfl, a⟩
      · rw [Bool.not_eq_true] at z
        rw [z] at e ⊢
        exact das_lookup h2 t e
theorem de_fld {K : PySem.W.Frag} {C : Addr} {f : Str} (cl : Cls X.K C) (na : NoAttr X.K C f) (ha : DE X E a tea ta) (hb : attributeBase a f X.env (eval a X.env) = eval a X.env) (hK : X.K = K := by rfl) : DE X E (.Attribute a f pos) (tFld K tea f) (dFld C f ta) := by
  subst hK
  exact 
  ⟨pe_fld ha.1 hb, fun B er π ρ σ H ws q Q R hE h k => ha.2 B er π ρ σ H ws _ _ R hE h fun r ρ1 v H1 ws1 h1 R1 => by
    obtain ⟨d, ed, hc, hf⟩ := wd_of h1
    clear h1
    have V := R1.viewTop ed
    cases V with
    | ins e kk hd =>
      obtain rfl := hc
      obtain ⟨d', e1, hf⟩ := optW_of hf
      obtain ⟨w, e2, hv⟩ := das_lookup kk hd e1
      exact ⟨_, _, _, _, w, rfl, e, cl, na, e2, k _ ρ1 w H1 ws1 hf (R1.pop.imm hv)⟩
    | _ => exact hc.elim⟩
end
end Dl
set_option maxRecDepth 100000
set_option maxHeartbeats 4000000
/-! the data layer: dicts that are walked; dict comprehensions -/
namespace Dl
open PySem PySem.Spec PyProof.Rows L2 L3
def Base.lock (B : Base) (d : Addr) (o : HO) : Base := { B with H0 := upd B.H0 d o }
section
variable {K : PySem.W.Frag} {B : Base} {π : List (V × Sl)} {ρ : Rho} {σ : L2.St} {H : Hp} {ws : List Addr} {v : V} {x : Sl} {d a : Addr} {kvs : List (Key × V)} {od : Obj}
theorem Rel.P_ws0 (R : Rel K B π ρ σ H ws) : ∀ a ∈ B.P, a ∈ B.ws0 := fun a m => by
  unfold Base.P at m
  rcases List.mem_append.mp m with m | m
  · obtain ⟨⟨i, b⟩, h, rfl⟩ := List.mem_map.mp m
    exact (R.ps i b h).1
  · cases q : B.dr with
    | none => rw [q] at m; simp at m
    | some p =>
      obtain ⟨e, st⟩ := p
      rw [q] at m
      obtain ⟨h1, h2, _⟩ := R.dr e st q
      simp at m
      rcases m with rfl | rfl
      · exact h1
      · exact h2
/-- a dict that is data stands locked -/
theorem Rel.lock (R : Rel K B π ρ σ H ws) (nd : d ∉ ws) (ho : Rd H d (.dK kvs)) (hd : ∀ ob, H d = some (.frz ob (.dK kvs)) → ob = od) : Rel K (B.lock d (.frz od (.dK kvs))) π ρ σ (upd H d (.frz od (.dK kvs))) ws := by
  have l : Le (mns ws H) (mns ws (upd H d (.frz od (.dK kvs)))) := fun b u e => by
    obtain ⟨n, q⟩ := mns_some e
    by_cases z : b = d
    · subst z
      refine .inr (.inl ⟨kvs, ?_, .inr ⟨od, mns_of n upd_same⟩⟩)
      rcases ho with h | ⟨ob, h⟩
      · rw [h] at q; cases q; exact .inl rfl
      · rw [h] at q; cases q; exact .inr ⟨ob, rfl⟩
    · exact .inl (mns_of n (by rw [upd_ne z]; exact q))
  have apart : ∀ b ∈ ws, b ≠ d := fun b m z => nd (z ▸ m)
  have ent : ∀ {w : V} {y : Sl}, Ent K B σ H ws w y → Ent K (B.lock d (.frz od (.dK kvs))) σ (upd H d (.frz od (.dK kvs))) ws w y := fun {w y} h => by
    cases y with
    | no => trivial
    | imm dd => exact Da.le l h
    | own dd =>
      obtain ⟨b, u, e, m, n, ho, mu, t⟩ := h
      exact ⟨b, u, e, m, by show upd B.H0 d _ b = none; rw [upd_ne (apart b m)]; exact n, by rw [upd_ne (apart b m)]; exact ho, mu, t.le l⟩
    | par dd =>
      obtain ⟨b, u, e, m, n, ho, mu, t⟩ := h
      exact ⟨b, u, e, m, n, by rw [upd_ne (apart b m)]; exact ho, mu, t.le l⟩
    | drw => exact h
    | slot i => exact h
  refine { R with sl := fun i y e n => ?_, pn := fun p hp => ent (R.pn p hp), wl := fun b m => ?_, w0 := fun b m => ?_, keep := fun b u e n n2 => ?_, tab := fun P q t => ?_, stay := fun b n => ?_, wsH := fun b m => ?_, dr := fun e st q => ?_ }
  · obtain ⟨w, h1, h2⟩ := R.sl i y e n
    exact ⟨w, h1, ent h2⟩
  · rcases R.wl b m with h | h
    · exact .inl h
    · right
      show upd B.H0 d _ b = none
      rw [upd_ne (apart b m)]; exact h
  · show upd B.H0 d _ b ≠ none
    rw [upd_ne (apart b (R.wg b m))]; exact R.w0 b m
  · change upd B.H0 d _ b = some u at e
    by_cases z : b = d
    · subst z
      rw [upd_same] at e ⊢
      exact e
    · rw [upd_ne z] at e ⊢
      exact R.keep b u e n n2
  · have rdo : ∃ u, H d = some u ∧ (∀ ps, u ≠ .tbl ps) ∧ ∀ p, u ≠ .ext p := by
      rcases ho with h | ⟨ob, h⟩ <;> exact ⟨_, h, fun _ z => (nomatch z), fun _ z => (nomatch z)⟩
    obtain ⟨u, e, n⟩ := rdo
    refine tab_upd (R.tab P q (tab_at t fun b o h z => ?_)) e n
    change upd B.H0 d _ b = some o at h
    by_cases y : b = d
    · subst y
      rw [upd_same] at h
      cases h
      rcases z with ⟨_, _, z⟩ | ⟨_, z⟩ <;> cases z
    · rw [upd_ne y] at h
      exact h
  · by_cases z : b = d
    · subst z; rw [upd_same]; simp
    · rw [upd_ne z]
      refine R.stay b ?_
      change upd B.H0 d _ b ≠ none at n
      rw [upd_ne z] at n; exact n
  · rw [upd_ne (apart b m)]; exact R.wsH b m
  · obtain ⟨h1, h2, ⟨ms, sp, mx, h3, h4, h5⟩, h6⟩ := R.dr e st q
    exact ⟨h1, h2, ⟨ms, sp, mx, by rw [upd_ne (apart e (R.wg e h1))]; exact h3, by rw [upd_ne (apart st (R.wg st h2))]; exact h4, h5⟩, h6⟩
theorem Rel.lockAt (R : Rel K (B.lock d (.frz od (.dK kvs))) π ρ σ H ws) (nd : d ∉ B.ws0) : H d = some (.frz od (.dK kvs)) ∧ d ∉ ws := by
  refine ⟨R.keep d _ upd_same (fun m => nd (R.P_ws0 d m)) (fun _ z => nomatch z), fun m => ?_⟩
  rcases R.wl d m with h | h
  · exact nd h
  · change upd B.H0 d _ d = none at h
    rw [upd_same] at h
    cases h
/-- .. and is open again (or stays locked, if it was) -/
theorem Rel.unlock {u : HO} (R : Rel K (B.lock d (.frz od (.dK kvs))) π ρ σ H ws) (nd : d ∉ B.ws0) (hu : u = .dK kvs ∨ u = .frz od (.dK kvs)) (h0 : (∀ o, B.H0 d = some o → (∀ ps, o ≠ .tbl ps) → o = u) ∧ ∀ q, ¬ LamX.TabS B.H0 d q) : Rel K B π ρ σ (upd H d u) ws := by
  obtain ⟨hd, nw⟩ := R.lockAt nd
  have l : Le (mns ws H) (mns ws (upd H d u)) := fun b w e => by
    obtain ⟨n, q⟩ := mns_some e
    by_cases z : b = d
    · subst z
      rw [hd] at q
      cases q
      refine .inr (.inl ⟨kvs, .inr ⟨od, rfl⟩, ?_⟩)
      rcases hu with rfl | rfl
      · exact .inl (mns_of n upd_same)
      · exact .inr ⟨od, mns_of n upd_same⟩
    · exact .inl (mns_of n (by rw [upd_ne z]; exact q))
  have apart : ∀ b ∈ ws, b ≠ d := fun b m z => nw (z ▸ m)
  have ent : ∀ {w : V} {y : Sl}, Ent K (B.lock d (.frz od (.dK kvs))) σ H ws w y → Ent K B σ (upd H d u) ws w y := fun {w y} h => by
    cases y with
    | no => trivial
    | imm dd => exact Da.le l h
    | own dd =>
      obtain ⟨b, o, e, m, n, ho, mu, t⟩ := h
      refine ⟨b, o, e, m, ?_, by rw [upd_ne (apart b m)]; exact ho, mu, t.le l⟩
      change upd B.H0 d _ b = none at n
      rw [upd_ne (apart b m)] at n; exact n
    | par dd =>
      obtain ⟨b, o, e, m, n, ho, mu, t⟩ := h
      exact ⟨b, o, e, m, n, by rw [upd_ne (apart b m)]; exact ho, mu, t.le l⟩
    | drw => exact h
    | slot i => exact h
  refine { R with sl := fun i y e n => ?_, pn := fun p hp => ent (R.pn p hp), wl := fun b m => ?_, w0 := fun b m => ?_, keep := fun b o e n n2 => ?_, tab := fun P q t => ?_, stay := fun b n => ?_, wsH := fun b m => ?_, dr := fun e st q => ?_ }
  · obtain ⟨w, h1, h2⟩ := R.sl i y e n
    exact ⟨w, h1, ent h2⟩
  · rcases R.wl b m with h | h
    · exact .inl h
    · right
      change upd B.H0 d _ b = none at h
      rw [upd_ne (apart b m)] at h; exact h
  · have := R.w0 b m
    change upd B.H0 d _ b ≠ none at this
    rw [upd_ne (apart b (R.wg b m))] at this; exact this
  · by_cases z : b = d
    · subst z
      rw [upd_same, h0.1 o e n2]
    · rw [upd_ne z]
      refine R.keep b o ?_ n n2
      show upd B.H0 d _ b = some o
      rw [upd_ne z]; exact e
  · refine tab_upd (R.tab P q (tab_at t fun b o h z => ?_)) hd ⟨fun _ z => (nomatch z), fun _ z => (nomatch z)⟩
    show upd B.H0 d _ b = some o
    by_cases y : b = d
    · subst y
      rcases z with ⟨rfl, ps, rfl⟩ | ⟨p, rfl⟩
      · exact (h0.2 q t).elim
      · have y := h0.1 _ h (fun _ z => nomatch z)
        rcases hu with rfl | rfl <;> cases y
    · rw [upd_ne y]; exact h
  · by_cases z : b = d
    · subst z; rw [upd_same]; simp
    · rw [upd_ne z]
      refine R.stay b ?_
      show upd B.H0 d _ b ≠ none
      rw [upd_ne z]; exact n
  · rw [upd_ne (apart b m)]; exact R.wsH b m
  · obtain ⟨h1, h2, ⟨ms, sp, mx, h3, h4, h5⟩, h6⟩ := R.dr e st q
    exact ⟨h1, h2, ⟨ms, sp, mx, by rw [upd_ne (apart e (R.wg e h1))]; exact h3, by rw [upd_ne (apart st (R.wg st h2))]; exact h4, h5⟩, h6⟩
end
/-! ### what is walked -/
structure DM (K : PySem.W.Frag) (i : Nat) (wi : TI) (it : Addr → Obj → List (Key × V) → It) (its : List (Key × D) → List D) : Prop where
  run : ∀ (σ : L2.St) (H : Hp) (R : It → Hp → Prop) (d : Addr) (o : Obj) (kvs : List (Key × V)), σ[i]? = some (some (.ref d)) → H d = some (.frz o (.dK kvs)) → R (it d o kvs) H → wi σ H R
  walk : ∀ (B : Base) (π : List (V × Sl)) (d : Addr) (o : Obj) (kvs : List (Key × V)) (ps : List (Key × D)), (V.ref d, Sl.imm (.dct ps)) ∈ π → d ∉ B.ws0 → WalkD K (B.lock d (.frz o (.dK kvs))) π (it d o kvs) (its ps)
section
variable {K : PySem.W.Frag} {i : Nat}
theorem lock_kd {B : Base} {π : List (V × Sl)} {ρ : Rho} {σ : L2.St} {H : Hp} {ws : List Addr} {d : Addr} {o : Obj} {kvs : List (Key × V)} {ps : List (Key × D)} (R : Rel K (B.lock d (.frz o (.dK kvs))) π ρ σ H ws) (m : (V.ref d, Sl.imm (.dct ps)) ∈ π) (nd : d ∉ B.ws0) :
    H d = some (.frz o (.dK kvs)) ∧ Kd K (mns ws H) kvs ps := by
  obtain ⟨hd, nw⟩ := R.lockAt nd
  have t : Da K (mns ws H) (.ref d) (.dct ps) := R.pn _ m
  cases t with
  | dct e k h =>
    have e' : mns ws H d = some (.frz o (.dK kvs)) := mns_of nw hd
    rcases e with e | ⟨ob, e⟩
    · rw [e'] at e; cases e
    · rw [e'] at e; cases e; exact ⟨hd, k, h⟩
theorem Kd.at {G : Hp} {j : Nat} {p : Key × D} : ∀ {j : Nat} {kvs : List (Key × V)} {ps : List (Key × D)}, Kd K G kvs ps → ps[j]? = some p → ∃ v, kvs[j]? = some (p.1, v) ∧ Da K G v p.2
  | _, [], [], _, e => by simp at e
  | _, [], _ :: _, h, _ => by have := h.1; cases this
  | _, _ :: _, [], h, _ => by have := h.1; cases this
  | 0, (q1, q2) :: kvs, (p1, p2) :: ps, h, e => by
    simp at e
    subst e
    obtain ⟨z, a, _⟩ := h.uncons
    obtain rfl : q1 = p1 := z
    exact ⟨q2, rfl, a⟩
  | j + 1, q :: kvs, r :: ps, h, e => by
    obtain ⟨_, _, t⟩ := h.uncons
    obtain ⟨v, h1, h2⟩ := Kd.at (j := j) (p := p) t (by simpa using e)
    exact ⟨v, by simpa using h1, h2⟩
def keysOf (ps : List (Key × D)) : List D := ps.map fun p => keyD p.1
def valsOf (ps : List (Key × D)) : List D := ps.map (·.2)
def itemsOf (ps : List (Key × D)) : List D := ps.map fun p => .tup [keyD p.1, p.2]
theorem da_key {G : Hp} (k : Key) : Da K G (kV k) (keyD k) := by
  cases k with
  | inl i => exact .int i
  | inr s => exact .str s
theorem dm_keysW (B : Base) (π : List (V × Sl)) (d : Addr) (o : Obj) (kvs : List (Key × V)) (ps : List (Key × D)) (m : (V.ref d, Sl.imm (.dct ps)) ∈ π) (nd : d ∉ B.ws0) : WalkD K (B.lock d (.frz o (.dK kvs))) π (Itk d o kvs) (keysOf ps) := by
  refine ⟨fun ρ σ H ws i R hi => ?_, fun ρ σ H ws R => ?_, fun ρ σ H ws i x y H' R e yy => ?_⟩
  · obtain ⟨h1, h2⟩ := lock_kd R m nd
    exact ⟨h1, by rw [h2.length]; simpa [keysOf] using hi⟩
  · obtain ⟨h1, h2⟩ := lock_kd R m nd
    exact ⟨h1, by rw [h2.length]; simp [keysOf]⟩
  · obtain ⟨h1, h2⟩ := lock_kd R m nd
    obtain ⟨rfl, k, v, e1, rfl⟩ := yy
    unfold keysOf at e
    rw [List.getElem?_map] at e
    obtain ⟨p, ep, rfl⟩ := Option.map_eq_some_iff.mp e
    obtain ⟨v', e2, _⟩ := h2.at (j := i) ep
    rw [e1] at e2
    cases e2
    exact .same (da_key _)
theorem dm_keys : DM K i (iKeys (tVar i)) Itk keysOf :=
  ⟨fun σ H R d o kvs h1 h2 q => ⟨_, h1, d, o, rfl, .inl ⟨kvs, h2, q⟩⟩, dm_keysW⟩
theorem dm_keysM : DM K i (iKeysM (tVar i)) Itk keysOf :=
  ⟨fun σ H R d o kvs h1 h2 q => ⟨_, h1, d, o, kvs, rfl, h2, q⟩, dm_keysW⟩
theorem dm_vals : DM K i (iVals (tVar i)) Itd valsOf := by
  refine ⟨fun σ H R d o kvs h1 h2 q => ⟨_, h1, d, o, kvs, rfl, h2, q⟩, fun B π d o kvs ps m nd => ⟨fun ρ σ H ws i R hi => ?_, fun ρ σ H ws R => ?_, fun ρ σ H ws i x y H' R e yy => ?_⟩⟩
  · obtain ⟨h1, h2⟩ := lock_kd R m nd
    exact ⟨h1, by rw [h2.length]; simpa [valsOf] using hi⟩
  · obtain ⟨h1, h2⟩ := lock_kd R m nd
    exact ⟨h1, by rw [h2.length]; simp [valsOf]⟩
  · obtain ⟨h1, h2⟩ := lock_kd R m nd
    obtain ⟨rfl, k, e1⟩ := yy
    unfold valsOf at e
    rw [List.getElem?_map] at e
    obtain ⟨p, ep, rfl⟩ := Option.map_eq_some_iff.mp e
    obtain ⟨v', e2, hv⟩ := h2.at (j := i) ep
    rw [e1] at e2
    cases e2
    exact .same hv
theorem dm_items : DM K i (iItems (tVar i)) Iti itemsOf := by
  refine ⟨fun σ H R d o kvs h1 h2 q => ⟨_, h1, d, o, kvs, rfl, h2, q⟩, fun B π d o kvs ps m nd => ⟨fun ρ σ H ws i R hi => ?_, fun ρ σ H ws R => ?_, fun ρ σ H ws i x y H' R e yy => ?_⟩⟩
  · obtain ⟨h1, h2⟩ := lock_kd R m nd
    exact ⟨h1, by rw [h2.length]; simpa [itemsOf] using hi⟩
  · obtain ⟨h1, h2⟩ := lock_kd R m nd
    exact ⟨h1, by rw [h2.length]; simp [itemsOf]⟩
  · obtain ⟨h1, h2⟩ := lock_kd R m nd
    obtain ⟨T, k, v, e1, rfl, nT, rfl⟩ := yy
    unfold itemsOf at e
    rw [List.getElem?_map] at e
    obtain ⟨p, ep, rfl⟩ := Option.map_eq_some_iff.mp e
    obtain ⟨v', e2, hv⟩ := h2.at (j := i) ep
    rw [e1] at e2
    cases e2
    exact .new nT (.tup (.cons (da_key _) (.cons hv .nil)))
end
/-- the dict of a slot, as data -/
def dctS (ρ : Rho) (i : Nat) (k : List (Key × D) → Rho → Prop) : Prop := match ρ[i]? with
  | some (.imm (.dct ps)) => k ps ρ
  | some (.own (.dct ps)) => k ps (ρ.set i (.imm (.dct ps)))
  | _ => False
theorem dctS_of {K : PySem.W.Frag} {B : Base} {π : List (V × Sl)} {ρ : Rho} {σ : L2.St} {H : Hp} {ws : List Addr} {i : Nat} {k : List (Key × D) → Rho → Prop} (R : Rel K B π ρ σ H ws) (h : dctS ρ i k) :
    ∃ d kvs ps ρ1 ws1, σ[i]? = some (some (.ref d)) ∧ d ∉ ws1 ∧ Rd H d (.dK kvs) ∧ k ps ρ1 ∧ Rel K B ((.ref d, .imm (.dct ps)) :: π) ρ1 σ H ws1 := by
  have fin : ∀ {ρ1 ws1 v ps}, σ[i]? = some (some v) → Rel K B ((v, .imm (.dct ps)) :: π) ρ1 σ H ws1 → k ps ρ1 → ∃ d kvs ps ρ1 ws1, σ[i]? = some (some (.ref d)) ∧ d ∉ ws1 ∧ Rd H d (.dK kvs) ∧ k ps ρ1 ∧ Rel K B ((.ref d, .imm (.dct ps)) :: π) ρ1 σ H ws1 := fun {ρ1 ws1 v ps} e R hk => by
    have t : Da K (mns ws1 H) v (.dct ps) := R.top
    cases t with
    | dct e1 kk h =>
      refine ⟨_, _, ps, ρ1, ws1, e, ?_, mns_le.rd e1, hk, R⟩
      rcases e1 with e1 | ⟨_, e1⟩
      · exact (mns_some e1).1
      · exact (mns_some e1).1
  unfold dctS at h
  split at h
  · rename_i ps e
    obtain ⟨v, h1, h2⟩ := R.sl i _ e (fun z => nomatch z)
    exact fin h1 (R.imm h2) h
  · rename_i ps e
    obtain ⟨ws', v, h1, F⟩ := R.frzSlot e
    exact fin h1 F h
  · exact h.elim
/-! ### statements and values that run while the dict is locked -/
def tOpen (t : TS) : TS := fun D σ H => t D σ H ∨ tLock t D σ H
def tOpenE (t : TE) : TE := fun σ H Q => t σ H Q ∨ tLockE t σ H Q
section
variable {X : Cx} {E : XK} {tg iter elt kx vx : Expr} {pos : Pos} {st : Stmt} {e : Expr} {ts : TS} {te tk tv : TE} {body : List Stmt} {wi : TI} {g : TG} {tb' : TS} {tdg : TDG} {tdb : TDS} {sl : List Nat} {i : Nat} {it : Addr → Obj → List (Key × V) → It} {its : List (Key × D) → List D}
  {ifs : List Expr} {scope : Scope} {own : List (Str × Nat)} {tt : TT} {tdt : TDT} {tde tdk tdv : TD} {tdi : TDIg}
theorem ps_open (h : PS X st ts) : PS X st (tOpen ts) := ⟨fun pins s σ H D I hw => hw.elim (h.run pins s σ H D I) ((ps_lock h).run pins s σ H D I)⟩
theorem pe_open (h : PE X e te) : PE X e (tOpenE te) := ⟨fun pins s σ H Q I hw => hw.elim (h.run pins s σ H Q I) ((pe_lock h).run pins s σ H Q I)⟩
def noEx : Exn → Prop := fun _ => False
theorem eok_no {K : PySem.W.Frag} {B : Base} {E : XK} : EOk K B noEx E := fun _ h => h.elim
theorem Rel.h0 {K : PySem.W.Frag} {B : Base} {π : List (V × Sl)} {ρ : Rho} {σ : L2.St} {H : Hp} {ws : List Addr} {d : Addr} {u : HO} (R : Rel K B π ρ σ H ws) (nd : d ∉ ws) (hd : H d = some u) (n : ∀ ps, u ≠ .tbl ps := by exact fun _ z => nomatch z) :
    (∀ o, B.H0 d = some o → (∀ ps, o ≠ .tbl ps) → o = u) ∧ ∀ q, ¬ LamX.TabS B.H0 d q := ⟨fun o e n2 => by
  have := R.keep d o e (fun m => nd (R.wg d (R.P_ws0 d m))) n2
  rw [hd] at this
  exact (Option.some.inj this).symm, fun q t => by
  obtain ⟨ps, h, _⟩ := R.tab d q t
  rw [hd] at h
  exact n ps (Option.some.inj h)⟩
def dForD (i : Nat) (its : List (Key × D) → List D) (g : TDG) (body : TDS) : TDS := fun Dd ρ _ => dctS ρ i fun ps ρ1 => forW g body noEx Dd (its ps) ρ1
theorem ds_forD (hp : PassesOwn (model X.prog X.w) X.A X.env X.xe) (hc : X.calm = true) (hi : PI X tg iter wi) (dm : DM X.K i wi it its) (hg : DG X E tg g sl tdg) (hb : DSs X E body tb' tdb) (hs : ∀ x, foldedSetIterable iter X.env x = pure x := by intro _; rfl) :
    DS X E (.For tg iter body [] pos) (tOpen (tFor wi g tb')) (dForD i its tdg tdb) :=
  ⟨ps_open (ps_for hp hc hi hg.1 hb.1 hs), fun B er π ρ σ H ws Dd D R nh hE h L => by
    obtain ⟨d, kvs, ps, ρ1, ws1, e1, nd, rd, h1, R1⟩ := dctS_of R h
    have nd0 : d ∉ B.ws0 := fun m => nd (R1.wg d m)
    have np : NoH [((V.ref d, Sl.imm (.dct ps)) : V × Sl)] := fun p hp j y => by rw [List.mem_singleton.mp hp] at y; cases y
    rcases rd with rd | ⟨od, rd⟩
    · refine .inr ⟨d, .dK kvs, rd, True.intro, fun od => ?_⟩
      have R2 := R1.lock (od := od) nd (.inl rd) (fun ob z => by rw [rd] at z; cases z)
      have h0 := R1.h0 nd rd
      have W := dm.walk B ((V.ref d, Sl.imm (.dct ps)) :: π) d od kvs ps List.mem_cons_self nd0
      refine dm.run σ _ _ d od kvs e1 upd_same (for_core (K := X.K) W R2 (noH_append np nh) (eok_no (B := B.lock d (.frz od (.dK kvs)))) hg hb h1 ?_)
      refine (Link.pend (pend := [(V.ref d, Sl.imm (.dct ps))]) ?_)
      exact ⟨fun ρ σ H ws q R => ⟨(R.lockAt nd0).1, L.nx ρ σ _ ws q (R.unlock nd0 (.inl rfl) h0)⟩, fun r ρ σ v H ws q hv R => ⟨(R.lockAt nd0).1, L.rt r ρ σ v _ ws q hv (R.unlock nd0 (.inl rfl) h0)⟩,
        fun ρ σ H ws q R => ⟨(R.lockAt nd0).1, L.bk ρ σ _ ws q (R.unlock nd0 (.inl rfl) h0)⟩, fun ρ σ H ws q R => ⟨(R.lockAt nd0).1, L.ct ρ σ _ ws q (R.unlock nd0 (.inl rfl) h0)⟩⟩
    · refine .inl ?_
      have R2 := R1.lock (od := od) nd (.inr ⟨od, rd⟩) (fun ob z => by rw [rd] at z; cases z; rfl)
      rw [upd_self rd] at R2
      have h0 := R1.h0 nd rd
      have W := dm.walk B ((V.ref d, Sl.imm (.dct ps)) :: π) d od kvs ps List.mem_cons_self nd0
      refine dm.run σ _ _ d od kvs e1 rd (for_core (K := X.K) W R2 (noH_append np nh) (eok_no (B := B.lock d (.frz od (.dK kvs)))) hg hb h1 ?_)
      refine (Link.pend (pend := [(V.ref d, Sl.imm (.dct ps))]) ?_)
      have un : ∀ {π ρ σ H ws}, Rel X.K (B.lock d (.frz od (.dK kvs))) π ρ σ H ws → Rel X.K B π ρ σ H ws := fun R => by
        have := R.unlock nd0 (.inr rfl) h0
        rwa [upd_self (R.lockAt nd0).1] at this
      exact ⟨fun ρ σ H ws q R => L.nx ρ σ _ ws q (un R), fun r ρ σ v H ws q hv R => L.rt r ρ σ v _ ws q hv (un R), fun ρ σ H ws q R => L.bk ρ σ _ ws q (un R), fun ρ σ H ws q R => L.ct ρ σ _ ws q (un R)⟩⟩
/-- a list comprehension over a dict -/
def dLcD (o : Bool) (i : Nat) (its : List (Key × D) → List D) (g : TDG) (tt : TDT) (te : TD) (vs : List Nat) : TD := fun ρ _ q => dctS ρ i fun ps ρ1 => noPar ρ1 vs ∧ compW gdT g tt te vs noEx (fun acc ρ2 => q (mkS o (.lst acc)) (wipeD ρ2 vs)) (its ps) [] ρ1
theorem walkG_of {K : PySem.W.Frag} {B : Base} {π : List (V × Sl)} {σ : L2.St} {J : It} {items : List D} (W : WalkD K B π J items) : WalkG K B π σ J items gdT :=
  ⟨fun ρ H ws i R _ hi => W.goes ρ σ H ws i R hi, fun ρ H ws R _ => W.stops ρ σ H ws R, fun ρ H ws i d x H' R _ => W.yields ρ σ H ws i d x H' R⟩
theorem de_lcD (o : Bool) (hc : X.calm = true) (hN : X.N.Nodup) (hi : PI X tg iter wi) (dm : DM X.K i wi it its) (ok : BlkOk X.N X.env.scope scope own)
    (hg : ∀ (s : Shared) (H : Hp) (C : Addr) (cl : List (Str × Addr)) (fp : List Addr), DG (X.blk s H scope (compEnvC scope cl C X.env) fp) E tg g sl tdg)
    (ht : ∀ (s : Shared) (H : Hp) (C : Addr) (cl : List (Str × Addr)) (fp : List Addr), DTs (X.blk s H scope (compEnvC scope cl C X.env) fp) E ifs tt tdt)
    (he : ∀ (s : Shared) (H : Hp) (C : Addr) (cl : List (Str × Addr)) (fp : List Addr), DE (X.blk s H scope (compEnvC scope cl C X.env) fp) E elt te tde)
    (hsl : ∀ i ∈ sl, i ∈ own.map (·.2) := by decide) (hs : ∀ x, foldedSetIterable iter X.env x = pure x := by intro _; rfl) :
    DE X E (.ListComp elt [⟨tg, iter, ifs, 0⟩] scope pos) (tOpenE (tLc wi g tt te (own.map (·.2)))) (dLcD o i its tdg tdt tde (own.map (·.2))) :=
  ⟨pe_open (pe_lc hc hN hi ok (fun s H C cl fp => (hg s H C cl fp).1) (fun s H C cl fp => (ht s H C cl fp).1) (fun s H C cl fp => (he s H C cl fp).1) hs), fun B er π ρ σ H ws q Q R hE hw kk => by
    obtain ⟨d, kvs, ps, ρ1, ws1, e1, nd, rd, ⟨np, h1⟩, R1⟩ := dctS_of R hw
    have nd0 : d ∉ B.ws0 := fun m => nd (R1.wg d m)
    rcases rd with rd | ⟨od, rd⟩
    · refine .inr ⟨d, .dK kvs, rd, True.intro, fun od => ?_⟩
      have R2 := R1.lock (od := od) nd (.inl rd) (fun ob z => by rw [rd] at z; cases z)
      have h0 := R1.h0 nd rd
      have W := dm.walk B ((V.ref d, Sl.imm (.dct ps)) :: π) d od kvs ps List.mem_cons_self nd0
      exact dm.run σ _ _ d od kvs e1 upd_same (lc_core2 (pend := [(V.ref d, Sl.imm (.dct ps))]) (Qd := fun D H => H d = some (.frz od (.dK kvs)) ∧ Q (.ref D) (upd H d (.dK kvs))) hg ht he hsl (walkG_of W) R2 eok_no np h1 fun r ρ' D H' ws' h R' =>
        ⟨(R'.lockAt nd0).1, kk r ρ' _ _ ws' h (R'.unlock nd0 (.inl rfl) h0)⟩)
    · refine .inl ?_
      have R2 := R1.lock (od := od) nd (.inr ⟨od, rd⟩) (fun ob z => by rw [rd] at z; cases z; rfl)
      rw [upd_self rd] at R2
      have h0 := R1.h0 nd rd
      have W := dm.walk B ((V.ref d, Sl.imm (.dct ps)) :: π) d od kvs ps List.mem_cons_self nd0
      refine dm.run σ _ _ d od kvs e1 rd (lc_core2 (pend := [(V.ref d, Sl.imm (.dct ps))]) (Qd := fun D H => Q (.ref D) H) hg ht he hsl (walkG_of W) R2 eok_no np h1 fun r ρ' D H' ws' h R' => ?_)
      have := R'.unlock nd0 (.inr rfl) h0
      rw [upd_self (R'.lockAt nd0).1] at this
      exact kk r ρ' _ _ ws' h this⟩
end
end Dl
set_option maxRecDepth 100000
set_option maxHeartbeats 4000000
/-! the data layer: dict comprehensions; enumerate of a list or a tuple -/
namespace Dl
open PySem PySem.Spec PyProof.Rows L2 L3
def compDW (gd : Rho → Prop) (g : TDG) (tt : TDT) (tk tv : TD) (vs : List Nat) (er : Exn → Prop) (q : List (Key × D) → Rho → Prop) : List D → List (Key × D) → Rho → Prop
  | [], acc, ρ => gd ρ ∧ q acc ρ
  | d :: ds, acc, ρ => gd ρ ∧ g (.imm d) (wipeD ρ vs) er fun ρ2 => tt ρ2 er fun b ρ3 => cnd b (tk ρ3 er fun r ρ4 => tv ρ4 er fun s ρ5 => wd r ρ5 fun k => optW k.key fun j => sd s ρ5 fun y => acc.length < sizeLine ∧ compDW gd g tt tk tv vs er q ds (puD acc j y) (wipeD ρ5 vs)) (compDW gd g tt tk tv vs er q ds acc (wipeD ρ3 vs))
theorem compDW_gd {gd : Rho → Prop} {g : TDG} {tt : TDT} {tk tv : TD} {vs : List Nat} {er : Exn → Prop} {q : List (Key × D) → Rho → Prop} {ds : List D} {acc : List (Key × D)} {ρ : Rho} (h : compDW gd g tt tk tv vs er q ds acc ρ) : gd ρ := by
  cases ds with
  | nil => exact h.1
  | cons d ds => exact h.1
def dDc (o : Bool) (t : TDIg) (g : TDG) (tt : TDT) (tk tv : TD) (vs : List Nat) : TD := fun ρ er q => t ρ er fun items gd ρ1 => noPar ρ1 vs ∧ compDW gd g tt tk tv vs er (fun acc ρ2 => q (mkS o (.dct acc)) (wipeD ρ2 vs)) items [] ρ1
section
variable {X : Cx} {E : XK} {kx vx tg iter : Expr} {ifs : List Expr} {scope : Scope} {own : List (Str × Nat)} {pos : Pos} {wi : TI} {g : TG} {tt : TT} {tk tv : TE} {tdi : TDIg} {tdg : TDG} {tdt : TDT} {tdk tdv : TD} {sl : List Nat}
theorem dc_core2 {B : Base} {er : Exn → Prop} {π pend : List (V × Sl)} {ρ : Rho} {σ : L2.St} {H : Hp} {ws : List Addr} {J : It} {items : List D} {gd : Rho → Prop} {o : Bool} {vs : List Nat} {q : Sl → Rho → Prop} {Qd : Addr → Hp → Prop}
    (hg : ∀ (s : Shared) (H : Hp) (C : Addr) (cl : List (Str × Addr)) (fp : List Addr), DG (X.blk s H scope (compEnvC scope cl C X.env) fp) E tg g sl tdg)
    (ht : ∀ (s : Shared) (H : Hp) (C : Addr) (cl : List (Str × Addr)) (fp : List Addr), DTs (X.blk s H scope (compEnvC scope cl C X.env) fp) E ifs tt tdt)
    (hk : ∀ (s : Shared) (H : Hp) (C : Addr) (cl : List (Str × Addr)) (fp : List Addr), DE (X.blk s H scope (compEnvC scope cl C X.env) fp) E kx tk tdk)
    (he : ∀ (s : Shared) (H : Hp) (C : Addr) (cl : List (Str × Addr)) (fp : List Addr), DE (X.blk s H scope (compEnvC scope cl C X.env) fp) E vx tv tdv)
    (hsl : ∀ i ∈ sl, i ∈ vs) (W : WalkG X.K B (pend ++ π) σ J items gd) (R1 : Rel X.K B (pend ++ π) ρ σ H ws) (hE : EOk X.K B er E) (npar : noPar ρ vs) (hq : compDW gd tdg tdt tdk tdv vs er (fun acc ρ2 => q (mkS o (.dct acc)) (wipeD ρ2 vs)) items [] ρ)
    (kk : ∀ r ρ' D H' ws', q r ρ' → Rel X.K B ((.ref D, r) :: π) ρ' σ H' ws' → Qd D H') :
    ∀ D, H D = none → ∃ Wn : Nat → Nat → Hp → Prop, (∃ m, Wn 0 m (upd H D (.dK []))) ∧ ∀ i m G, Wn i m G → (J.stop i G ∧ Qd D G) ∨ (J.go i G ∧ ∃ Nx : Hp → Prop, (∀ G', Nx G' → ∃ m', m' < m ∧ Wn (i + 1) m' G') ∧ ∀ x G', J.yld i G x G' → g x (wipe σ vs) G' fun τ G2 => wipe τ vs = wipe σ vs ∧ tt τ G2 fun b G3 =>
      if b = true then tk τ G3 fun y G4 => tv τ G4 fun z G5 => ∃ kvs k, y = kV k ∧ G5 D = some (.dK kvs) ∧ kvs.length < sizeLine ∧ Nx (upd G5 D (.dK (putK kvs k z))) else Nx G3) := by
  have Hg := (hg X.s_0 H 0 [] []).2
  have Ht := (ht X.s_0 H 0 [] []).2
  have Hk := (hk X.s_0 H 0 [] []).2
  have He := (he X.s_0 H 0 [] []).2
  intro D nD
  have npB := noPar_of R1 npar
  have np2 : ∀ {π ρ σ H ws}, Rel X.K B π ρ σ H ws → ∀ i ∈ vs, ∀ d, ρ[i]? ≠ some (.par d) := fun R i hi d e => by
    obtain ⟨a, m⟩ := R.pr i d e
    exact npB i hi a m
  have w : Walk J items.length (fun H => ∃ ρ ws, Rel X.K B (pend ++ π) ρ σ H ws ∧ gd ρ) (fun i H x H' => ∀ ρ ws, Rel X.K B (pend ++ π) ρ σ H ws → gd ρ → ∀ d, items[i]? = some d → Res X.K H (mns ws H) x d H') :=
    ⟨fun i H hi ⟨ρ, ws, R, hg⟩ => W.goes ρ H ws i R hg hi, fun H ⟨ρ, ws, R, hg⟩ => W.stops ρ H ws R hg, fun i H x H' _ _ y ρ ws R hg d e => W.yields ρ H ws i d x H' R hg e y⟩
  refine dc_it w (fun i H => ∃ ρ ws acc, Rel X.K B ((.ref D, .own (.dct acc)) :: (pend ++ π)) ρ σ H ws ∧ compDW gd tdg tdt tdk tdv vs er (fun acc ρ2 => q (mkS o (.dct acc)) (wipeD ρ2 vs)) (items.drop i) acc ρ) ?_ ?_ ?_ ?_
  · exact ⟨ρ, _, [], R1.allocO nD True.intro (.dct rfl .nil), hq⟩
  · rintro i H _ ⟨ρ, ws, acc, R, f⟩
    exact ⟨ρ, ws, R.pop, compDW_gd f⟩
  · rintro i x H2 H3 hi ⟨ρ2, ws2, acc, R2, f⟩ y
    rw [List.drop_eq_getElem_cons hi] at f
    obtain ⟨g2, f⟩ := f
    have handles : ∀ v j, (v, Sl.slot j) ∈ (V.ref D, Sl.own (.dct acc)) :: (pend ++ π) → σ[j]? = some (some v) := fun v j m => R2.pn _ m
    have R3 := R2.res (d := items[i]) (H1 := H3) (v := x) (by
      have r := y ρ2 ws2 R2.pop g2 items[i] (List.getElem?_eq_getElem hi)
      exact r)
    have R4 := (R3.unh).reslot unh_noH vs (np2 R3) (σ' := wipe σ vs) (wipe_length σ vs) fun j hj => wipe_at σ j vs hj
    have nh : NoH (unh ((V.ref D, Sl.own (.dct acc)) :: (pend ++ π))) := unh_noH
    refine Hg B er _ _ _ H3 ws2 x (.imm items[i]) _ _ R4 True.intro nh hE f fun ρ3 σ3 H4 ws3 f3 R5 hl hsame => ?_
    have same : ∀ j, j ∉ vs → σ3[j]? = σ[j]? := fun j hj => by
      rw [hsame j fun m => hj (hsl j m), wipe_at σ j vs hj]
    have len3 : σ3.length = σ.length := by rw [hl, wipe_length]
    refine ⟨wipe_eq vs len3 same, Ht B er _ ρ3 σ3 H4 ws3 _ _ R5 hE f3 fun b ρ4 H5 ws4 f4 R6 => ?_⟩
    have back : ∀ {ρ H ws d}, Rel X.K B ((V.ref D, Sl.own d) :: unh (pend ++ π)) ρ σ3 H ws → Rel X.K B ((V.ref D, Sl.own d) :: (pend ++ π)) (wipeD ρ vs) σ H ws := fun {ρ H ws d} R => by
      have r1 := R.reslot (nh := fun p hp j z => by
        rcases List.mem_cons.mp hp with rfl | hp
        · cases z
        · exact unh_noH p hp j z) vs (np2 R) (σ' := σ) len3.symm fun j hj => (same j hj).symm
      refine Rel.reh (π := (V.ref D, Sl.own d) :: (pend ++ π)) r1 (fun v j m => ?_) fun p hp dd z => ?_
      · rcases List.mem_cons.mp m with m | m
        · cases m
        · exact handles v j (List.mem_cons_of_mem _ m)
      · rcases List.mem_cons.mp hp with rfl | hp
        · cases z
        · exact R2.npp p (List.mem_cons_of_mem _ hp) dd z
    cases b with
    | true =>
      refine iteT (Hk B er _ ρ4 σ3 H5 ws4 _ _ R6 hE f4 fun r ρ5 v H6 ws5 f5 R7 => He B er _ ρ5 σ3 H6 ws5 _ _ R7 hE f5 fun s ρ6 z H7 ws6 f6 R8 => ?_)
      obtain ⟨kd, ek, f6⟩ := wd_of f6
      obtain ⟨key, ekey, f6⟩ := optW_of f6
      obtain ⟨d, hd, hz, f6⟩ := sd_of R8 List.mem_cons_self f6
      have ev := key_db (R8.view (List.mem_cons_of_mem _ List.mem_cons_self) ek) ekey
      obtain ⟨a, ob, ea, am, an, ho, mu, t⟩ := R8.pop.pop.top
      cases ea
      cases t with
      | dct kk hds =>
        have KD : Kd X.K (mns ws6 H7) _ acc := ⟨kk, hds⟩
        have KP := KD.put key hd
        exact ⟨_, key, ev, ho, by rw [KD.length]; exact hz, _, ws6, puD acc key d, back (R8.pop.pop.mutTop True.intro (.dct KP.1 KP.2)), f6⟩
    | false => exact iteF ⟨_, ws4, acc, back R6, f4⟩
  · rintro H2 ⟨ρ2, ws2, acc, R2, f⟩
    rw [List.drop_length] at f
    obtain ⟨_, f⟩ := f
    have R3 : Rel X.K B ((V.ref D, Sl.own (.dct acc)) :: π) ρ2 σ H2 ws2 := R2.sub (List.Sublist.cons_cons _ (List.sublist_append_right _ _))
    have R4 : Rel X.K B ((V.ref D, Sl.own (.dct acc)) :: π) (wipeD ρ2 vs) σ H2 ws2 :=
      Rel.reh (R3.unh.reslot unh_noH vs (np2 R3) rfl fun _ _ => rfl) (fun v j m => R3.pn _ m) R3.npp
    cases o with
    | true => exact kk _ _ _ _ _ f R4
    | false =>
      obtain ⟨ws3, R5⟩ := R4.freeze
      exact kk _ _ _ _ _ f R5
theorem de_dc (o : Bool) (hc : X.calm = true) (hN : X.N.Nodup) (hi : DIg X E tg iter wi tdi) (ok : BlkOk X.N X.env.scope scope own)
    (hg : ∀ (s : Shared) (H : Hp) (C : Addr) (cl : List (Str × Addr)) (fp : List Addr), DG (X.blk s H scope (compEnvC scope cl C X.env) fp) E tg g sl tdg)
    (ht : ∀ (s : Shared) (H : Hp) (C : Addr) (cl : List (Str × Addr)) (fp : List Addr), DTs (X.blk s H scope (compEnvC scope cl C X.env) fp) E ifs tt tdt)
    (hk : ∀ (s : Shared) (H : Hp) (C : Addr) (cl : List (Str × Addr)) (fp : List Addr), DE (X.blk s H scope (compEnvC scope cl C X.env) fp) E kx tk tdk)
    (he : ∀ (s : Shared) (H : Hp) (C : Addr) (cl : List (Str × Addr)) (fp : List Addr), DE (X.blk s H scope (compEnvC scope cl C X.env) fp) E vx tv tdv)
    (hsl : ∀ i ∈ sl, i ∈ own.map (·.2) := by decide) (hs : ∀ x, foldedSetIterable iter X.env x = pure x := by intro _; rfl) :
    DE X E (.DictComp kx vx [⟨tg, iter, ifs, 0⟩] scope pos) (tDc wi g tt tk tv (own.map (·.2))) (dDc o tdi tdg tdt tdk tdv (own.map (·.2))) :=
  ⟨pe_dc hc hN hi.1 ok (fun s H C cl fp => (hg s H C cl fp).1) (fun s H C cl fp => (ht s H C cl fp).1) (fun s H C cl fp => (hk s H C cl fp).1) (fun s H C cl fp => (he s H C cl fp).1) hs, fun B er π ρ σ H ws q Q R hE hw kk =>
    hi.2 B er π ρ σ H ws _ _ R hE hw fun items gd ρ1 H1 ws1 J pend hq _ R1 W => dc_core2 (Qd := fun D H => Q (.ref D) H) hg ht hk he hsl W R1 hE hq.1 hq.2 fun r ρ' D H' ws' h R' => kk r ρ' _ H' ws' h R'⟩
/-- .. over a dict -/
def dDcD (o : Bool) (i : Nat) (its : List (Key × D) → List D) (g : TDG) (tt : TDT) (tk tv : TD) (vs : List Nat) : TD := fun ρ _ q => dctS ρ i fun ps ρ1 => noPar ρ1 vs ∧ compDW gdT g tt tk tv vs noEx (fun acc ρ2 => q (mkS o (.dct acc)) (wipeD ρ2 vs)) (its ps) [] ρ1
theorem de_dcD {i : Nat} {it : Addr → Obj → List (Key × V) → It} {its : List (Key × D) → List D} (o : Bool) (hc : X.calm = true) (hN : X.N.Nodup) (hi : PI X tg iter wi) (dm : DM X.K i wi it its) (ok : BlkOk X.N X.env.scope scope own)
    (hg : ∀ (s : Shared) (H : Hp) (C : Addr) (cl : List (Str × Addr)) (fp : List Addr), DG (X.blk s H scope (compEnvC scope cl C X.env) fp) E tg g sl tdg)
    (ht : ∀ (s : Shared) (H : Hp) (C : Addr) (cl : List (Str × Addr)) (fp : List Addr), DTs (X.blk s H scope (compEnvC scope cl C X.env) fp) E ifs tt tdt)
    (hk : ∀ (s : Shared) (H : Hp) (C : Addr) (cl : List (Str × Addr)) (fp : List Addr), DE (X.blk s H scope (compEnvC scope cl C X.env) fp) E kx tk tdk)
    (he : ∀ (s : Shared) (H : Hp) (C : Addr) (cl : List (Str × Addr)) (fp : List Addr), DE (X.blk s H scope (compEnvC scope cl C X.env) fp) E vx tv tdv)
    (hsl : ∀ i ∈ sl, i ∈ own.map (·.2) := by decide) (hs : ∀ x, foldedSetIterable iter X.env x = pure x := by intro _; rfl) :
    DE X E (.DictComp kx vx [⟨tg, iter, ifs, 0⟩] scope pos) (tOpenE (tDc wi g tt tk tv (own.map (·.2)))) (dDcD o i its tdg tdt tdk tdv (own.map (·.2))) :=
  ⟨pe_open (pe_dc hc hN hi ok (fun s H C cl fp => (hg s H C cl fp).1) (fun s H C cl fp => (ht s H C cl fp).1) (fun s H C cl fp => (hk s H C cl fp).1) (fun s H C cl fp => (he s H C cl fp).1) hs), fun B er π ρ σ H ws q Q R hE hw kk => by
    obtain ⟨d, kvs, ps, ρ1, ws1, e1, nd, rd, ⟨np, h1⟩, R1⟩ := dctS_of R hw
    have nd0 : d ∉ B.ws0 := fun m => nd (R1.wg d m)
    rcases rd with rd | ⟨od, rd⟩
    · refine .inr ⟨d, .dK kvs, rd, True.intro, fun od => ?_⟩
      have R2 := R1.lock (od := od) nd (.inl rd) (fun ob z => by rw [rd] at z; cases z)
      have h0 := R1.h0 nd rd
      have W := dm.walk B ((V.ref d, Sl.imm (.dct ps)) :: π) d od kvs ps List.mem_cons_self nd0
      exact dm.run σ _ _ d od kvs e1 upd_same (dc_core2 (pend := [(V.ref d, Sl.imm (.dct ps))]) (Qd := fun D H => H d = some (.frz od (.dK kvs)) ∧ Q (.ref D) (upd H d (.dK kvs))) hg ht hk he hsl (walkG_of W) R2 eok_no np h1 fun r ρ' D H' ws' h R' =>
        ⟨(R'.lockAt nd0).1, kk r ρ' _ _ ws' h (R'.unlock nd0 (.inl rfl) h0)⟩)
    · refine .inl ?_
      have R2 := R1.lock (od := od) nd (.inr ⟨od, rd⟩) (fun ob z => by rw [rd] at z; cases z; rfl)
      rw [upd_self rd] at R2
      have h0 := R1.h0 nd rd
      have W := dm.walk B ((V.ref d, Sl.imm (.dct ps)) :: π) d od kvs ps List.mem_cons_self nd0
      refine dm.run σ _ _ d od kvs e1 rd (dc_core2 (pend := [(V.ref d, Sl.imm (.dct ps))]) (Qd := fun D H => Q (.ref D) H) hg ht hk he hsl (walkG_of W) R2 eok_no np h1 fun r ρ' D H' ws' h R' => ?_)
      have := R'.unlock nd0 (.inr rfl) h0
      rw [upd_self (R'.lockAt nd0).1] at this
      exact kk r ρ' _ _ ws' h this⟩
end
/-! ### enumerate -/
set_option maxHeartbeats 4000000 in
theorem meets_enum1 {it : Value} {ob : Obj} {St : Heap → Prop} (beg : Begins it ob St) :
    Meets (Builtin.«enumerate.__new__» ⟨[.type "enumerate", it], []⟩) (fun _ R s => St s.heap ∧
      R (.ok (.ret (.ref (s.heap.push ob).objs.size))) { s with heap := (s.heap.push ob).push { cls := .type "enumerate", data := .fields #[.none, .bool false, .ref s.heap.objs.size, rawInt 0, .none, .none] } }) :=
  .of_wp fun prog w A R s hyp => by
    obtain ⟨hp, gs, dr, tk, os⟩ := s; obtain ⟨st, fin⟩ := hyp
    have isE := sub_enumerate
    have step : ∀ {A' : Around} {E : Value → Shared → Prop} {Q : Value → Shared → Prop}, Q (.ref hp.objs.size) ⟨hp.push ob, gs, dr, tk, os⟩ → wpAny (model prog w) A' (pyIter it) Q E ⟨hp, gs, dr, tk, os⟩ := fun z => beg.iter prog w _ _ ⟨hp, gs, dr, tk, os⟩ _ st z
    wp_walk using step
    refine wpAny_stack_any fun _ => wpAny_pure ?_
    split
    · rename_i c _ _ _ _ _
      cases (c == Value.type "enumerate")
      · wp_walk using step
        exact ⟨_, rfl, fin⟩
      · wp_walk using step
        exact ⟨_, rfl, fin⟩
    · wp_walk using step
      exact ⟨_, rfl, fin⟩
theorem enum1_begins {prog : Program} {w : World} {A : Around} {E : Value → Shared → Prop} {s : Shared} {it : Value} {ob : Obj} {St : Heap → Prop} {Q : Value → Shared → Prop} (beg : Begins it ob St) (st : St s.heap)
    (fin : ∀ h', IsEnum h' (s.heap.objs.size + 1) s.heap.objs.size 0 .none → h'.get? s.heap.objs.size = some ob → (∀ b o, s.heap.get? b = some o → h'.get? b = some o) → Q (.ref (s.heap.objs.size + 1)) { s with heap := h' }) :
    wpAny (model prog w) A (call (.type "enumerate") [it]) Q E s := by
  refine callType_new F.called_enumerate (by decide) (F.typeCall_enumerate_1 _) (F.newCall_enumerate_1 _) (fun obj => F.args_object_init_2 obj _) F.entry_enumerate_new (meets_enum1 beg) ⟨st, ?_⟩
  have sz : (s.heap.push ob).objs.size = s.heap.objs.size + 1 := Heap.size_push ..
  show _ ∧ _
  rw [sz]
  have isE : IsEnum ((s.heap.push ob).push { cls := .type "enumerate", data := .fields #[.none, .bool false, .ref s.heap.objs.size, rawInt 0, .none, .none] }) (s.heap.objs.size + 1) s.heap.objs.size 0 .none := by
    have z := Heap.get?_push_size (s.heap.push ob) (o := { cls := .type "enumerate", data := .fields #[.none, .bool false, .ref s.heap.objs.size, rawInt 0, .none, .none] }) rfl
    rw [sz] at z
    exact z
  exact ⟨⟨_, isE, rfl⟩, fin _ isE (Heap.get?_push_of_some _ (Heap.get?_push_size _ beg.free)) fun b o e => Heap.get?_push_of_some _ (Heap.get?_push_of_some _ e)⟩
/-- the tuple at a, each item in a new pair -/
def Itet (K : PySem.W.Frag) (a : Addr) : It :=
  ⟨fun i H => ∃ (xs : List V) (x : V), SqT K H a xs ∧ xs[i]? = some x, fun i H v H' => ∃ T x, v = .ref T ∧ H T = none ∧ H' = upd H T (.tup [.int (i : Nat), x]) ∧ ∀ xs, SqT K H a xs → xs[i]? = some x, fun i H => ∃ xs : List V, SqT K H a xs ∧ xs.length ≤ i⟩
theorem turn_enumT {P : Program} {w : World} {K : PySem.W.Frag} {elts : List Expr} {kk : Nat} {tpos : Pos} (a e it : Addr) :
    Turn P w K (.Tuple elts kk tpos) (Itet K a) [e, it] e (fun n h => (∃ old, IsEnum h e it ((n : Nat) : Int) old) ∧ h.IsTupleIter it a n ∧ e ≠ it) where
  mem := by simp
  obj := fun n h st b hb => by
    obtain ⟨⟨old, he⟩, ⟨oi, ho, hc, hd⟩, _⟩ := st
    have two : b = e ∨ b = it := by simpa using hb
    rcases two with rfl | rfl
    · exact ⟨_, he, fun _ z => nomatch z⟩
    · exact ⟨oi, ho, fun _ z => by rw [hd] at z; cases z⟩
  keep := fun n h h' st k => by
    obtain ⟨⟨old, he⟩, hi, ne⟩ := st
    exact ⟨⟨old, k e (by simp) _ he⟩, hi.at fun o z => k it (by simp) o z, ne⟩
  item := by
    intro X hP hw hK hc n pins s σ H E I hf st hg
    subst hP hw hK
    obtain ⟨⟨old, he⟩, hit, ne⟩ := st
    obtain ⟨xs, x, sq, hx⟩ := hg
    obtain ⟨its, vals, tp, _⟩ := I.tuple sq
    obtain ⟨u, hu, ru⟩ := vals.get hx
    have tp' : s.heap.IsTuple a its.toArray := tp
    have lt1 : e < s.heap.objs.size := Heap.lt_size he
    have lt2 : it < s.heap.objs.size := by obtain ⟨_, z, _⟩ := hit; exact Heap.lt_size z
    have nae : e ≠ a := fun z => by
      obtain ⟨o, h1, h2, _⟩ := tp'
      rw [← z] at h1
      obtain rfl := Option.some.inj (he.symm.trans h1)
      exact absurd (Value.type.inj h2) (by decide)
    have nai : a ≠ it := fun z => by
      obtain ⟨o, h1, h2, _⟩ := tp'
      obtain ⟨o', g1, g2, _⟩ := hit
      rw [z] at h1
      obtain rfl := Option.some.inj (g1.symm.trans h1)
      exact absurd (Value.type.inj (g2.symm.trans h2)) (by decide)
    have hn : n < its.toArray.size := by
      have := vals.length
      have := (List.getElem?_eq_some_iff.mp hx).1
      simp
      omega
    have DT := Draws.tuple (prog := X.prog) (w := X.w) (A := X.A.in1) (I.ok.hd hc) it a nai its.toArray
    refine wpAny_pyNext_enum_itemD DT he ⟨hit, tp'⟩ hn ne (by simp [ne, nae]) fun y h' tk py ho st' hT hsz hk => ?_
    have eyu : y = u := by
      have z : its.toArray[n]? = some u := by simpa using hu
      have p' : its.toArray[n]? = some y := py
      rw [z] at p'
      exact (Option.some.inj p').symm
    subst eyu
    refine ⟨_, rfl, wpAny_letOwnedTupleGo_enum (s := { s with heap := h', toks := tk + 1 }) ho fun h'' he' sb => ?_⟩
    have hT2 : h''.get? s.heap.objs.size = some { cls := .type "tuple", data := .seq #[.int n tk, y] } := (sb.2 _ (Nat.ne_of_gt lt1)).trans hT
    have fresh : ObjOk X.prog X.w (upd H s.heap.objs.size (.tup [.int (n : Nat), x])) h'' s.heap.objs.size (.tup [.int (n : Nat), x]) :=
      ⟨by show 2 ≤ sizeLine; decide, [.int n tk, y], .cons ⟨_, rfl⟩ (.cons ru .nil), ⟨_, hT2, rfl, _, rfl⟩⟩
    have J : Inv X pins σ (upd H s.heap.objs.size (.tup [.int (n : Nat), x])) { s with heap := h'', toks := tk + 1 } :=
      I.turnedNew (ch := [e, it]) (fun b o hb z => (sb.2 b (fun y => hb (by simp [y]))).trans (hk b o (fun y => hb (by simp [y])) (fun y => hb (by simp [y])) z)) hf (Nat.le_refl _) fresh
    refine ⟨.ref s.heap.objs.size, _, J, rfl, ⟨_, x, rfl, I.hok.fresh (Nat.le_refl _), rfl, fun ys hy => by rw [I.tuple_inj hy sq]; exact hx⟩, ⟨⟨y, ?_⟩, st'.1.at fun o z => (sb.2 it (Ne.symm ne)).trans z, ne⟩, fun b hb => ?_⟩
    · have up : ((n + 1 : Nat) : Int) = (n : Int) + 1 := by omega
      rw [up]; exact he'
    · have lt : b < s.heap.objs.size := by
        have two : b = e ∨ b = it := by simpa using hb
        rcases two with rfl | rfl
        · exact lt1
        · exact lt2
      rw [upd_ne (Nat.ne_of_lt lt)]
      exact (hf b hb).1
  done := by
    intro X hP hw hK hc n pins s σ H E I hf st hg
    subst hP hw hK
    obtain ⟨⟨old, he⟩, hit, ne⟩ := st
    obtain ⟨xs, sq, hx⟩ := hg
    obtain ⟨its, vals, tp, _⟩ := I.tuple sq
    have tp' : s.heap.IsTuple a its.toArray := tp
    obtain ⟨f0, f1, f2, f3, f4, f5⟩ := hf it (by simp)
    have ln := vals.length
    have isE : s.TypeIs (.ref e) "enumerate" := ⟨_, he, rfl⟩
    unfold pyNext
    refine wpAny_bind (wpAny_attempt (wpAny_callSpecial?_slot (name := Str.ofString "__next__") isE F.slot_enumerate_next (wpAny_call_entry F.slot_enumerate_next isE F.entry_enumerate_next ?_ (F.args_enumerate_next_1 _))))
    show wpAny _ _ (field (.ref e) 2 >>= _) _ _ _
    refine wpAny_bind (wpAny_field he rfl (x := .ref it) rfl ?_)
    refine wpAny_bind (wpAny_nextOf_tuple_end (I.ok.hd hc) hit tp' (by simp; omega) fun h' x ext stop => ?_)
    obtain ⟨o, ho, hco⟩ := stop
    refine wpAny_bind (wpAny_isInstance (T := "StopIteration") (b := true) ⟨o, ho, hco⟩ isSubtype_stop ?_)
    exact wpAny_pure ⟨rfl, I.turned (t' := s.toks) (fun b o hb z => ext b o hb z) f0 f1 f3 f4 f5⟩
  self := fun A n s Q E st h => let ⟨⟨_, he⟩, _⟩ := st; wpAny_pyIter_enum he h
def iEn (K : PySem.W.Frag) (ta : TA) : TI := fun σ H R => ta σ H fun vs H1 => (∃ a xs, vs = [.ref a] ∧ SqL K H1 a xs ∧ R (Ite K a) H1) ∨ ∃ a xs, vs = [.ref a] ∧ SqT K H1 a xs ∧ R (Itet K a) H1
theorem pi_en {X : Cx} {e : Expr} {ta : TA} {p pos tpos : Pos} {elts : List Expr} {kk : Nat} (hg : Gl X "enumerate") (hm : X.mg "enumerate" = none) (ha : PA X [e] ta) (hs : starEach [e] X.env = [(false, eval e X.env)] := by rfl) :
    PI X (.Tuple elts kk tpos) (.Call (.Name "enumerate" p) [e] [] pos) (iEn X.K ta) := by
  refine ⟨fun pins s σ H R I h => ?_⟩
  refine Call_ (ld_blt I hg hm boot_enumerate (PyProof.Rows.callWith_type1 (thn (ha.run pos pins s σ H _ I h) fun us s1 ⟨vs, H1, J, vals, q⟩ => ?_) hs rfl))
  have start : ∀ {b : Addr}, b ∈ [s1.heap.objs.size + 1, s1.heap.objs.size] → s1.heap.objs.size ≤ b := fun {b} hb => by
    have two : b = s1.heap.objs.size + 1 ∨ b = s1.heap.objs.size := by simpa using hb
    rcases two with z | z
    · rw [z]; exact Nat.le_succ _
    · rw [z]; exact Nat.le_refl _
  rcases q with ⟨a, xs, rfl, sq, q⟩ | ⟨a, xs, rfl, sq, q⟩
  · obtain ⟨u, rfl, ru⟩ := vals1 vals
    obtain rfl : u = .ref a := ru
    obtain ⟨its, _, pl, _⟩ := J.list sq
    refine enum1_begins (begins_list a its.toArray) pl.isList fun h' he hit hk => wpAny_pyIter_enum he ?_
    have J2 : Inv X pins σ H1 { s1 with heap := h' } := J.kept (t' := s1.toks) hk
    exact ⟨s1.heap.objs.size + 1, [s1.heap.objs.size + 1, s1.heap.objs.size], _, _, H1, rfl, J2, turn_enum a _ s1.heap.objs.size, ⟨⟨.none, he⟩, ⟨_, hit, rfl, rfl⟩, Nat.succ_ne_self _⟩, fun b hb => J.fpOk (start hb) (J.hok.fresh (start hb)), q⟩
  · obtain ⟨u, rfl, ru⟩ := vals1 vals
    obtain rfl : u = .ref a := ru
    obtain ⟨its, _, pl, _⟩ := J.tuple sq
    refine enum1_begins (begins_tuple a its.toArray) pl fun h' he hit hk => wpAny_pyIter_enum he ?_
    have J2 : Inv X pins σ H1 { s1 with heap := h' } := J.kept (t' := s1.toks) hk
    exact ⟨s1.heap.objs.size + 1, [s1.heap.objs.size + 1, s1.heap.objs.size], _, _, H1, rfl, J2, turn_enumT a _ s1.heap.objs.size, ⟨⟨.none, he⟩, ⟨_, hit, rfl, rfl⟩, Nat.succ_ne_self _⟩, fun b hb => J.fpOk (start hb) (J.hok.fresh (start hb)), q⟩
/-- the items with their places -/
def enumD (items : List D) : List D := (List.range items.length).zipWith (fun i d => D.tup [.int (i : Nat), d]) items
theorem enumD_len (items : List D) : (enumD items).length = items.length := by simp [enumD]
theorem enumD_at {items : List D} {i : Nat} {x : D} (e : (enumD items)[i]? = some x) : ∃ d, items[i]? = some d ∧ x = .tup [.int (i : Nat), d] := by
  unfold enumD at e
  rw [List.getElem?_zipWith] at e
  split at e
  · rename_i j d ej ed
    obtain ⟨_, ej⟩ := List.getElem?_eq_some_iff.mp ej
    rw [List.getElem_range] at ej
    subst ej
    exact ⟨d, ed, (Option.some.inj e).symm⟩
  · cases e
theorem walk_el {K : PySem.W.Frag} {B : Base} {π : List (V × Sl)} {a : Addr} {items : List D} (m : (V.ref a, Sl.imm (.lst items)) ∈ π) : WalkD K B π (Ite K a) (enumD items) := by
  have at_ : ∀ ρ σ H ws, Rel K B π ρ σ H ws → ∃ xs, SqL K H a xs ∧ Das K (mns ws H) xs items := fun ρ σ H ws R => by
    have t : Da K (mns ws H) (.ref a) (.lst items) := R.pn _ m
    cases t with
    | lst e h => exact ⟨_, SqL.of (mns_some e).2, h⟩
  refine ⟨fun ρ σ H ws i R hi => ?_, fun ρ σ H ws R => ?_, fun ρ σ H ws i d x H' R e y => ?_⟩
  · obtain ⟨xs, h1, h2⟩ := at_ ρ σ H ws R
    have hx : i < xs.length := by rw [h2.length, ← enumD_len]; exact hi
    exact ⟨xs, xs[i], h1, List.getElem?_eq_getElem hx⟩
  · obtain ⟨xs, h1, h2⟩ := at_ ρ σ H ws R
    exact ⟨xs, h1, by rw [h2.length, enumD_len]; exact Nat.le_refl _⟩
  · obtain ⟨xs, h1, h2⟩ := at_ ρ σ H ws R
    obtain ⟨T, z, rfl, nT, rfl, y⟩ := y
    obtain ⟨d', e2, rfl⟩ := enumD_at e
    obtain ⟨v, ev, hv⟩ := h2.get e2
    have := y xs h1
    rw [ev] at this
    cases this
    exact .new nT (.tup (.cons (.int _) (.cons hv .nil)))
theorem walk_et {K : PySem.W.Frag} {B : Base} {π : List (V × Sl)} {a : Addr} {items : List D} (m : (V.ref a, Sl.imm (.tup items)) ∈ π) : WalkD K B π (Itet K a) (enumD items) := by
  have at_ : ∀ ρ σ H ws, Rel K B π ρ σ H ws → ∃ xs, SqT K H a xs ∧ Das K (mns ws H) xs items := fun ρ σ H ws R => by
    have t : Da K (mns ws H) (.ref a) (.tup items) := R.pn _ m
    cases t with
    | tup e h => exact ⟨_, mns_le.sqT e, h⟩
  refine ⟨fun ρ σ H ws i R hi => ?_, fun ρ σ H ws R => ?_, fun ρ σ H ws i d x H' R e y => ?_⟩
  · obtain ⟨xs, h1, h2⟩ := at_ ρ σ H ws R
    have hx : i < xs.length := by rw [h2.length, ← enumD_len]; exact hi
    exact ⟨xs, xs[i], h1, List.getElem?_eq_getElem hx⟩
  · obtain ⟨xs, h1, h2⟩ := at_ ρ σ H ws R
    exact ⟨xs, h1, by rw [h2.length, enumD_len]; exact Nat.le_refl _⟩
  · obtain ⟨xs, h1, h2⟩ := at_ ρ σ H ws R
    obtain ⟨T, z, rfl, nT, rfl, y⟩ := y
    obtain ⟨d', e2, rfl⟩ := enumD_at e
    obtain ⟨v, ev, hv⟩ := h2.get e2
    have := y xs h1
    rw [ev] at this
    cases this
    exact .new nT (.tup (.cons (.int _) (.cons hv .nil)))
def enumW (d : D) (q : List D → Prop) : Prop := match d with
  | .lst xs => q (enumD xs)
  | .tup xs => q (enumD xs)
  | _ => False
def dEnum (t : TD) : TDI := fun ρ er q => t ρ er fun r ρ1 => sd r ρ1 fun d => enumW d fun items => q items ρ1
theorem di_enum {K : PySem.W.Frag} {X : Cx} {E : XK} {e : Expr} {te : TE} {ta : TD} {p pos tpos : Pos} {elts : List Expr} {kk : Nat} (hg : Gl X "enumerate") (hm : X.mg "enumerate" = none) (h : DE X E e te ta) (hs : starEach [e] X.env = [(false, eval e X.env)] := by rfl) (hK : X.K = K := by rfl) :
    DI X E (.Tuple elts kk tpos) (.Call (.Name "enumerate" p) [e] [] pos) (iEn K (tCons te tNil)) (dEnum ta) := by
  subst hK
  exact 
  ⟨pi_en hg hm (pa_cons h.1 pa_nil (by rw [hs]; rfl)) hs, fun B er π ρ σ H ws q Rr R hE hw k => h.2 B er π ρ σ H ws _ _ R hE hw fun r ρ1 v H1 ws1 h1 R1 => by
    obtain ⟨d, hd, h1⟩ := sd_of R1 List.mem_cons_self h1
    have R2 := R1.pop.imm hd
    have go := fun items J (W : WalkD X.K B ((v, .imm d) :: π) J items) (z : q items ρ1) => k items ρ1 H1 ws1 J [(v, .imm d)] z (fun p hp j y => by rw [List.mem_singleton.mp hp] at y; cases y) R2 W
    cases hd with
    | lst e hd' => exact .inl ⟨_, _, rfl, SqL.of (mns_some e).2, go _ _ (walk_el List.mem_cons_self) h1⟩
    | tup e hd' => exact .inr ⟨_, _, rfl, mns_le.sqT e, go _ _ (walk_et List.mem_cons_self) h1⟩
    | _ => exact h1.elim⟩
end Dl
set_option maxRecDepth 100000
set_option maxHeartbeats 4000000
/-! the data layer: constants, unpacking, methods that read, chains, calls by names, += -/
namespace Dl
open PySem PySem.Spec PyProof.Rows L2 L3 LamX
section
variable {X : Cx} {E : XK} {a b e f : Expr} {ta tb tc : TD} {tea teb tec te : TE} {pos p : Pos} {es : List Expr} {taa : TA} {u : TDA} {apos cpos : Pos} {x : Str}
/-! ### constants of the module -/
theorem de_glob {v : V} {d : D} {w : Value} (hg : Gl X x) (hm : X.mg x = some w) (r : RelV v w) (hd : ∀ G, Da X.K G v d) (hdb : (x == ("__debug__" : Str)) = false := by decide) : DE X E (.Name x p) (tC v) (dC d) := de_const (pe_glob hg hm r hdb) hd
theorem de_globI {i : Int} {t : Tok} (hg : Gl X x) (hm : X.mg x = some (.int i t)) (hdb : (x == ("__debug__" : Str)) = false := by decide) : DE X E (.Name x p) (tC (.int i)) (dC (.int i)) := de_glob hg hm ⟨t, rfl⟩ (fun _ => .int i) hdb
theorem de_globS {s : Str} {t : Tok} (hg : Gl X x) (hm : X.mg x = some (.str s t)) (hdb : (x == ("__debug__" : Str)) = false := by decide) : DE X E (.Name x p) (tC (.str s)) (dC (.str s)) := de_glob hg hm ⟨t, rfl⟩ (fun _ => .str s) hdb
/-! ### a, b = a list or a tuple -/
def gUn (K : PySem.W.Frag) (n : Nat) (t : TGs) : TG := fun v σ H Q => gTup K n t v σ H Q ∨ gUnl K n t v σ H Q
def dgUn (u : TDGs) : TDG := fun x ρ er q => match x with
  | .imm (.tup ds) => u ds ρ er q
  | .imm (.lst ds) => u ds ρ er q
  | _ => False
theorem dg_un {K : PySem.W.Frag} {tgs : List Expr} {k n : Nat} {g : TGs} {sl : List Nat} {u : TDGs} (hc : X.calm = true) (h : DGs X E tgs g sl u) (hl : ∀ ds ρ er q, u ds ρ er q → ds.length = n)
    (hn : (assignEach tgs X.env).length = n := by rfl) (hst : (assignEach tgs X.env).findIdx? (·.1) = none := by rfl) (hK : X.K = K := by rfl) : DG X E (.Tuple tgs k pos) (gUn K n g) sl (dgUn u) := by
  subst hK
  exact 
  ⟨⟨fun pins s σ H v u Q I r hw => hw.elim (fun z => (pg_tup hc h.1 hn hst).run pins s σ H v u Q I r z) fun z => (pg_unl hc h.1 hn hst).run pins s σ H v u Q I r z⟩, fun B er π ρ σ H ws v x q Q R hv nh hE hw kk => by
    cases x with
    | imm d =>
      cases d with
      | tup ds =>
        have t : Da X.K (mns ws H) v (.tup ds) := R.top
        cases t with
        | tup e hd => exact .inl ⟨_, _, rfl, mns_le.sqT e, by rw [hd.length]; exact hl _ _ _ _ hw, h.2 B er π ρ σ H ws _ _ q Q R.pop hd nh hE hw kk⟩
      | lst ds =>
        have t : Da X.K (mns ws H) v (.lst ds) := R.top
        cases t with
        | lst e hd => exact .inr ⟨_, _, rfl, SqL.of (mns_some e).2, by rw [hd.length]; exact hl _ _ _ _ hw, h.2 B er π ρ σ H ws _ _ q Q R.pop hd nh hE hw kk⟩
      | _ => exact hw.elim
    | _ => exact hw.elim⟩
/-- d[k] among several targets, d an own dict -/
def dgsPut (i : Nat) (ti : TD) (u : TDGs) : TDGs := fun ds ρ er q => match ds with
  | d :: ds => dLput.known ρ i ∧ ti ρ er fun s ρ1 => wd s ρ1 fun k => ownD ρ1 i fun ps => optW k.key fun j => ps.length < sizeLine ∧ u ds (upS ρ1 i (.dct (puD ps j d))) er q
  | [] => False
theorem Rel.immAll {K : PySem.W.Frag} {B : Base} {ρ : Rho} {σ : L2.St} {H : Hp} {ws : List Addr} : ∀ {vs : List V} {ds : List D} {π : List (V × Sl)}, Rel K B π ρ σ H ws → Das K (mns ws H) vs ds → Rel K B (pushAll vs (ds.map .imm) π) ρ σ H ws
  | _, _, _, R, .nil => R
  | v :: vs, d :: ds, π, R, .cons h t => Rel.immAll (vs := vs) (ds := ds) (π := (v, .imm d) :: π) (R.imm h) t
theorem das_back {K : PySem.W.Frag} {B : Base} {ρ : Rho} {σ : L2.St} {H : Hp} {ws : List Addr} {π0 : List (V × Sl)} (R : Rel K B π0 ρ σ H ws) : ∀ {vs : List V} {ds : List D} {π : List (V × Sl)}, vs.length = ds.length → (∀ p ∈ pushAll vs (ds.map .imm) π, p ∈ π0) → Das K (mns ws H) vs ds
  | [], [], _, _, _ => .nil
  | [], _ :: _, _, e, _ => by cases e
  | _ :: _, [], _, e, _ => by cases e
  | v :: vs, d :: ds, π, e, h => .cons (R.pn (v, .imm d) (h _ (pushAll_keep (vs := vs) (rs := ds.map .imm) List.mem_cons_self))) (das_back R (π := (v, .imm d) :: π) (by simpa using e) h)
theorem dgs_put {o : Nat} {n : Str} {pn ps : Pos} {ix : Expr} {tgs : List Expr} {g : TGs} {sl : List Nat} {w : TDGs} (hu : X.A.units + 1 < cLine) (ho : PE X (.Name n pn) (tVar o)) (hi : DE X E ix tea ta) (h2 : DGs X E tgs g sl w)
    (ha : ∀ v, assign (.Subscript (.Name n pn) ix ps) X.env v = (do
      let ov ← holding [v] (eval (.Name n pn) X.env)
      let iv ← holding [v, ov] (eval ix X.env)
      standAt ps
      holding [v, ov, iv] (setItem ov iv v)
      release [v, ov, iv] []) := by intro _; rfl)
    (hs : (assignEach (.Subscript (.Name n pn) ix ps :: tgs) X.env).map (·.2) = assign (.Subscript (.Name n pn) ix ps) X.env :: (assignEach tgs X.env).map (·.2) := by rfl) :
    DGs X E (.Subscript (.Name n pn) ix ps :: tgs) (gCons (gSub (tVar o) tea rSetD) g) sl (dgsPut o ta w) :=
  ⟨pgs_cons (pg_sub ho hi.1 (set_dict hu) ha) h2.1 hs, fun B er π ρ σ H ws vs ds q Q R hd nh hE hw k => by
    cases hd with
    | nil => exact hw.elim
    | @cons v vs d ds hv hvs =>
      obtain ⟨kn, hw⟩ := hw
      obtain ⟨w0, ew⟩ := known_of R kn
      have R1 := Rel.immAll (R.imm hv) hvs
      refine ⟨v, vs, rfl, w0, ew, hi.2 B er _ ρ σ H ws _ _ R1 hE hw fun s ρ1 y H1 ws1 h1 R2 => ?_⟩
      obtain ⟨kk, ek, h1⟩ := wd_of h1
      have Vk := R2.viewTop ek
      have R3 := R2.pop
      have hvs' := das_back R3 (vs := vs) (ds := ds) (π := (v, .imm d) :: π) hvs.length (fun _ h => h)
      have R4 := R3.popAll
      have hv' : Da X.K (mns ws1 H1) v d := R4.top
      obtain ⟨a, kvs, ps', g1, g2, g3, kd, h1, up⟩ := ownD_of R4.pop h1
      obtain ⟨key, e3, hz, h1⟩ := optW_of h1
      rw [ew] at g1
      cases g1
      refine ⟨a, _, rfl, .inl ⟨kvs, key, g3, key_db Vk e3, by rw [kd.length]; exact hz, rfl⟩, ?_⟩
      have U := up _ _ (kd.put key hv')
      exact h2.2 B er π _ σ _ ws1 vs ds q Q U (by rw [mns_in g2]; exact hvs') nh hE h1 k⟩
theorem dgsPut_len {o n : Nat} {t : TD} {u : TDGs} (h : ∀ ds ρ er q, u ds ρ er q → ds.length = n) (ht : ∀ ρ er q, t ρ er q → ∃ s ρ1, q s ρ1) : ∀ ds ρ er q, dgsPut o t u ds ρ er q → ds.length = n + 1 := fun ds ρ er q hw => by
  cases ds with
  | nil => exact hw.elim
  | cons d ds =>
    obtain ⟨s, ρ1, h1⟩ := ht _ _ _ hw.2
    obtain ⟨k, _, h1⟩ := wd_of h1
    have : ∀ {k : List (Key × D) → Prop}, ownD ρ1 o k → ∃ ps, k ps := fun {k} z => by
      unfold ownD at z
      split at z
      · exact ⟨_, z⟩
      · exact ⟨_, z⟩
      · exact z.elim
    obtain ⟨ps, h1⟩ := this h1
    obtain ⟨j, _, _, h1⟩ := optW_of h1
    exact congrArg Nat.succ (h _ _ _ _ h1)
/-! ### methods that only read -/
def tyOk (T : String) (d : D) : Bool := match d with
  | .lst _ => T == "list"
  | .str _ => T == "str"
  | .int _ => T == "int"
  | .set _ => T == "set"
  | _ => false
theorem tyV_of {K : PySem.W.Frag} {H G : Hp} {T : String} {v : V} {d : D} (h : Db K H G v d) (e : tyOk T d = true) : tyV K T v H := by
  cases h with
  | lst e1 _ => exact .inl ⟨by simpa [tyOk] using e, _, SqL.of e1⟩
  | str s => exact by simpa [tyOk, tyV] using e
  | int i => exact by simpa [tyOk, tyV] using e
  | set e1 _ _ => exact .inr (.inr (.inr ⟨by simpa [tyOk] using e, _, _, e1⟩))
  | _ => cases e
def MthD (X : Cx) (id : String) (r : V → List V → Hp → VK → Prop) (w : D → List D → (D → Prop) → Prop) : Prop := MtR X id r ∧ ∀ {x : V} {d : D} {vs : List V} {ds : List D} {H G : Hp} {q : D → Prop} {Q : VK}, Le G H → Db X.K H G x d → Paired (Db X.K H G) vs ds → w d ds q → (∀ d v H1, q d → Res X.K H G v d H1 → Q v H1) → r x vs H Q
def dMth (T : String) (w : D → List D → (D → Prop) → Prop) (t : TD) (u : TDA) : TD := fun ρ er q => t ρ er fun r ρ1 => (wd r ρ1 fun d => tyOk T d = true) ∧ u ρ1 er fun rs ρ2 => wd r ρ2 fun d => wds rs ρ2 fun ds => w d ds fun y => q (.imm y) ρ2
def dMth0 (T : String) (w : D → List D → (D → Prop) → Prop) (t : TD) : TD := fun ρ er q => t ρ er fun r ρ1 => wd r ρ1 fun d => tyOk T d = true ∧ w d [] fun y => q (.imm y) ρ1
variable {r : V → List V → Hp → VK → Prop} {w : D → List D → (D → Prop) → Prop} {name : Str} {id T : String}
theorem de_mth0 {K : PySem.W.Frag} (pa : PlainAttrs T) (slot : Slot T name id) (hty : typeOf (.builtin id) = pure (.type "method_descriptor")) (hm : MthD X id r w) (ho : DE X E a tea ta)
    (hbase : attributeBase a name X.env (eval a X.env) = eval a X.env := by rfl) (hline : (apos.endLine == cpos.line) = true := by rfl) (hK : X.K = K := by rfl) : DE X E (.Call (.Attribute a name apos) [] [] cpos) (tBM0 K T r tea) (dMth0 T w ta) := by
  subst hK
  exact 
  ⟨pe_bm0 pa slot hty hm.1 ho.1 hbase hline, fun B er π ρ σ H ws q Q R hE h k => ho.2 B er π ρ σ H ws _ _ R hE h fun r1 ρ1 v H1 ws1 h1 R1 => by
    obtain ⟨d, ed, ty, h1⟩ := wd_of h1
    have Vd := R1.viewTop ed
    exact ⟨tyV_of Vd ty, hm.2 mns_le Vd .nil h1 fun y v H2 hq res => k _ ρ1 v H2 ws1 hq (R1.pop.res res)⟩⟩
theorem de_mth {K : PySem.W.Frag} (pa : PlainAttrs T) (slot : Slot T name id) (hty : typeOf (.builtin id) = pure (.type "method_descriptor")) (hm : MthD X id r w) (ho : DE X E a tea ta) (ha : DA X E (e :: es) taa u)
    (hbase : attributeBase a name X.env (eval a X.env) = eval a X.env := by rfl)
    (hfew : ((backTo cpos (starEach (e :: es) X.env)).all (fun x => !x.1) && (backToKw cpos (keywordEach [] X.env)).all (fun x => x.1.isSome)
      && decide ((e :: es).length + ([] : List Keyword).length + (if ([] : List Keyword).isEmpty then 0 else 1) < 30)) = true := by rfl)
    (hline : (apos.endLine == cpos.line) = true := by rfl) (hs : starEach (e :: es) X.env = (false, eval e X.env) :: starEach es X.env := by rfl) (hplain : (backTo cpos (starEach es X.env)).any (·.1) = false := by rfl) (hK : X.K = K := by rfl) :
    DE X E (.Call (.Attribute a name apos) (e :: es) [] cpos) (tBM K T r tea taa) (dMth T w ta u) := by
  subst hK
  exact 
  ⟨pe_bm pa slot hty hm.1 ho.1 ha.1 hbase hfew hline hs hplain, fun B er π ρ σ H ws q Q R hE h k => ho.2 B er π ρ σ H ws _ _ R hE h fun r1 ρ1 v H1 ws1 ⟨hT, h1⟩ R1 => by
    obtain ⟨d, ed, ty⟩ := wd_of hT
    refine ⟨tyV_of (R1.viewTop ed) ty, ha.2 B er _ ρ1 σ H1 ws1 _ _ R1 hE h1 fun rs ρ2 vs H2 ws2 h2 e2 R2 => ?_⟩
    obtain ⟨d', ed', h2⟩ := wd_of h2
    obtain ⟨ds, pd, h2⟩ := wds_of R2 e2 h2
    have Vd := R2.view (pushAll_keep (vs := vs) (rs := rs) List.mem_cons_self) ed'
    exact hm.2 mns_le Vd pd h2 fun y v H3 hq res => k _ ρ2 v H3 ws2 hq (R2.popAll.pop.res res)⟩
/-- list.index -/
def indexW (d : D) (ds : List D) (q : D → Prop) : Prop := match d, ds with
  | .lst xs, [y] => okD (.lst xs) ∧ okD y ∧ optW (xs.findIdx? fun z => deq z y) fun j => q (.int (j : Nat))
  | _, _ => False
theorem md_index {K : PySem.W.Frag} (hu : X.A.units + 65 < cLine) (hK : X.K = K := by rfl) : MthD X "list.index" (rIndexD K) indexW := by
  subst hK
  exact ⟨mt_indexD hu, fun {x d vs ds H G q Q} l hd p hw k => by
  unfold indexW at hw
  split at hw
  · rename_i xs y
    cases p with
    | cons hy t =>
      cases t
      obtain ⟨o1, o2, hw⟩ := hw
      obtain ⟨j, ej, hq⟩ := optW_of hw
      have dl : Dp X.K H x (.list (D.pys xs)) := hd.dp l o1.1
      obtain ⟨hj, hz, hn⟩ := List.findIdx?_eq_some_iff_getElem.mp ej
      cases hd with
      | lst e1 hxs =>
        refine ⟨_, _, y.py, D.pys xs, j, xs[j].py, rfl, rfl, dl, hy.dp l o2.1, o1.2, o2.2, by rw [pys_map, List.getElem?_map, List.getElem?_eq_getElem hj]; rfl, hz, fun m z' hm ez => ?_, k _ _ _ hq (.same (.int _))⟩
        rw [pys_map, List.getElem?_map] at ez
        obtain ⟨zz, e1, e2⟩ := Option.map_eq_some_iff.mp ez
        obtain ⟨hm', e1⟩ := List.getElem?_eq_some_iff.mp e1
        subst e1 e2
        simpa [deq] using hn m hm
  · exact hw.elim⟩
/-! ### a < b < c -/
def dChain (w1 w2 : D → D → (D → Prop) → Prop) (ta tb tc : TD) : TD := fun ρ er q => ta ρ er fun r ρ1 => tb ρ1 er fun s ρ2 => wd r ρ2 fun a => wd s ρ2 fun b => w1 a b fun d => match d with
  | .bl c => cnd c (tc ρ2 er fun t ρ3 => wd s ρ3 fun b => wd t ρ3 fun c => w2 b c fun d => q (.imm d) ρ3) (q (.imm (.bl false)) ρ2)
  | _ => False
theorem chain_run {op op' : CmpOp} {r1 r2 : R2} {w1 w2 : D → D → (D → Prop) → Prop} (ho : OpD X (compareOp op) r1 w1) (ho' : OpD X (compareOp op') r2 w2) (ha : DE X E a tea ta) (hb : DE X E b teb tb) (hc : DE X E e tec tc) :
    ∀ (B : Base) (er : Exn → Prop) (π : List (V × Sl)) (ρ : Rho) (σ : L2.St) (H : Hp) (ws : List Addr) (q : Sl → Rho → Prop) (Q : VK), Rel X.K B π ρ σ H ws → EOk X.K B er E → dChain w1 w2 ta tb tc ρ er q →
      (∀ r ρ' v H' ws', q r ρ' → Rel X.K B ((v, r) :: π) ρ' σ H' ws' → Q v H') → tChain r1 r2 tea teb tec σ H Q :=
  fun B er π ρ σ H ws q Q R hE h k => ha.2 B er π ρ σ H ws _ _ R hE h fun r ρ1 v1 H1 ws1 h1 R1 => hb.2 B er _ ρ1 σ H1 ws1 _ _ R1 hE h1 fun s ρ2 v2 H2 ws2 h2 R2 => by
    obtain ⟨da, ea, h2⟩ := wd_of h2
    obtain ⟨db, eb, h2⟩ := wd_of h2
    refine ho.2 mns_le (R2.view (List.mem_cons_of_mem _ List.mem_cons_self) ea) (R2.view List.mem_cons_self eb) h2 fun d v H3 h3 res => ?_
    have R3 := R2.res res
    split at h3
    · rename_i c
      cases res with
      | same hd =>
        cases hd
        refine ⟨c, rfl, ?_⟩
        cases c with
        | true =>
          refine iteT (hc.2 B er _ ρ2 σ _ ws2 _ _ R2 hE h3 fun t ρ3 v3 H4 ws3 h4 R4 => ?_)
          obtain ⟨db', eb', h4⟩ := wd_of h4
          obtain ⟨dc, ec, h4⟩ := wd_of h4
          exact ho'.2 mns_le (R4.view (List.mem_cons_of_mem _ List.mem_cons_self) eb') (R4.view List.mem_cons_self ec) h4 fun d v H5 h5 res => k _ ρ3 v H5 ws3 h5 (R4.pop.pop.pop.res res)
        | false => exact iteF (k _ ρ2 _ _ ws2 h3 (R2.pop.pop.imm (.bl _)))
      | new n t => cases t
    · exact h3.elim
theorem de_chain {op op' : CmpOp} {r1 r2 : R2} {w1 w2 : D → D → (D → Prop) → Prop} (ho : OpD X (compareOp op) r1 w1) (ho' : OpD X (compareOp op') r2 w2) (ha : DE X E a tea ta) (hb : DE X E b teb tb) (hc : DE X E e tec tc) (hm : lastMarks [op, op'] [b, e] = false := by with_unfolding_all rfl) :
    DE X E (.Compare a [op, op'] [b, e] pos) (tChain r1 r2 tea teb tec) (dChain w1 w2 ta tb tc) := ⟨pe_chain ho.1 ho'.1 ha.1 hb.1 hc.1 hm, chain_run ho ho' ha hb hc⟩
theorem dt_chain {op op' : CmpOp} {r1 r2 : R2} {w1 w2 : D → D → (D → Prop) → Prop} (ho : OpD X (compareOp op) r1 w1) (ho' : OpD X (compareOp op') r2 w2) (ha : DE X E a tea ta) (hb : DE X E b teb tb) (hc : DE X E e tec tc) (hm : lastMarks [op, op'] [b, e] = false := by with_unfolding_all rfl) :
    DT X E (.Compare a [op, op'] [b, e] pos) (tTest (tChain r1 r2 tea teb tec)) (dTest (dChain w1 w2 ta tb tc)) :=
  ⟨pt_chain ho.1 ho'.1 ha.1 hb.1 hc.1 hm, fun B er π ρ σ H ws q Q R hE h kk => chain_run ho ho' ha hb hc B er π ρ σ H ws _ _ R hE h fun r1 ρ1 v1 H1 ws1 h1 R1 => by
    obtain ⟨d, e, h1⟩ := wd_of h1
    have V := R1.viewTop e
    split at h1
    · rename_i c
      cases V
      exact ⟨c, rfl, kk c ρ1 H1 ws1 h1 R1.pop⟩
    · exact h1.elim⟩
/-! ### x += e, ints -/
def dAugI (i : Nat) (f : Int → Int → Int) (t : TD) : TDS := fun Dd ρ er => (match ρ[i]? with
  | some (.imm (.int m)) => t ρ er fun r ρ1 => wd r ρ1 fun d => (match d with
    | .int n => notPar ρ1 i ∧ Dd.nx (ρ1.set i (.imm (.int (f m n))))
    | _ => False)
  | _ => False)
theorem aug_run {i : Nat} {g : Int → Int → Int} (he : DE X E e te ta) : TrS X.K E (tAug i te (ipI g)) (dAugI i g ta) := fun B er π ρ σ H ws Dd D R nh hE h L => by
  unfold dAugI at h
  split at h
  · rename_i m ei
    obtain ⟨v, h1, h2⟩ := R.sl i _ ei (fun z => nomatch z)
    have h2' : Da X.K (mns ws H) v (.int m) := h2
    cases h2'
    refine ⟨_, h1, he.2 B er π ρ σ H ws _ _ R hE h fun r ρ1 v1 H1 ws1 h3 R1 => ?_⟩
    obtain ⟨d, ed, h3⟩ := wd_of h3
    have Vd := R1.viewTop ed
    split at h3
    · rename_i n
      cases Vd
      exact ⟨m, n, rfl, rfl, L.nx _ _ H1 ws1 h3.2 ((R1.pop.imm (.int _)).store True.intro nh h3.1)⟩
    · exact h3.elim
  · exact h.elim
theorem ds_augAdd {i : Nat} {pos' : Pos} (hN : X.N.Nodup) (hi : X.N[i]? = some x) (hx : Loc X.env.scope x) (he : DE X E e te ta) (hf : X.fn x = true ∨ X.env.scope.names.lookup x = some .local := by first | exact .inl rfl | exact .inr rfl | assumption) :
    DS X E (.AugAssign (.Name x pos') .Add e pos) (tAug i te (ipI fun i j => i + j)) (dAugI i (fun i j => i + j) ta) := ⟨ps_aug hN hi hx he.1 ip_add hf, aug_run he⟩
theorem ds_augSub {i : Nat} {pos' : Pos} (hN : X.N.Nodup) (hi : X.N[i]? = some x) (hx : Loc X.env.scope x) (he : DE X E e te ta) (hf : X.fn x = true ∨ X.env.scope.names.lookup x = some .local := by first | exact .inl rfl | exact .inr rfl | assumption) :
    DS X E (.AugAssign (.Name x pos') .Sub e pos) (tAug i te (ipI fun i j => i - j)) (dAugI i (fun i j => i - j) ta) := ⟨ps_aug hN hi hx he.1 ip_sub hf, aug_run he⟩
/-! ### f(e, .., k = v, ..) -/
def DK (X : Cx) (E : XK) (kws : List Keyword) (ta : TA) (t : TDA) : Prop := PK X kws ta ∧ ∀ (B : Base) (er : Exn → Prop) (π : List (V × Sl)) (ρ : Rho) (σ : L2.St) (H : Hp) (ws : List Addr) (q : List Sl → Rho → Prop) (Q : List V → Hp → Prop),
  Rel X.K B π ρ σ H ws → EOk X.K B er E → t ρ er q → (∀ rs ρ' vs H' ws', q rs ρ' → vs.length = rs.length → Rel X.K B (pushAll vs rs π) ρ' σ H' ws' → Q vs H') → ta σ H Q
theorem dk_nil : DK X E [] tNil dNil := ⟨pk_nil, fun B er π ρ σ H ws q Q R _ h k => k [] ρ [] H ws h rfl R⟩
theorem dk_cons {kws : List Keyword} {nm : Option Str} {kpos : Pos} (he : DE X E e te ta) (hr : DK X E kws taa u) : DK X E (⟨nm, e, kpos⟩ :: kws) (tCons te taa) (dCons ta u) :=
  ⟨pk_cons he.1 hr.1, fun B er π ρ σ H ws q Q R hE h k => he.2 B er π ρ σ H ws _ _ R hE h fun r ρ1 v H1 ws1 h1 R1 =>
    hr.2 B er _ ρ1 σ H1 ws1 _ _ R1 hE h1 fun rs ρ2 vs H2 ws2 h2 e2 R2 => k (r :: rs) ρ2 (v :: vs) H2 ws2 h2 (congrArg Nat.succ e2) R2⟩
/-- the places is of xs -/
def sel {α : Type} (is : List Nat) (xs : List α) : List α := is.filterMap fun i => xs[i]?
theorem paired_sel {α β : Type} {F : α → β → Prop} {xs : List α} {ys : List β} (h : Paired F xs ys) : ∀ is : List Nat, Paired F (sel is xs) (sel is ys)
  | [] => .nil
  | i :: is => by
    unfold sel
    rw [List.filterMap_cons, List.filterMap_cons]
    cases e : ys[i]? with
    | none =>
      have : xs[i]? = none := by rw [List.getElem?_eq_none_iff] at e ⊢; rw [h.length]; exact e
      rw [this]
      exact paired_sel h is
    | some y =>
      obtain ⟨x, e1, e2⟩ := paired_at h e
      rw [e1]
      exact .cons e2 (paired_sel h is)
theorem vals_sel {vs : List V} {us : List Value} (h : Vals vs us) (is : List Nat) : Vals (sel is vs) (sel is us) := by
  have at_ : ∀ {zs : List V} {ws : List Value}, Vals zs ws → ∀ i : Nat, (∃ x y, zs[i]? = some x ∧ ws[i]? = some y ∧ RelV x y) ∨ (zs[i]? = none ∧ ws[i]? = none) := by
    intro zs ws h
    induction h with
    | nil => exact fun i => .inr ⟨rfl, rfl⟩
    | cons h t ih =>
      intro i
      cases i with
      | zero => exact .inl ⟨_, _, rfl, rfl, h⟩
      | succ i => simpa using ih i
  unfold sel
  induction is with
  | nil => exact .nil
  | cons i is ih =>
    rw [List.filterMap_cons, List.filterMap_cons]
    rcases at_ h i with ⟨x, y, e1, e2, r⟩ | ⟨e1, e2⟩
    · rw [e1, e2]
      exact .cons r ih
    · rw [e1, e2]
      exact ih
def selN {α : Type} (is : List Nat) (us ws : List α) : List α := us ++ sel is ws
theorem kbD {K : PySem.W.Frag} {x q : Str} {st : Stmt} {ps ks : List Str} {n : Nat} {kV doc pm cdv ct : Value} {an : Option Addr} (is : List Nat)
    (h : ∀ us ws : List Value, us.length = n → ws.length = ks.length → bindArgs (PySem.W.fnOf x q (defArgs st) (defBody st) (defScope st) .none kV doc pm an cdv ct) ⟨us, ks.zip ws⟩ = pure (ps.zip (selN is us ws))) :
    KBn K (PySem.W.fnOf x q (defArgs st) (defBody st) (defScope st) .none kV doc pm an cdv ct) ps n ks (selN is) (selN is) :=
  ⟨fun s us ws _ hu hw => .of_eq (h us ws hu hw), fun r z => r.append (vals_sel z is)⟩
theorem argC_mem {K : PySem.W.Frag} {B : Base} {π : List (V × Sl)} {ρ : Rho} {σ : L2.St} {H : Hp} {ws : List Addr} (R : Rel K B π ρ σ H ws) : ∀ {cs : List Bool} {vs : List V} {rs : List Sl} {k : List Ar → Prop}, Paired (fun v r => (v, r) ∈ π) vs rs → argC cs rs ρ k → ∃ as, Paired (ArOk K B ρ σ H ws) vs as ∧ k as
  | [], _, _, _, .nil, h => ⟨[], .nil, h⟩
  | [], _, _, _, .cons _ _, h => h.elim
  | _ :: _, _, _, _, .nil, h => h.elim
  | c :: cs, _, _, k, .cons m t, h => by
    obtain ⟨x, hx, h⟩ := arC_of R m h
    obtain ⟨as, p, h⟩ := argC_mem R t h
    exact ⟨x :: as, .cons hx p, h⟩
theorem paired_push : ∀ {vs : List V} {rs : List Sl} {π π0 : List (V × Sl)}, vs.length = rs.length → (∀ p ∈ pushAll vs rs π, p ∈ π0) → Paired (fun v r => (v, r) ∈ π0) vs rs
  | [], [], _, _, _, _ => .nil
  | [], _ :: _, _, _, e, _ => by cases e
  | _ :: _, [], _, _, e, _ => by cases e
  | v :: vs, r :: rs, π, π0, e, h => .cons (h _ (pushAll_keep (vs := vs) (rs := rs) List.mem_cons_self)) (paired_push (π := (v, r) :: π) (by simpa using e) h)
theorem paired_append {α β : Type} {F : α → β → Prop} {xs xs' : List α} {ys ys' : List β} (h : Paired F xs ys) (h' : Paired F xs' ys') : Paired F (xs ++ xs') (ys ++ ys') := by
  induction h with
  | nil => exact h'
  | cons a t ih => exact .cons a ih
def tCallN (sp : Sp) (n m : Nat) (gV : List V → List V → List V) (E : XK) (t tk : TA) : TE := fun σ H Q => t σ H fun vs H1 => tk σ H1 fun zs H2 => vs.length = n ∧ zs.length = m ∧ sp (gV vs zs) H2 Q E
def dCallK (cs : List Bool) (is : List Nat) (n m : Nat) (t : TF) (u uk : TDA) : TD := fun ρ er q => u ρ er fun rs ρ1 => uk ρ1 er fun ss ρ2 => rs.length = n ∧ ss.length = m ∧ argC cs (selN is rs ss) ρ2 fun as => (useS as).Nodup ∧ t (as.map Ar.sl) (fun y => kindsB as = [] ∧ er y) fun r ρ' => clnR (kindsB as) r ∧ cleanR (kindsB as) as ρ' ∧ q r (backR as ρ' ρ2)
variable {CX : CXT} {k n : Nat} {g : Addr} {fd : FuncData} {ps ks : List Str} {t : TF} {cs : List Bool} {kws : List Keyword} {tk : TA} {uk : TDA} {is : List Nat}
theorem run_gn {pins : List (Addr × Obj)} {σ : L2.St} {H : Hp} {s : Shared} {Q : VK} {us ws : List Value} {vs zs : List V} {sp : Sp} {gg : List Value → List Value → List Value} {gV : List V → List V → List V} (F : FnG X.prog X.w X.K X.mg X.base CX k g fd ps sp) (gd : X.A.guards = some []) (hr : Room k X.A) (hb : KBn X.K fd ps n ks gg gV) (hx : Passes CX X E)
    (I : Inv X pins σ H s) (r : Vals vs us) (rz : Vals zs ws) (l1 : vs.length = n) (l2 : zs.length = ks.length) (h : sp (gV vs zs) H Q E) : wpAny (model X.prog X.w) X.A (call (.ref g) us (ks.zip ws)) (EP X pins σ Q) X.xe s := by
  apply wpAny_call
  refine codeAny_mono (F.run X.A X.stack s H ⟨us, ks.zip ws⟩ _ _ Q E gd hr I.env0 (hb.to s us ws I.kIn (r.length.symm.trans l1) (rz.length.symm.trans l2)) (hb.rel r rz) h) ?_
  rintro (e | fl) s' hq
  · exact hx pins σ H s e s' I hq
  · cases fl with
    | ret u => exact I.after hq
    | _ => exact hq.elim
theorem pe_callGN0 {sp : Sp} {gg : List Value → List Value → List Value} {gV : List V → List V → List V} (F : FnG X.prog X.w X.K X.mg X.base CX k g fd ps sp) (gd : X.A.guards = some []) (hr : Room k X.A) (hg : Gl X x) (hm : X.mg x = some (.ref g)) (hk : PySem.W.keepIn X.K (.ref g) = true) (hb : KBn X.K fd ps 0 ks gg gV) (hx : Passes CX X E)
    (hkw : PK X kws tk) (hall : (backToKw pos (keywordEach kws X.env)).all (·.1.isSome) = true := by rfl) (hks : (backToKw pos (keywordEach kws X.env)).filterMap (·.1) = ks := by rfl) (hdb : (x == ("__debug__" : Str)) = false := by decide)
    (hpl : ((backTo pos (starEach [] X.env)).any (·.1) || (backToKw pos (keywordEach kws X.env)).any (·.1.isNone)) = false := by rfl) :
    PE X (.Call (.Name x p) [] kws pos) (tCallN sp 0 ks.length gV E tNil tk) where
  run pins s σ H Q I h := by
    refine wpAny_Call_Name_kw (ld_glob I hg hm ?_ hdb)
    refine PySem.W.callWith_KW0 (first := []) (h₀ := X.base) I.ok.mod.kin hk hall (thn (hkw.run pos pins s σ H _ I h) ?_) hpl
    rintro ws s₂ ⟨zs, H₂, I₂, rz, _, l2, q₂⟩
    rw [hks]
    exact ⟨I₂.kIn, run_gn (us := []) (vs := []) F gd hr hb hx I₂ .nil rz rfl l2 q₂⟩
theorem pe_callGN {es : List Expr} {tp : TA} {sp : Sp} {gg : List Value → List Value → List Value} {gV : List V → List V → List V} (F : FnG X.prog X.w X.K X.mg X.base CX k g fd ps sp) (gd : X.A.guards = some []) (hr : Room k X.A) (hg : Gl X x) (hm : X.mg x = some (.ref g)) (hk : PySem.W.keepIn X.K (.ref g) = true) (hb : KBn X.K fd ps n ks gg gV) (hx : Passes CX X E)
    (ha : PA X (e :: es) tp) (hkw : PK X kws tk) (hall : (backToKw pos (keywordEach kws X.env)).all (·.1.isSome) = true := by rfl) (hks : (backToKw pos (keywordEach kws X.env)).filterMap (·.1) = ks := by rfl) (hdb : (x == ("__debug__" : Str)) = false := by decide)
    (he : starEach (e :: es) X.env = (false, eval e X.env) :: starEach es X.env := by rfl) (hpl : ((backTo pos (starEach (e :: es) X.env)).any (·.1) || (backToKw pos (keywordEach kws X.env)).any (·.1.isNone)) = false := by rfl) :
    PE X (.Call (.Name x p) (e :: es) kws pos) (tCallN sp n ks.length gV E tp tk) where
  run pins s σ H Q I h := by
    refine wpAny_Call_Name_kw (ld_glob I hg hm ?_ hdb)
    refine PySem.W.callWith_KW (h₀ := X.base) I.ok.mod.kin hk hall (thn (ha.run pos pins s σ H _ I h) ?_) hpl he
    rintro us s₁ ⟨vs, H₁, I₁, rv, q⟩
    refine thn (hkw.run pos pins s₁ σ H₁ _ I₁ q) ?_
    rintro ws s₂ ⟨zs, H₂, I₂, rz, l1, l2, q₂⟩
    rw [hks]
    exact ⟨I₂.kIn, run_gn F gd hr hb hx I₂ rv rz l1 l2 q₂⟩
theorem callK_run {Q : VK} {es : List Expr} {tp : TA} {m : Nat} (ha : DA X E es tp u) (hkw : DK X E kws tk uk) {B : Base} {er : Exn → Prop} {π : List (V × Sl)} {ρ : Rho} {σ : L2.St} {H : Hp} {ws : List Addr} {q : Sl → Rho → Prop} (R : Rel X.K B π ρ σ H ws) (hE : EOk X.K B er E) (h : dCallK cs is n m t u uk ρ er q) {N : Nat} (hn : ∀ as er q, t as er q → as.length = N)
    (kk : ∀ r ρ' v H' ws', q r ρ' → Rel X.K B ((v, r) :: π) ρ' σ H' ws' → Q v H') : tCallN (spD X.K N t) n m (selN is) E tp tk σ H Q :=
  ha.2 B er π ρ σ H ws _ _ R hE h fun rs ρ1 vs H1 ws1 h1 e1 R1 => hkw.2 B er _ ρ1 σ H1 ws1 _ _ R1 hE h1 fun ss ρ2 zs H2 ws2 h2 e2 R2 => by
    obtain ⟨l1, l2, h2⟩ := h2
    have m1 : Paired (fun v r => (v, r) ∈ pushAll zs ss (pushAll vs rs π)) vs rs := paired_push (π := π) e1 fun p hp => pushAll_keep hp
    have m2 : Paired (fun v r => (v, r) ∈ pushAll zs ss (pushAll vs rs π)) zs ss := paired_push (π := pushAll vs rs π) e2 fun p hp => hp
    obtain ⟨as, pa, nd, h2⟩ := argC_mem R2 (paired_append m1 (paired_sel m2 is)) h2
    exact ⟨e1.trans l1, e2.trans l2, callP R2.popAll.popAll hE pa nd h2 hn kk⟩
theorem de_callK0 (cs : List Bool) (is : List Nat) {N : Nat} (F : FnG X.prog X.w X.K X.mg X.base CX k g fd ps (spD X.K N t)) (gd : X.A.guards = some []) (hr : Room k X.A) (hg : Gl X x) (hm : X.mg x = some (.ref g)) (hk : PySem.W.keepIn X.K (.ref g) = true) (hb : KBn X.K fd ps 0 ks (selN is) (selN is)) (hx : Passes CX X E) (hn : ∀ as er q, t as er q → as.length = N)
    (hkw : DK X E kws tk uk) (hall : (backToKw pos (keywordEach kws X.env)).all (·.1.isSome) = true := by rfl) (hks : (backToKw pos (keywordEach kws X.env)).filterMap (·.1) = ks := by rfl) (hdb : (x == ("__debug__" : Str)) = false := by decide)
    (hpl : ((backTo pos (starEach [] X.env)).any (·.1) || (backToKw pos (keywordEach kws X.env)).any (·.1.isNone)) = false := by rfl) :
    DE X E (.Call (.Name x p) [] kws pos) (tCallN (spD X.K N t) 0 ks.length (selN is) E tNil tk) (dCallK cs is 0 ks.length t dNil uk) :=
  ⟨pe_callGN0 F gd hr hg hm hk hb hx hkw.1 hall hks hdb hpl, fun B er π ρ σ H ws q Q R hE h kk => callK_run da_nil hkw R hE h hn kk⟩
theorem de_callK (cs : List Bool) (is : List Nat) {es : List Expr} {tp : TA} {N : Nat} (F : FnG X.prog X.w X.K X.mg X.base CX k g fd ps (spD X.K N t)) (gd : X.A.guards = some []) (hr : Room k X.A) (hg : Gl X x) (hm : X.mg x = some (.ref g)) (hk : PySem.W.keepIn X.K (.ref g) = true) (hb : KBn X.K fd ps n ks (selN is) (selN is)) (hx : Passes CX X E) (hn : ∀ as er q, t as er q → as.length = N)
    (ha : DA X E (e :: es) tp u) (hkw : DK X E kws tk uk) (hall : (backToKw pos (keywordEach kws X.env)).all (·.1.isSome) = true := by rfl) (hks : (backToKw pos (keywordEach kws X.env)).filterMap (·.1) = ks := by rfl) (hdb : (x == ("__debug__" : Str)) = false := by decide)
    (he : starEach (e :: es) X.env = (false, eval e X.env) :: starEach es X.env := by rfl) (hpl : ((backTo pos (starEach (e :: es) X.env)).any (·.1) || (backToKw pos (keywordEach kws X.env)).any (·.1.isNone)) = false := by rfl) :
    DE X E (.Call (.Name x p) (e :: es) kws pos) (tCallN (spD X.K N t) n ks.length (selN is) E tp tk) (dCallK cs is n ks.length t u uk) :=
  ⟨pe_callGN F gd hr hg hm hk hb hx ha.1 hkw.1 hall hks hdb he hpl, fun B er π ρ σ H ws q Q R hE h kk => callK_run ha hkw R hE h hn kk⟩
end
end Dl
set_option maxRecDepth 100000
set_option maxHeartbeats 4000000
/-! the data layer: name = a comprehension; what holds through a loop -/
namespace Dl
open PySem PySem.Spec PyProof.Rows L2 L3
theorem sw_dc {kx vx : Expr} {gs : List Comprehension} {scope : Scope} {pos pn : Pos} {n : Str} {line : Nat} {env : Env} (h1 : env.scope.kind = .function) (h2 : env.scope.names.lookup n = some .local) (h3 : (pn.line == pos.line) = true)
    (h4 : (scope.names.any fun (m, k) => m == n && (k == .local || k == .cell)) = false) : swapsWith (.DictComp kx vx gs scope pos) (some (.Name n pn)) line env = pure true := by
  have kn : env.kindOf n = some .local := h2
  have bk : env.blockKind = .function := by unfold Env.blockKind; rw [h1]; rfl
  unfold swapsWith
  simp only [bk, kn, h4, Expr.pos, h3]
  rfl
section
variable {X : Cx} {E : XK} {elt kx vx tg iter : Expr} {ifs : List Expr} {scope : Scope} {own : List (Str × Nat)} {pos spos py : Pos} {y : Str} {i : Nat} {wi : TI} {g : TG} {tt : TT} {te tk tv : TE} {tdi : TDIg} {tdg : TDG} {tdt : TDT} {tde tdk tdv : TD} {sl : List Nat} {it : Addr → Obj → List (Key × V) → It} {its : List (Key × D) → List D} {j : Nat}
theorem ps_setDc (hc : X.calm = true) (hN : X.N.Nodup) (hy : X.N[i]? = some y) (hyl : X.env.scope.names.lookup y = some .local) (hsw : swapsWith (.DictComp kx vx [⟨tg, iter, ifs, 0⟩] scope pos) (some (.Name y py)) spos.line X.env = pure true) (hi : PI X tg iter wi) (ok : BlkOk X.N X.env.scope scope own)
    (hg : ∀ (s : Shared) (H : Hp) (C : Addr) (cl : List (Str × Addr)) (fp : List Addr), PG (X.blk s H scope (compEnvC scope cl C X.env) fp) tg g) (ht : ∀ (s : Shared) (H : Hp) (C : Addr) (cl : List (Str × Addr)) (fp : List Addr), PTs (X.blk s H scope (compEnvC scope cl C X.env) fp) ifs tt)
    (hk : ∀ (s : Shared) (H : Hp) (C : Addr) (cl : List (Str × Addr)) (fp : List Addr), PE (X.blk s H scope (compEnvC scope cl C X.env) fp) kx tk)
    (he : ∀ (s : Shared) (H : Hp) (C : Addr) (cl : List (Str × Addr)) (fp : List Addr), PE (X.blk s H scope (compEnvC scope cl C X.env) fp) vx tv) (hs : ∀ x, foldedSetIterable iter X.env x = pure x := by intro _; rfl) :
    PS X (.Assign [.Name y py] (.DictComp kx vx [⟨tg, iter, ifs, 0⟩] scope pos) spos) (tAsg (tDc wi g tt tk tv (own.map (·.2))) (gName i)) := by
  refine ⟨fun pins s σ H Dn I hw => ?_⟩
  rw [exec_Assign_Name_used _ _ _ _ hsw]
  refine wpAny_bind (wpAny_standAt (wpAny_bind ?_))
  show wpAny _ X.A (do let _ ← comprehension (.DictComp kx vx [⟨tg, iter, ifs, 0⟩] scope pos) scope X.env (firstIterPos [⟨tg, iter, ifs, 0⟩] pos) newDict false (eval iter X.env) (some (assign (.Name y py) X.env))) _ _ s
  have hw' : tDc wi g tt tk tv (own.map (·.2)) σ H (fun x G => gName i x σ G Dn.nx) := hw
  refine wpAny_bind (thn (dc_core (Qf := fun _ s' => SP X pins Dn .next s') hc hN I hi ok hg ht hk he hs hw' fun L C s' m H' J q hn fok => ?_) fun _ s' hq => wpAny_pure (wpAny_pure hq))
  show wpAny _ _ (assign (.Name y py) X.env (.ref L)) _ _ _
  obtain ⟨z0, z1, z2, z3, z4, z5⟩ := fok
  refine wpAny_assign_Name (store_ok2 (v := V.ref L) J hN hy (.inl hyl) rfl (fun s2 J2 ⟨b, same, hb⟩ => ?_) (.inr hyl))
  have apart : C ≠ b := by
    rcases hb with e | e
    · rw [e]; exact z1
    · exact fun e2 => z4 y b e e2.symm
  exact ⟨m, hn.sameBut same apart, fun h3 same3 => ⟨_, H', J2.turned (t' := s2.toks) (fun c o hc e => (same3.2 c hc).trans e) z0 z1 z3 z4 z5, q⟩⟩
theorem open_set {T : TE} {D : Ends} {σ : L2.St} {H : Hp} (h : tAsg (tOpenE T) (gName i) D σ H) : tOpen (tAsg T (gName i)) D σ H := by
  rcases h with h | ⟨d, u, h1, h2, h3⟩
  · exact .inl h
  · exact .inr ⟨d, u, h1, h2, h3⟩
theorem trs_open {K : PySem.W.Frag} {T : TE} {t : TDS} (h : TrS K E (tAsg (tOpenE T) (gName i)) t) : TrS K E (tOpen (tAsg T (gName i))) t := fun B er π ρ σ H ws Dd D R nh hE hw L => open_set (h B er π ρ σ H ws Dd D R nh hE hw L)
theorem ds_setLc (o : Bool) (hc : X.calm = true) (hN : X.N.Nodup) (hy : X.N[i]? = some y) (hyl : X.env.scope.names.lookup y = some .local) (hsw : swapsWith (.ListComp elt [⟨tg, iter, ifs, 0⟩] scope pos) (some (.Name y py)) spos.line X.env = pure true) (hi : DIg X E tg iter wi tdi) (ok : BlkOk X.N X.env.scope scope own)
    (hg : ∀ (s : Shared) (H : Hp) (C : Addr) (cl : List (Str × Addr)) (fp : List Addr), DG (X.blk s H scope (compEnvC scope cl C X.env) fp) E tg g sl tdg)
    (ht : ∀ (s : Shared) (H : Hp) (C : Addr) (cl : List (Str × Addr)) (fp : List Addr), DTs (X.blk s H scope (compEnvC scope cl C X.env) fp) E ifs tt tdt)
    (he : ∀ (s : Shared) (H : Hp) (C : Addr) (cl : List (Str × Addr)) (fp : List Addr), DE (X.blk s H scope (compEnvC scope cl C X.env) fp) E elt te tde)
    (hsl : ∀ i ∈ sl, i ∈ own.map (·.2) := by decide) (hs : ∀ x, foldedSetIterable iter X.env x = pure x := by intro _; rfl) :
    DS X E (.Assign [.Name y py] (.ListComp elt [⟨tg, iter, ifs, 0⟩] scope pos) spos) (tAsg (tLc wi g tt te (own.map (·.2))) (gName i)) (dAsg (dLc o tdi tdg tdt tde (own.map (·.2))) (dgName i)) :=
  ⟨ps_setLc hc hN hy hyl hsw hi.1 ok (fun s H C cl fp => (hg s H C cl fp).1) (fun s H C cl fp => (ht s H C cl fp).1) (fun s H C cl fp => (he s H C cl fp).1) hs, asg_run (de_lc (pos := pos) o hc hN hi ok hg ht he hsl hs) (dg_name (pos := py) hN hy (.inl hyl) (.inr hyl))⟩
theorem ds_setLcD (o : Bool) (hc : X.calm = true) (hN : X.N.Nodup) (hy : X.N[i]? = some y) (hyl : X.env.scope.names.lookup y = some .local) (hsw : swapsWith (.ListComp elt [⟨tg, iter, ifs, 0⟩] scope pos) (some (.Name y py)) spos.line X.env = pure true) (hi : PI X tg iter wi) (dm : DM X.K j wi it its) (ok : BlkOk X.N X.env.scope scope own)
    (hg : ∀ (s : Shared) (H : Hp) (C : Addr) (cl : List (Str × Addr)) (fp : List Addr), DG (X.blk s H scope (compEnvC scope cl C X.env) fp) E tg g sl tdg)
    (ht : ∀ (s : Shared) (H : Hp) (C : Addr) (cl : List (Str × Addr)) (fp : List Addr), DTs (X.blk s H scope (compEnvC scope cl C X.env) fp) E ifs tt tdt)
    (he : ∀ (s : Shared) (H : Hp) (C : Addr) (cl : List (Str × Addr)) (fp : List Addr), DE (X.blk s H scope (compEnvC scope cl C X.env) fp) E elt te tde)
    (hsl : ∀ i ∈ sl, i ∈ own.map (·.2) := by decide) (hs : ∀ x, foldedSetIterable iter X.env x = pure x := by intro _; rfl) :
    DS X E (.Assign [.Name y py] (.ListComp elt [⟨tg, iter, ifs, 0⟩] scope pos) spos) (tOpen (tAsg (tLc wi g tt te (own.map (·.2))) (gName i))) (dAsg (dLcD o j its tdg tdt tde (own.map (·.2))) (dgName i)) :=
  ⟨ps_open (ps_setLc hc hN hy hyl hsw hi ok (fun s H C cl fp => (hg s H C cl fp).1) (fun s H C cl fp => (ht s H C cl fp).1) (fun s H C cl fp => (he s H C cl fp).1) hs), trs_open (asg_run (de_lcD (pos := pos) o hc hN hi dm ok hg ht he hsl hs) (dg_name (pos := py) hN hy (.inl hyl) (.inr hyl)))⟩
theorem ds_setDc (o : Bool) (hc : X.calm = true) (hN : X.N.Nodup) (hy : X.N[i]? = some y) (hyl : X.env.scope.names.lookup y = some .local) (hsw : swapsWith (.DictComp kx vx [⟨tg, iter, ifs, 0⟩] scope pos) (some (.Name y py)) spos.line X.env = pure true) (hi : DIg X E tg iter wi tdi) (ok : BlkOk X.N X.env.scope scope own)
    (hg : ∀ (s : Shared) (H : Hp) (C : Addr) (cl : List (Str × Addr)) (fp : List Addr), DG (X.blk s H scope (compEnvC scope cl C X.env) fp) E tg g sl tdg)
    (ht : ∀ (s : Shared) (H : Hp) (C : Addr) (cl : List (Str × Addr)) (fp : List Addr), DTs (X.blk s H scope (compEnvC scope cl C X.env) fp) E ifs tt tdt)
    (hk : ∀ (s : Shared) (H : Hp) (C : Addr) (cl : List (Str × Addr)) (fp : List Addr), DE (X.blk s H scope (compEnvC scope cl C X.env) fp) E kx tk tdk)
    (he : ∀ (s : Shared) (H : Hp) (C : Addr) (cl : List (Str × Addr)) (fp : List Addr), DE (X.blk s H scope (compEnvC scope cl C X.env) fp) E vx tv tdv)
    (hsl : ∀ i ∈ sl, i ∈ own.map (·.2) := by decide) (hs : ∀ x, foldedSetIterable iter X.env x = pure x := by intro _; rfl) :
    DS X E (.Assign [.Name y py] (.DictComp kx vx [⟨tg, iter, ifs, 0⟩] scope pos) spos) (tAsg (tDc wi g tt tk tv (own.map (·.2))) (gName i)) (dAsg (dDc o tdi tdg tdt tdk tdv (own.map (·.2))) (dgName i)) :=
  ⟨ps_setDc hc hN hy hyl hsw hi.1 ok (fun s H C cl fp => (hg s H C cl fp).1) (fun s H C cl fp => (ht s H C cl fp).1) (fun s H C cl fp => (hk s H C cl fp).1) (fun s H C cl fp => (he s H C cl fp).1) hs, asg_run (de_dc (pos := pos) o hc hN hi ok hg ht hk he hsl hs) (dg_name (pos := py) hN hy (.inl hyl) (.inr hyl))⟩
theorem ds_setDcD (o : Bool) (hc : X.calm = true) (hN : X.N.Nodup) (hy : X.N[i]? = some y) (hyl : X.env.scope.names.lookup y = some .local) (hsw : swapsWith (.DictComp kx vx [⟨tg, iter, ifs, 0⟩] scope pos) (some (.Name y py)) spos.line X.env = pure true) (hi : PI X tg iter wi) (dm : DM X.K j wi it its) (ok : BlkOk X.N X.env.scope scope own)
    (hg : ∀ (s : Shared) (H : Hp) (C : Addr) (cl : List (Str × Addr)) (fp : List Addr), DG (X.blk s H scope (compEnvC scope cl C X.env) fp) E tg g sl tdg)
    (ht : ∀ (s : Shared) (H : Hp) (C : Addr) (cl : List (Str × Addr)) (fp : List Addr), DTs (X.blk s H scope (compEnvC scope cl C X.env) fp) E ifs tt tdt)
    (hk : ∀ (s : Shared) (H : Hp) (C : Addr) (cl : List (Str × Addr)) (fp : List Addr), DE (X.blk s H scope (compEnvC scope cl C X.env) fp) E kx tk tdk)
    (he : ∀ (s : Shared) (H : Hp) (C : Addr) (cl : List (Str × Addr)) (fp : List Addr), DE (X.blk s H scope (compEnvC scope cl C X.env) fp) E vx tv tdv)
    (hsl : ∀ i ∈ sl, i ∈ own.map (·.2) := by decide) (hs : ∀ x, foldedSetIterable iter X.env x = pure x := by intro _; rfl) :
    DS X E (.Assign [.Name y py] (.DictComp kx vx [⟨tg, iter, ifs, 0⟩] scope pos) spos) (tOpen (tAsg (tDc wi g tt tk tv (own.map (·.2))) (gName i))) (dAsg (dDcD o j its tdg tdt tdk tdv (own.map (·.2))) (dgName i)) :=
  ⟨ps_open (ps_setDc hc hN hy hyl hsw hi ok (fun s H C cl fp => (hg s H C cl fp).1) (fun s H C cl fp => (ht s H C cl fp).1) (fun s H C cl fp => (hk s H C cl fp).1) (fun s H C cl fp => (he s H C cl fp).1) hs), trs_open (asg_run (de_dcD (pos := pos) o hc hN hi dm ok hg ht hk he hsl hs) (dg_name (pos := py) hN hy (.inl hyl) (.inr hyl)))⟩
end
/-! ### what holds through a for -/
theorem for_ind {g : TDG} {body : TDS} {er : Exn → Prop} {Dd : DEnds} {items : List D} {ρ : Rho} (I : Nat → Rho → Prop) (h0 : I 0 ρ)
    (hs : ∀ (k : Nat) (d : D) (ρ : Rho) (N : Rho → Prop), items[k]? = some d → I k ρ → (∀ ρ, I (k + 1) ρ → N ρ) → g (.imm d) ρ er fun ρ1 => body { Dd with nx := N, ct := N, bk := Dd.nx } ρ1 er)
    (hd : ∀ ρ, I items.length ρ → Dd.nx ρ) : forW g body er Dd items ρ := by
  have go : ∀ (n k : Nat), n = items.length - k → k ≤ items.length → ∀ ρ, I k ρ → forW g body er Dd (items.drop k) ρ := by
    intro n
    induction n with
    | zero =>
      intro k e le ρ h
      have : k = items.length := by omega
      subst this
      rw [List.drop_length]
      exact hd ρ h
    | succ n ih =>
      intro k e le ρ h
      have lt : k < items.length := by omega
      rw [List.drop_eq_getElem_cons lt]
      exact hs k items[k] ρ _ (List.getElem?_eq_getElem lt) h fun ρ z => ih (k + 1) (by omega) lt ρ z
  simpa using go items.length 0 (by simp) (Nat.zero_le _) ρ h0
theorem comp_ind {gd : Rho → Prop} {g : TDG} {tt : TDT} {te : TD} {vs : List Nat} {er : Exn → Prop} {q : List D → Rho → Prop} {items : List D} {ρ : Rho} (I : Nat → List D → Rho → Prop) (h0 : I 0 [] ρ) (hg : ∀ k acc ρ, I k acc ρ → gd ρ)
    (hs : ∀ (k : Nat) (d : D) (acc : List D) (ρ : Rho) (N : List D → Rho → Prop), items[k]? = some d → I k acc ρ → (∀ acc ρ, I (k + 1) acc ρ → N acc ρ) →
      g (.imm d) (wipeD ρ vs) er fun ρ2 => tt ρ2 er fun b ρ3 => cnd b (te ρ3 er fun r ρ4 => sd r ρ4 fun y => acc.length < sizeLine ∧ N (acc ++ [y]) (wipeD ρ4 vs)) (N acc (wipeD ρ3 vs)))
    (hd : ∀ acc ρ, I items.length acc ρ → q acc ρ) : compW gd g tt te vs er q items [] ρ := by
  have go : ∀ (n k : Nat), n = items.length - k → k ≤ items.length → ∀ acc ρ, I k acc ρ → compW gd g tt te vs er q (items.drop k) acc ρ := by
    intro n
    induction n with
    | zero =>
      intro k e le acc ρ h
      have : k = items.length := by omega
      subst this
      rw [List.drop_length]
      exact ⟨hg _ _ _ h, hd acc ρ h⟩
    | succ n ih =>
      intro k e le acc ρ h
      have lt : k < items.length := by omega
      rw [List.drop_eq_getElem_cons lt]
      exact ⟨hg _ _ _ h, hs k items[k] acc ρ _ (List.getElem?_eq_getElem lt) h fun acc ρ z => ih (k + 1) (by omega) lt acc ρ z⟩
  simpa using go items.length 0 (by simp) (Nat.zero_le _) [] ρ h0
theorem compD_ind {gd : Rho → Prop} {g : TDG} {tt : TDT} {tk tv : TD} {vs : List Nat} {er : Exn → Prop} {q : List (Key × D) → Rho → Prop} {items : List D} {ρ : Rho} (I : Nat → List (Key × D) → Rho → Prop) (h0 : I 0 [] ρ) (hg : ∀ k acc ρ, I k acc ρ → gd ρ)
    (hs : ∀ (k : Nat) (d : D) (acc : List (Key × D)) (ρ : Rho) (N : List (Key × D) → Rho → Prop), items[k]? = some d → I k acc ρ → (∀ acc ρ, I (k + 1) acc ρ → N acc ρ) →
      g (.imm d) (wipeD ρ vs) er fun ρ2 => tt ρ2 er fun b ρ3 => cnd b (tk ρ3 er fun r ρ4 => tv ρ4 er fun s ρ5 => wd r ρ5 fun k => optW k.key fun j => sd s ρ5 fun y => acc.length < sizeLine ∧ N (puD acc j y) (wipeD ρ5 vs)) (N acc (wipeD ρ3 vs)))
    (hd : ∀ acc ρ, I items.length acc ρ → q acc ρ) : compDW gd g tt tk tv vs er q items [] ρ := by
  have go : ∀ (n k : Nat), n = items.length - k → k ≤ items.length → ∀ acc ρ, I k acc ρ → compDW gd g tt tk tv vs er q (items.drop k) acc ρ := by
    intro n
    induction n with
    | zero =>
      intro k e le acc ρ h
      have : k = items.length := by omega
      subst this
      rw [List.drop_length]
      exact ⟨hg _ _ _ h, hd acc ρ h⟩
    | succ n ih =>
      intro k e le acc ρ h
      have lt : k < items.length := by omega
      rw [List.drop_eq_getElem_cons lt]
      exact ⟨hg _ _ _ h, hs k items[k] acc ρ _ (List.getElem?_eq_getElem lt) h fun acc ρ z => ih (k + 1) (by omega) lt acc ρ z⟩
  simpa using go items.length 0 (by simp) (Nat.zero_le _) [] ρ h0
/-! ### a def and what is said of it -/
section
variable {P : Program} {w : World} {K : PySem.W.Frag} {mg : Str → Option Value} {base : Heap} {CX : CXT} {k : Nat} {f : Addr} {name qual : Str} {params : Arguments} {body : List Stmt} {scope : Scope} {dV kV doc pm cdv ct oc : Value} {an od : Option Addr} {osl : Array (Option Value)} {N ps : List Str} {tb : TDS}
theorem spD_mono {n : Nat} {t t' : TF} (h : ∀ args er q, t args er q → t' args er q) {vs : List V} {H : Hp} {Q : VK} {E : XK} (s : spD K n t vs H Q E) : spD K n t' vs H Q E := by
  obtain ⟨B, args, ws, er, q, a, b, c, d, e, f, g⟩ := s
  exact ⟨B, args, ws, er, q, a, b, c, d, e, h _ _ _ f, g⟩
theorem fnG_mono {fd : FuncData} {sp sp' : Sp} (F : FnG P w K mg base CX k f fd ps sp) (h : ∀ vs H Q E, sp' vs H Q E → sp vs H Q E) : FnG P w K mg base CX k f fd ps sp' :=
  ⟨fun vs H Q E z => F.len vs H Q E (h _ _ _ _ z), fun A outer s H args us vs Q E g r e b v z => F.run A outer s H args us vs Q E g r e b v (h _ _ _ _ z)⟩
theorem fn_dS {t : TF} (lk : K.lookup f = some ⟨oc, od, .func (PySem.W.fnOf name qual params body scope dV kV doc pm an cdv ct), osl⟩) (hcd : PySem.W.codeIn K cdv qual = true) (S : FnScope N ps scope)
    (h : ∀ (A : Around) (outer : List Env) (s : Shared) (H : Hp) (E : XK), (A.deeper (envOfC qual scope s.heap.objs.size f cdv)).guards = some [] → Room k (A.deeper (envOfC qual scope s.heap.objs.size f cdv)) →
      ∃ ts, DSs (cxOf CX P w K mg base N qual scope f cdv A outer s H E) E body ts tb) (hs : ∀ args er q, args.length = ps.length → t args er q → dBody (N.length - ps.length) tb args er q) :
    FnG P w K mg base CX (k + 1) f (PySem.W.fnOf name qual params body scope dV kV doc pm an cdv ct) ps (spD K ps.length t) :=
  fnG_mono (fn_d lk hcd S h) fun vs H Q E z => by
    obtain ⟨B, args, ws, er, q, a, b, c, d, e, f, g⟩ := z
    exact ⟨B, args, ws, er, q, a, b, c, d, e, hs _ _ _ c f, g⟩
end
end Dl
set_option maxRecDepth 100000
set_option maxHeartbeats 4000000
/-! the data layer: the defs of a text; the draws; the law's entry -/
namespace Dl
open PySem PySem.Spec PyProof.Rows L2 L3 LamX
/-- a def that stands in the module -/
def HasD (P : Program) (w : World) (K : PySem.W.Frag) (mg : Str → Option Value) (base : Heap) (CX : CXT) (k : Nat) (x : Str) (ps : List Str) (n : Nat) (t : TF) : Prop :=
  ∃ f fd, FnG P w K mg base CX k f fd ps (spD K n t) ∧ mg x = some (.ref f) ∧ PySem.W.keepIn K (.ref f) = true ∧ L2.Binds K fd ps [] ∧ ∀ as er q, t as er q → as.length = n
/-- .. called by names too: n values by position, the names ks, is: their places -/
def HasK (P : Program) (w : World) (K : PySem.W.Frag) (mg : Str → Option Value) (base : Heap) (CX : CXT) (k : Nat) (x : Str) (ps : List Str) (N : Nat) (t : TF) (n : Nat) (ks : List Str) (is : List Nat) : Prop :=
  ∃ f fd, FnG P w K mg base CX k f fd ps (spD K N t) ∧ mg x = some (.ref f) ∧ PySem.W.keepIn K (.ref f) = true ∧ KBn K fd ps n ks (selN is) (selN is) ∧ ∀ as er q, t as er q → as.length = N
section
variable {P : Program} {w : World} {K : PySem.W.Frag} {mg : Str → Option Value} {base : Heap} {X : Cx} {E : XK} {e : Expr} {es : List Expr} {taa tk : TA} {u uk : TDA} {pos p : Pos} {CX : CXT} {k k' n N : Nat} {ps ks : List Str} {x : Str} {t : TF} {kws : List Keyword}
/-- the context's program, world, written part, names, module -/
def Same5 (X : Cx) (P : Program) (w : World) (K : PySem.W.Frag) (mg : Str → Option Value) (base : Heap) : Prop := X.prog = P ∧ X.w = w ∧ X.K = K ∧ X.mg = mg ∧ X.base = base
theorem de_callH (cs : List Bool) (F : HasD P w K mg base CX k x ps n t) (gd : X.A.guards = some []) (hr : Room k' X.A) (le : k ≤ k') (hg : Gl X x) (hx : Passes CX X E)
    (ha : DA X E (e :: es) taa u) (same : Same5 X P w K mg base := by exact ⟨rfl, rfl, rfl, rfl, rfl⟩) (hdb : (x == ("__debug__" : Str)) = false := by decide) (he : starEach (e :: es) X.env = (false, eval e X.env) :: starEach es X.env := by rfl) (hpl : (backTo pos (starEach es X.env)).any (·.1) = false := by rfl) :
    DE X E (.Call (.Name x p) (e :: es) [] pos) (tCall (spD K n t) [] E taa) (dCall cs t u) := by
  obtain ⟨rfl, rfl, rfl, rfl, rfl⟩ := same
  obtain ⟨f, fd, F, hm, hk, hb, hn⟩ := F
  exact de_call cs F gd (hr.mono le) hg hm hk hb hx hn ha hdb he hpl
theorem de_callKH0 (cs : List Bool) (is : List Nat) (F : HasK P w K mg base CX k x ps N t 0 ks is) (gd : X.A.guards = some []) (hr : Room k' X.A) (le : k ≤ k') (hg : Gl X x) (hx : Passes CX X E) (hkw : DK X E kws tk uk) (same : Same5 X P w K mg base := by exact ⟨rfl, rfl, rfl, rfl, rfl⟩)
    (hall : (backToKw pos (keywordEach kws X.env)).all (·.1.isSome) = true := by rfl) (hks : (backToKw pos (keywordEach kws X.env)).filterMap (·.1) = ks := by rfl) (hdb : (x == ("__debug__" : Str)) = false := by decide)
    (hpl : ((backTo pos (starEach [] X.env)).any (·.1) || (backToKw pos (keywordEach kws X.env)).any (·.1.isNone)) = false := by rfl) :
    DE X E (.Call (.Name x p) [] kws pos) (tCallN (spD K N t) 0 ks.length (selN is) E tNil tk) (dCallK cs is 0 ks.length t dNil uk) := by
  obtain ⟨rfl, rfl, rfl, rfl, rfl⟩ := same
  obtain ⟨f, fd, F, hm, hk, hb, hn⟩ := F
  exact de_callK0 cs is F gd (hr.mono le) hg hm hk hb hx hn hkw hall hks hdb hpl
theorem de_callKH (cs : List Bool) (is : List Nat) (F : HasK P w K mg base CX k x ps N t n ks is) (gd : X.A.guards = some []) (hr : Room k' X.A) (le : k ≤ k') (hg : Gl X x) (hx : Passes CX X E) (ha : DA X E (e :: es) taa u) (hkw : DK X E kws tk uk) (same : Same5 X P w K mg base := by exact ⟨rfl, rfl, rfl, rfl, rfl⟩)
    (hall : (backToKw pos (keywordEach kws X.env)).all (·.1.isSome) = true := by rfl) (hks : (backToKw pos (keywordEach kws X.env)).filterMap (·.1) = ks := by rfl) (hdb : (x == ("__debug__" : Str)) = false := by decide)
    (he : starEach (e :: es) X.env = (false, eval e X.env) :: starEach es X.env := by rfl) (hpl : ((backTo pos (starEach (e :: es) X.env)).any (·.1) || (backToKw pos (keywordEach kws X.env)).any (·.1.isNone)) = false := by rfl) :
    DE X E (.Call (.Name x p) (e :: es) kws pos) (tCallN (spD K N t) n ks.length (selN is) E taa tk) (dCallK cs is n ks.length t u uk) := by
  obtain ⟨rfl, rfl, rfl, rfl, rfl⟩ := same
  obtain ⟨f, fd, F, hm, hk, hb, hn⟩ := F
  exact de_callK cs is F gd (hr.mono le) hg hm hk hb hx hn ha hkw hall hks hdb he hpl
end
section
variable {P : Program} {w : World} {K : PySem.W.Frag} {mg : Str → Option Value} {base : Heap} {k : Nat} {f : Addr} {fd : FuncData} {x qual : Str} {st : Stmt} {N ps : List Str} {tb : TDS} {t : TF}
/-- THE RULE for a def that lets nothing out -/
theorem fun_d (F : Fun K x qual st f fd) (S : FnScope N ps (defScope st))
    (h : ∀ (cdv : Value) (A : Around) (outer : List Env) (s : Shared) (H : Hp) (E : XK), (A.deeper (envOfC qual (defScope st) s.heap.objs.size f cdv)).guards = some [] → Room k (A.deeper (envOfC qual (defScope st) s.heap.objs.size f cdv)) →
      ∃ ts, DSs (cxOf CX0 P w K mg base N qual (defScope st) f cdv A outer s H E).nox E (defBody st) ts tb) (hs : ∀ args er q, args.length = ps.length → t args er q → dBody (N.length - ps.length) tb args er q) :
    FnG P w K mg base CX0 (k + 1) f fd ps (spD K ps.length t) := by
  obtain ⟨oc, od, kV, doc, pm, an, cdv, ct, osl, rfl, lk, hcd⟩ := F.ex
  exact fn_dS lk hcd S (fun A outer s H E gd hr => let ⟨ts, h1, h2⟩ := h cdv A outer s H E gd hr; ⟨ts, h1.nox, h2⟩) hs
/-- .. that may raise -/
theorem fun_dX (F : Fun K x qual st f fd) (S : FnScope N ps (defScope st))
    (h : ∀ (cdv : Value) (A : Around) (outer : List Env) (s : Shared) (H : Hp) (E : XK), (A.deeper (envOfC qual (defScope st) s.heap.objs.size f cdv)).guards = some [] → Room k (A.deeper (envOfC qual (defScope st) s.heap.objs.size f cdv)) →
      ∃ ts, DSs (cxOf (L2.CX P w) P w K mg base N qual (defScope st) f cdv A outer s H E) E (defBody st) ts tb) (hs : ∀ args er q, args.length = ps.length → t args er q → dBody (N.length - ps.length) tb args er q) :
    FnG P w K mg base (L2.CX P w) (k + 1) f fd ps (spD K ps.length t) := by
  obtain ⟨oc, od, kV, doc, pm, an, cdv, ct, osl, rfl, lk, hcd⟩ := F.ex
  exact fn_dS lk hcd S (fun A outer s H E gd hr => h cdv A outer s H E gd hr) hs
/-! ### the draws -/
def drawS : TF := fun args _ q => ∃ b : Int, args = [.drw, .imm (.int b)] ∧ 0 < b ∧ b < 1073741824 ∧ ∀ (r : Int) (ρ' : Rho), 0 ≤ r → r < b → q (.imm (.int r)) ρ'
theorem drawS_len : ∀ as er q, drawS as er q → as.length = 2 := fun as er q h => by
  obtain ⟨b, rfl, _⟩ := h
  rfl
/-- a def that draws keeps its promise over data -/
theorem draw_d {sp : Sp} {CX : CXT} (F : FnG P w K mg base CX k f fd ps sp)
    (h : ∀ (d st : Addr) (b : Int) (H : Hp) (Q : VK) (E : XK), Dr d st H → 0 < b → b < 1073741824 → (∀ (r : Int) (H' : Hp), 0 ≤ r → r < b → Dr d st H' → (∀ c o, H c = some o → c ≠ d → c ≠ st → H' c = some o) → Q (.int r) H') → sp [.ref d, .int b] H Q E) :
    FnG P w K mg base CX k f fd ps (spD K 2 drawS) := fnG_mono F fun vs H Q E z => by
  obtain ⟨B, args, ws, er, q, rfl, rfl, hl, R, hE, ⟨b, rfl, b0, b1, kk⟩, post⟩ := z
  obtain ⟨v0, e0, d, st, ed, rfl⟩ := R.sl 0 .drw rfl (fun y => nomatch y)
  obtain ⟨v1, e1, h1⟩ := R.sl 1 (.imm (.int b)) rfl (fun y => nomatch y)
  have h1' : Da K (mns B.ws0 B.H0) v1 (.int b) := h1
  cases h1'
  have len := R.len
  match vs, e0, e1, len with
  | [a, c], e0, e1, _ =>
    cases e0
    cases e1
    obtain ⟨s1, s2, s3, _⟩ := R.dr d st ed
    refine h d st b _ _ _ s3 b0 b1 fun r H' r0 r1 dr' kp => ?_
    have R2 := R.heap (H' := H') (ws2 := B.ws0) (fun c o e n _ => kp c o e (n d st ed).1 (n d st ed).2) (fun P q t => tab_at t fun b o e z => kp b o e (fun y => by subst y; obtain ⟨_, _, _, g, _⟩ := s3; rw [g] at e; cases e; rcases z with ⟨_, _, z⟩ | ⟨_, z⟩ <;> cases z) (fun y => by subst y; obtain ⟨_, _, _, _, g, _⟩ := s3; rw [g] at e; cases e; rcases z with ⟨_, _, z⟩ | ⟨_, z⟩ <;> cases z)) (fun b n z => by
      cases e : B.H0 b with
      | none => exact n e
      | some o =>
        by_cases y1 : b = d
        · subst y1; obtain ⟨_, _, _, g, _⟩ := dr'; rw [g] at z; cases z
        · by_cases y2 : b = st
          · subst y2; obtain ⟨_, _, _, _, g, _⟩ := dr'; rw [g] at z; cases z
          · rw [kp b o e y1 y2] at z; cases z) (fun d' st' e => by rw [ed] at e; cases e; exact dr') (fun _ m => m) fun _ m => .inl m
    exact post (.imm (.int r)) _ _ _ H' B.ws0 (kk r [.drw, .imm (.int b)] r0 r1) True.intro (R2.imm (.int r))
  | [], _, _, e => cases e
  | [_], _, _, e => cases e
  | _ :: _ :: _ :: _, _, _, e => cases e
/-! ### the law's entry -/
theorem law_in {E : XK} {ts : TS} {tb : TDS} {σ : L2.St} {ρ : Rho} {H' : Hp} {Q : VK} {nx : L2.St → Hp → Prop} {d st : Addr} (tr : TrS K E ts tb) (dr : Dr d st H') (hl : ρ.length = σ.length) (hi : ∀ (i : Nat) (x : Sl), ρ[i]? = some x → x = Sl.no ∨ (x = Sl.drw ∧ σ[i]? = some (some (V.ref d))))
    (hw : tb { nx := fun _ => False, rt := fun r _ => r = .imm (.bl true) } ρ noEx) (hQ : ∀ H, Q (.bl true) H) : ts { nx := nx, rt := Q } σ H' := by
  have some_d : H' d ≠ none := by obtain ⟨_, _, _, h, _⟩ := dr; rw [h]; simp
  have some_s : H' st ≠ none := by obtain ⟨_, _, _, _, h, _⟩ := dr; rw [h]; simp
  have in2 : ∀ a ∈ [d, st], H' a ≠ none := fun a m => by
    rcases List.mem_cons.mp m with rfl | m
    · exact some_d
    · rw [List.mem_singleton.mp m]; exact some_s
  have own : ∀ {i : Nat} {x : Sl}, ρ[i]? = some x → ¬ x.isOwn := fun {i x} e h => by
    rcases hi i x e with rfl | ⟨rfl, _⟩ <;> exact h
  have R : Rel K ⟨H', [d, st], [], some (d, st)⟩ [] ρ σ H' [d, st] :=
    { len := hl, sl := fun i x e n => by
        rcases hi i x e with rfl | ⟨rfl, h⟩
        · exact (n rfl).elim
        · exact ⟨_, h, d, st, rfl, rfl⟩
      nsl := fun i j e => by
        rcases hi i _ e with h | ⟨h, _⟩ <;> cases h
      pn := fun p hp => absurd hp List.not_mem_nil, npp := fun p hp => absurd hp List.not_mem_nil
      apS := fun i j x y v w e1 _ h _ _ _ _ => (own e1 h).elim, apP := .nil, apX := fun p hp => absurd hp List.not_mem_nil
      wl := fun a m => .inl m, wg := fun a m => m, w0 := in2, keep := fun a o e _ _ => e, tab := fun _ _ t => t, stay := fun a n => n, wsH := in2
      ps := fun i a m => absurd m List.not_mem_nil
      pr := fun i d e => by
        rcases hi i _ e with h | ⟨h, _⟩ <;> cases h
      psd := fun i j a m => absurd m List.not_mem_nil
      dr := fun d' st' e => by
        cases e
        exact ⟨List.mem_cons_self, List.mem_cons_of_mem _ List.mem_cons_self, dr, fun i a m => absurd m List.not_mem_nil⟩ }
  exact tr _ noEx [] ρ σ H' [d, st] _ _ R (fun p hp => absurd hp List.not_mem_nil) eok_no hw ⟨fun _ _ _ _ z => z.elim, fun r ρ σ v H ws z _ R => by
    have z' : r = .imm (.bl true) := z
    subst z'
    have t : Da K (mns ws H) v (.bl true) := R.top
    cases t
    exact hQ H, fun _ _ _ _ z => z.elim, fun _ _ _ _ z => z.elim⟩
end
end Dl
set_option maxRecDepth 100000
set_option maxHeartbeats 4000000
/-! the data layer: comprehensions that leave the slots as they are -/
namespace Dl
open PySem PySem.Spec PyProof.Rows L2 L3 LamX
theorem take_snoc {α : Type} {xs : List α} {k : Nat} {d : α} (e : xs[k]? = some d) : xs.take (k + 1) = xs.take k ++ [d] := by
  rw [List.take_add_one, e]
  rfl
theorem lc_simple {gd : Rho → Prop} {g : TDG} {tt : TDT} {te : TD} {vs : List Nat} {er : Exn → Prop} {q : List D → Rho → Prop} {items : List D} {ρ : Rho} (c : D → Bool) (f : D → D) (hw : wipeD ρ vs = ρ) (hl : items.length ≤ sizeLine) (hgd : gd ρ)
    (step : ∀ (d : D) (acc : List D) (N : List D → Rho → Prop), d ∈ items → acc.length < sizeLine → (c d = true → N (acc ++ [f d]) ρ) → (c d = false → N acc ρ) →
      g (.imm d) ρ er fun ρ2 => tt ρ2 er fun b ρ3 => cnd b (te ρ3 er fun r ρ4 => sd r ρ4 fun y => acc.length < sizeLine ∧ N (acc ++ [y]) (wipeD ρ4 vs)) (N acc (wipeD ρ3 vs)))
    (fin : q ((items.filter c).map f) ρ) : compW gd g tt te vs er q items [] ρ := by
  refine comp_ind (fun k acc ρ' => ρ' = ρ ∧ acc = ((items.take k).filter c).map f) ⟨rfl, by simp⟩ (fun k acc ρ' h => by rw [h.1]; exact hgd) ?_ ?_
  · rintro k d acc ρ' N e ⟨rfl, rfl⟩ hN
    rw [hw]
    have few : (((items.take k).filter c).map f).length < sizeLine := by
      have h1 := List.length_filter_le c (items.take k)
      have h2 := (List.getElem?_eq_some_iff.mp e).1
      rw [List.length_map]
      rw [List.length_take] at h1
      omega
    refine step d _ N (List.mem_of_getElem? e) few (fun hc => hN _ _ ⟨rfl, ?_⟩) fun hc => hN _ _ ⟨rfl, ?_⟩
    · rw [take_snoc e, List.filter_append, List.filter_cons_of_pos hc, List.filter_nil, List.map_append]; rfl
    · rw [take_snoc e, List.filter_append, List.filter_cons_of_neg (by rw [hc]; simp), List.filter_nil, List.append_nil]
  · rintro acc ρ' ⟨rfl, rfl⟩
    rw [List.take_length]
    exact fin
theorem lc_map {gd : Rho → Prop} {g : TDG} {te : TD} {vs : List Nat} {er : Exn → Prop} {q : List D → Rho → Prop} {items : List D} {ρ : Rho} (f : D → D) (hw : wipeD ρ vs = ρ) (hl : items.length ≤ sizeLine) (hgd : gd ρ)
    (step : ∀ (d : D) (acc : List D) (N : List D → Rho → Prop), d ∈ items → acc.length < sizeLine → N (acc ++ [f d]) ρ → g (.imm d) ρ er fun ρ2 => te ρ2 er fun r ρ4 => sd r ρ4 fun y => acc.length < sizeLine ∧ N (acc ++ [y]) (wipeD ρ4 vs))
    (fin : q (items.map f) ρ) : compW gd g dYes te vs er q items [] ρ := by
  refine lc_simple (fun _ => true) f hw hl hgd (fun d acc N hd ha h _ => ?_) (by rw [List.filter_eq_self.mpr (fun _ _ => rfl)]; exact fin)
  exact step d acc N hd ha (h rfl)
theorem lc_typed {α : Type} {L : List α} (e : α → D) (c : α → Bool) (f : α → D) {gd : Rho → Prop} {g : TDG} {tt : TDT} {te : TD} {vs : List Nat} {er : Exn → Prop} {q : List D → Rho → Prop} {ρ : Rho} (hw : wipeD ρ vs = ρ) (hl : L.length ≤ sizeLine) (hgd : gd ρ)
    (step : ∀ (a : α) (acc : List D) (N : List D → Rho → Prop), a ∈ L → acc.length < sizeLine → (c a = true → N (acc ++ [f a]) ρ) → (c a = false → N acc ρ) →
      g (.imm (e a)) ρ er fun ρ2 => tt ρ2 er fun b ρ3 => cnd b (te ρ3 er fun r ρ4 => sd r ρ4 fun y => acc.length < sizeLine ∧ N (acc ++ [y]) (wipeD ρ4 vs)) (N acc (wipeD ρ3 vs)))
    (fin : q ((L.filter c).map f) ρ) : compW gd g tt te vs er q (L.map e) [] ρ := by
  refine comp_ind (fun k acc ρ' => ρ' = ρ ∧ acc = ((L.take k).filter c).map f) ⟨rfl, by simp⟩ (fun k acc ρ' h => by rw [h.1]; exact hgd) ?_ ?_
  · rintro k d acc ρ' N ed ⟨rfl, rfl⟩ hN
    rw [hw]
    rw [List.getElem?_map] at ed
    obtain ⟨a, ea, rfl⟩ := Option.map_eq_some_iff.mp ed
    have few : (((L.take k).filter c).map f).length < sizeLine := by
      have h1 := List.length_filter_le c (L.take k)
      have h2 := (List.getElem?_eq_some_iff.mp ea).1
      rw [List.length_map]
      rw [List.length_take] at h1
      omega
    refine step a _ N (List.mem_of_getElem? ea) few (fun hc => hN _ _ ⟨rfl, ?_⟩) fun hc => hN _ _ ⟨rfl, ?_⟩
    · rw [take_snoc ea, List.filter_append, List.filter_cons_of_pos hc, List.filter_nil, List.map_append]; rfl
    · rw [take_snoc ea, List.filter_append, List.filter_cons_of_neg (by rw [hc]; simp), List.filter_nil, List.append_nil]
  · rintro acc ρ' ⟨rfl, rfl⟩
    rw [List.length_map, List.take_length]
    exact fin
theorem dc_map {gd : Rho → Prop} {g : TDG} {tk tv : TD} {vs : List Nat} {er : Exn → Prop} {q : List (Key × D) → Rho → Prop} {items : List D} {ρ : Rho} (fk : D → Key) (fv : D → D) (hw : wipeD ρ vs = ρ) (hl : items.length ≤ sizeLine) (hgd : gd ρ)
    (step : ∀ (d : D) (acc : List (Key × D)) (N : List (Key × D) → Rho → Prop), d ∈ items → acc.length < sizeLine → N (puD acc (fk d) (fv d)) ρ → g (.imm d) ρ er fun ρ2 => tk ρ2 er fun r ρ4 => tv ρ4 er fun s ρ5 => wd r ρ5 fun k => optW k.key fun j => sd s ρ5 fun y => acc.length < sizeLine ∧ N (puD acc j y) (wipeD ρ5 vs))
    (fin : q (mrgD [] (items.map fun d => (fk d, fv d))) ρ) : compDW gd g dYes tk tv vs er q items [] ρ := by
  have len : ∀ (l : List (Key × D)) (acc : List (Key × D)), (mrgD acc l).length ≤ acc.length + l.length := by
    intro l
    induction l with
    | nil => intro acc; exact Nat.le_refl _
    | cons p l ih =>
      intro acc
      have h := ih (puD acc p.1 p.2)
      have h2 : (puD acc p.1 p.2).length ≤ acc.length + 1 := by
        unfold puD
        split
        · rw [List.length_map]; exact Nat.le_succ _
        · rw [List.length_append]; exact Nat.le_refl _
      show (mrgD (puD acc p.1 p.2) l).length ≤ _
      rw [List.length_cons]
      omega
  refine compD_ind (fun k acc ρ' => ρ' = ρ ∧ acc = mrgD [] ((items.take k).map fun d => (fk d, fv d))) ⟨rfl, by simp [mrgD]⟩ (fun k acc ρ' h => by rw [h.1]; exact hgd) ?_ ?_
  · rintro k d acc ρ' N e ⟨rfl, rfl⟩ hN
    rw [hw]
    have few : (mrgD [] ((items.take k).map fun d => (fk d, fv d))).length < sizeLine := by
      have h1 := len ((items.take k).map fun d => (fk d, fv d)) []
      have h2 := (List.getElem?_eq_some_iff.mp e).1
      rw [List.length_map, List.length_take] at h1
      simp only [List.length_nil] at h1
      omega
    refine step d _ N (List.mem_of_getElem? e) few (hN _ _ ⟨rfl, ?_⟩)
    rw [take_snoc e, List.map_append]
    unfold mrgD
    rw [List.foldl_append]
    rfl
  · rintro acc ρ' ⟨rfl, rfl⟩
    rw [List.take_length]
    exact fin
theorem while_of {c : TDT} {body : TDS} {Dd : DEnds} {ρ : Rho} {er : Exn → Prop} (W : Nat → Rho → Prop) (h0 : ∃ m, W m ρ)
    (hs : ∀ (m : Nat) (ρ : Rho) (N : Rho → Prop), W m ρ → (∀ (m' : Nat) (ρ : Rho), m' < m → W m' ρ → N ρ) → c ρ er fun b ρ1 => cnd b (body { Dd with nx := N, ct := N, bk := Dd.nx } ρ1 er) (Dd.nx ρ1)) : dWhile c body Dd ρ er :=
  ⟨W, h0, fun m ρ w => hs m ρ _ w fun m' ρ lt w' => ⟨m', lt, w'⟩⟩
/-- a reading that goes on somewhere -/
def ExT (t : TD) : Prop := ∀ (ρ : Rho) (er : Exn → Prop) (q : Sl → Rho → Prop), t ρ er q → ∃ s ρ1, q s ρ1
theorem ex_var (i : Nat) : ExT (dVar i) := fun ρ er q h => by
  unfold dVar at h
  split at h
  · exact h.elim
  · exact h.elim
  · exact ⟨_, _, h⟩
theorem ex_c (d : D) : ExT (dC d) := fun ρ er q h => ⟨_, _, h⟩
theorem ex_subW {a b : D} {q : D → Prop} (h : subW a b q) : ∃ d, q d := by
  unfold subW at h
  split at h
  · obtain ⟨d, _, h⟩ := optW_of h; exact ⟨d, h⟩
  · obtain ⟨d, _, h⟩ := optW_of h; exact ⟨d, h⟩
  · obtain ⟨d, _, h⟩ := optW_of h.2; exact ⟨_, h⟩
  · obtain ⟨d, _, h⟩ := optW_of h; exact ⟨d, h⟩
  · obtain ⟨d, _, h⟩ := optW_of h; exact ⟨d, h⟩
  · exact h.elim
theorem ex_sub {ta tb : TD} (ha : ExT ta) (hb : ExT tb) : ExT (dSub ta tb) := fun ρ er q h => by
  obtain ⟨r, ρ1, h⟩ := ha _ _ _ h
  obtain ⟨s, ρ2, h⟩ := hb _ _ _ h
  obtain ⟨a, _, h⟩ := wd_of h
  obtain ⟨b, _, h⟩ := wd_of h
  obtain ⟨d, h⟩ := ex_subW h
  exact ⟨_, _, h⟩
/-- data of ints -/
theorem key_int (i : Int) : (D.int i).key = some (.inl i) := rfl
theorem key_str (i : Str) : (D.str i).key = some (.inr i) := rfl
theorem ok_int (i : Int) : okD (.int i) := ⟨rfl, by simp [SeqAt.shaped, D.py, PyData.canLay0, PyData.depth]⟩
theorem deq_int (i j : Int) : deq (.int i) (.int j) = decide (i = j) := by simp [deq, D.py, PyData.eqv]; first | rfl | exact (Bool.beq_eq_decide_eq i j)
theorem okD_nil : okD (.lst []) := ⟨rfl, by simp [SeqAt.shaped, D.py, D.pys, PyData.canLay0, PyData.canLayAll0, PyData.depth, PyData.depthAll]⟩
theorem deq_nil (xs : List D) : deq (.lst xs) (.lst []) = xs.isEmpty := by
  cases xs with
  | nil => simp [deq, D.py, D.pys, PyData.eqv, PyData.eqvAll]
  | cons x xs => simp [deq, D.py, D.pys, PyData.eqv, PyData.eqvAll]
theorem shaped_list {ds : List PyData} : SeqAt.shaped (.list ds) = true ↔ (∀ d ∈ ds, d.canLay0 = true) ∧ ∀ d ∈ ds, d.depth ≤ 63 := by
  have lay : ∀ ds : List PyData, PyData.canLayAll0 ds = true ↔ ∀ d ∈ ds, d.canLay0 = true := by
    intro ds
    induction ds with
    | nil => simp [PyData.canLayAll0]
    | cons d ds ih => simp [PyData.canLayAll0, ih]
  have dep : ∀ (ds : List PyData) (n : Nat), PyData.depthAll ds ≤ n ↔ ∀ d ∈ ds, d.depth ≤ n := by
    intro ds n
    induction ds with
    | nil => simp [PyData.depthAll]
    | cons d ds ih => simp [PyData.depthAll, Nat.max_le, ih]
  unfold SeqAt.shaped
  rw [Bool.and_eq_true, decide_eq_true_eq]
  rw [show (PyData.list ds).canLay0 = PyData.canLayAll0 ds by simp only [PyData.canLay0], show (PyData.list ds).depth = PyData.depthAll ds + 1 by simp only [PyData.depth], lay, show (PyData.depthAll ds + 1 ≤ 64 ↔ PyData.depthAll ds ≤ 63) from by omega, dep]
/-- a part of a list that may be compared may be compared -/
theorem okD_of_mem {xs ys : List D} (h : okD (.lst xs)) (s : ∀ d ∈ ys, d ∈ xs) : okD (.lst ys) := by
  obtain ⟨h1, h2⟩ := h
  have h1' : D.pls xs = true := h1
  have h2' : SeqAt.shaped (.list (D.pys xs)) = true := h2
  rw [pls_all, List.all_eq_true] at h1'
  rw [shaped_list, pys_map] at h2'
  refine ⟨by show D.pls ys = true; rw [pls_all, List.all_eq_true]; exact fun d m => h1' d (s d m), ?_⟩
  show SeqAt.shaped (.list (D.pys ys)) = true
  rw [shaped_list, pys_map]
  refine ⟨fun d m => ?_, fun d m => ?_⟩
  · obtain ⟨e, me, rfl⟩ := List.mem_map.mp m
    exact h2'.1 _ (List.mem_map_of_mem (s e me))
  · obtain ⟨e, me, rfl⟩ := List.mem_map.mp m
    exact h2'.2 _ (List.mem_map_of_mem (s e me))
theorem ix_room {A : Around} {k : Nat} (hr : Room (k + 1) A) : A.units + 65 < cLine := by
  have := hr.un
  omega
theorem sizeLine_big {n : Nat} (h : n ≤ 4000) : n ≤ sizeLine := Nat.le_trans h (by decide)
end Dl
set_option maxRecDepth 100000
set_option maxHeartbeats 4000000
/-! the data layer: what the operations say of data of a known form -/
namespace Dl.Ev
open PySem PySem.Spec PyProof.Rows L2 L3 LamX
section
variable {xs ys : List D} {ps : List (Key × D)} {q : D → Prop} {s t : Str} {i j : Int} {ns : List Int} {d y : D}
theorem par_imm : (Sl.imm d).isPar = false := rfl
theorem par_own : (Sl.own d).isPar = false := rfl
theorem par_no : Sl.no.isPar = false := rfl
theorem par_drw : Sl.drw.isPar = false := rfl
theorem len_lst : lenW [.lst xs] q = q (.int (xs.length : Nat)) := rfl
theorem len_tup : lenW [.tup xs] q = q (.int (xs.length : Nat)) := rfl
theorem len_dct : lenW [.dct ps] q = q (.int (ps.length : Nat)) := rfl
theorem len_set : lenW [.set ns] q = q (.int (ns.length : Nat)) := rfl
theorem len_str : lenW [.str s] q = (s.length ≤ sizeLine ∧ q (.int (s.length : Nat))) := rfl
theorem add_int : addW (.int i) (.int j) q = q (.int (i + j)) := rfl
theorem add_str : addW (.str s) (.str t) q = (s.length + t.length ≤ sizeLine ∧ q (.str (s ++ t))) := rfl
theorem add_tup : addW (.tup xs) (.tup ys) q = (xs.length + ys.length ≤ sizeLine ∧ q (.tup (xs ++ ys))) := rfl
theorem add_lst : addW (.lst xs) (.lst ys) q = (xs.length + ys.length ≤ sizeLine ∧ q (.lst (xs ++ ys))) := rfl
theorem mul_int : mulW (.int i) (.int j) q = (CMul i j ∧ q (.int (i * j))) := rfl
theorem mul_lst : mulW (.lst xs) (.int i) q = (-(2 ^ 63) ≤ i ∧ i < 2 ^ 63 ∧ xs.length * i.toNat ≤ sizeLine ∧ q (.lst (List.replicate i.toNat xs).flatten)) := rfl
theorem sub_lst : subW (.lst xs) (.int i) q = optW (atI xs i) q := rfl
theorem sub_tup : subW (.tup xs) (.int i) q = optW (atI xs i) q := rfl
theorem sub_str : subW (.str s) (.int i) q = (s.length ≤ sizeLine ∧ optW (atI s.cps.toList i) fun c => q (.str ⟨#[c]⟩)) := rfl
theorem sub_dctI : subW (.dct ps) (.int i) q = optW (lkD ps (.inl i)) q := rfl
theorem sub_dctS : subW (.dct ps) (.str s) q = optW (lkD ps (.inr s)) q := rfl
theorem cut_lst {lo hi : Option Int} : cutW (.lst xs) lo hi q = q (.lst (cutD xs lo hi)) := rfl
theorem cut_tup {lo hi : Option Int} : cutW (.tup xs) lo hi q = q (.tup (cutD xs lo hi)) := rfl
theorem cutL_lst {lo hi : Option Int} : cutL (.lst xs) lo hi q = q (.lst (cutD xs lo hi)) := rfl
theorem in_lst {neg : Bool} : inW neg d (.lst xs) q = (okD d ∧ okD (.lst xs) ∧ q (.bl (if neg then !xs.any (fun z => deq z d) else xs.any fun z => deq z d))) := rfl
theorem in_tup {neg : Bool} : inW neg d (.tup xs) q = (flatD d = true ∧ xs.all flatD = true ∧ q (.bl (if neg then !xs.any (fun z => deq z d) else xs.any fun z => deq z d))) := rfl
theorem in_dctI {neg : Bool} : inW neg (.int i) (.dct ps) q = q (.bl (if neg then !(lkD ps (.inl i)).isSome else (lkD ps (.inl i)).isSome)) := rfl
theorem in_dctS {neg : Bool} : inW neg (.str s) (.dct ps) q = q (.bl (if neg then !(lkD ps (.inr s)).isSome else (lkD ps (.inr s)).isSome)) := rfl
theorem wI0_int {g : Int → Int → D} : wI0 g (.int i) (.int j) q = q (g i j) := rfl
theorem wII_int {C : Int → Int → Prop} {g : Int → Int → D} : wII C g (.int i) (.int j) q = (C i j ∧ q (g i j)) := rfl
theorem neg_int : negW (.int i) q = q (.int (-i)) := rfl
theorem index_lst : indexW (.lst xs) [y] q = (okD (.lst xs) ∧ okD y ∧ optW (xs.findIdx? fun z => deq z y) fun j => q (.int (j : Nat))) := rfl
theorem set_lst : setW [.lst xs] q = ∃ ns : List Int, xs = ns.map D.int ∧ ns.length ≤ 4000 ∧ q (.set (ddp ns)) := rfl
theorem set_tup : setW [.tup xs] q = ∃ ns : List Int, xs = ns.map D.int ∧ ns.length ≤ 4000 ∧ q (.set (ddp ns)) := rfl
theorem all_lst : allW [.lst xs] q = ∃ bs : List Bool, xs = bs.map D.bl ∧ q (.bl (bs.all id)) := rfl
theorem any_lst : anyW [.lst xs] q = ∃ bs : List Bool, xs = bs.map D.bl ∧ q (.bl (bs.any id)) := rfl
theorem list_lst : listW [.lst xs] q = q (.lst xs) := rfl
theorem list_tup : listW [.tup xs] q = q (.lst xs) := rfl
theorem list_dct : listW [.dct ps] q = q (.lst (ps.map fun p => keyD p.1)) := rfl
theorem repr_one : reprW [d] q = (shOk d ∧ q (.str d.py.shown)) := rfl
theorem dict_lst : dictW [.lst xs] q = optW (pairsD xs) fun ps => q (.dct (mrgD [] ps)) := rfl
variable {k : D → List D → Prop} {kl : List D → Prop}
theorem tup_lst {q : D → Prop} : tupW [.lst xs] q = q (.tup xs) := rfl
theorem tup_tup {q : D → Prop} : tupW [.tup xs] q = q (.tup xs) := rfl
theorem append_one : appendW xs [d] k = (xs.length < sizeLine ∧ k .non (xs ++ [d])) := rfl
theorem pop_none : popW xs [] k = optW xs[xs.length - 1]? fun d => k d xs.dropLast := rfl
theorem popAt_one : popAtW xs [.int i] k = (0 ≤ i ∧ i < 2 ^ 62 ∧ optW xs[i.toNat]? fun d => k d (xs.eraseIdx i.toNat)) := rfl
theorem clear_none : clearW xs [] k = k .non [] := rfl
theorem extend_one : extendW xs [.lst ys] k = (xs.length + ys.length ≤ sizeLine ∧ k .non (xs ++ ys)) := rfl
theorem remove_one : removeW xs [.int i] k = ∃ ns : List Int, xs = ns.map D.int ∧ i ∈ ns ∧ k .non ((ns.erase i).map D.int) := rfl
theorem seq_lst : seqD (.lst xs) kl = kl xs := rfl
theorem seq_tup : seqD (.tup xs) kl = kl xs := rfl
theorem enum_lst : enumW (.lst xs) kl = kl (enumD xs) := rfl
theorem enum_tup : enumW (.tup xs) kl = kl (enumD xs) := rfl
theorem int1_int {k : Int → Prop} : int1 [.int i] k = k i := rfl
theorem int2_int {k : Int → Int → Prop} : int2 [.int i, .int j] k = k i j := rfl
theorem int_int : intW [.int i] q = q (.int i) := rfl
theorem max_int : maxW [.int i, .int j] q = q (.int (if j > i then j else i)) := rfl
theorem min_int : minW [.int i, .int j] q = q (.int (if j < i then j else i)) := rfl
theorem opt_some {α : Type} {a : α} {k : α → Prop} : optW (some a) k = k a := rfl
theorem tru_lst {k : Bool → Prop} : tru (.lst xs) k = k (!xs.isEmpty) := rfl
theorem tru_tup {k : Bool → Prop} : tru (.tup xs) k = k (!xs.isEmpty) := rfl
theorem tru_int {k : Bool → Prop} : tru (.int i) k = k (i != 0) := rfl
end
end Dl.Ev
set_option maxRecDepth 100000
set_option maxHeartbeats 4000000
/-! the data layer: small data can be shown and compared -/
namespace Dl
open PySem PySem.Spec PyProof.Rows L2 L3 LamX
structure Tame (n w : Nat) (d : D) : Prop where
  pl : d.pl = true
  sh : d.py.showable = true
  la : d.py.canLay0 = true
  de : d.py.depth ≤ n
  we : d.py.weight ≤ w
  sr : d.py.intsShort 13 = true
theorem Tame.mono {n w n' w' : Nat} {d : D} (h : Tame n w d) (hn : n ≤ n') (hw : w ≤ w') : Tame n' w' d := ⟨h.pl, h.sh, h.la, Nat.le_trans h.de hn, Nat.le_trans h.we hw, h.sr⟩
theorem Tame.int {i : Int} (h : i.natAbs < 10 ^ 12) : Tame 0 41 (.int i) := by
  have l : i.natAbs ≠ 0 → i.natAbs.log2 < 40 := fun z => (Nat.log2_lt z).mpr (Nat.lt_of_lt_of_le h (by decide))
  have l2 : i.natAbs.log2 < 40 := by
    by_cases z : i.natAbs = 0
    · rw [z]; decide
    · exact l z
  refine ⟨rfl, ?_, ?_, ?_, ?_, ?_⟩
  · show PyData.showable (.int i) = true
    simp only [PyData.showable, decide_eq_true_eq]
    omega
  · show PyData.canLay0 (.int i) = true
    simp only [PyData.canLay0]
  · show PyData.depth (.int i) ≤ 0
    simp only [PyData.depth]
    exact Nat.le_refl _
  · show PyData.weight (.int i) ≤ 41
    simp only [PyData.weight]
    split <;> omega
  · show PyData.intsShort 13 (.int i) = true
    simp only [PyData.intsShort, decide_eq_true_eq]
    exact PyData.shown_int_le h
theorem Tame.str {s : Str} {w : Nat} (h : PyData.strOk s = true) (hs : s.cps.size ≤ w) : Tame 0 w (.str s) := by
  refine ⟨rfl, ?_, ?_, ?_, ?_, ?_⟩
  · show PyData.showable (.str s) = true
    simp only [PyData.showable]
  · show PyData.canLay0 (.str s) = true
    simp only [PyData.canLay0]
    exact h
  · show PyData.depth (.str s) ≤ 0
    simp only [PyData.depth]
    exact Nat.le_refl _
  · show PyData.weight (.str s) ≤ w
    simp only [PyData.weight]
    exact hs
  · show PyData.intsShort 13 (.str s) = true
    simp only [PyData.intsShort]
theorem tame_all {n w : Nat} : ∀ {xs : List D}, (∀ d ∈ xs, Tame n w d) → D.pls xs = true ∧ PyData.showableAll (D.pys xs) = true ∧ PyData.canLayAll0 (D.pys xs) = true ∧ PyData.depthAll (D.pys xs) ≤ n ∧ PyData.weightAll (D.pys xs) ≤ xs.length * (w + 1) ∧ PyData.intsShortAll 13 (D.pys xs) = true
  | [], _ => ⟨rfl, by simp [D.pys, PyData.showableAll], by simp [D.pys, PyData.canLayAll0], by simp [D.pys, PyData.depthAll], by simp [D.pys, PyData.weightAll], by simp [D.pys, PyData.intsShortAll]⟩
  | x :: xs, h => by
    have hx := h x List.mem_cons_self
    obtain ⟨a, b, c, d, e, f⟩ := tame_all (xs := xs) fun y hy => h y (List.mem_cons_of_mem _ hy)
    refine ⟨?_, ?_, ?_, ?_, ?_, ?_⟩
    · show (x.pl && D.pls xs) = true
      rw [hx.pl, a]; rfl
    · show PyData.showableAll (x.py :: D.pys xs) = true
      simp only [PyData.showableAll, hx.sh, b, Bool.and_true]
    · show PyData.canLayAll0 (x.py :: D.pys xs) = true
      simp only [PyData.canLayAll0, hx.la, c, Bool.and_true]
    · show PyData.depthAll (x.py :: D.pys xs) ≤ n
      simp only [PyData.depthAll]
      exact Nat.max_le.mpr ⟨hx.de, d⟩
    · show PyData.weightAll (x.py :: D.pys xs) ≤ _
      simp only [PyData.weightAll, List.length_cons]
      have := hx.we
      rw [Nat.add_mul, Nat.one_mul]
      omega
    · show PyData.intsShortAll 13 (x.py :: D.pys xs) = true
      simp only [PyData.intsShortAll, hx.sr, f, Bool.and_true]
theorem Tame.lst {n w : Nat} {xs : List D} (h : ∀ d ∈ xs, Tame n w d) : Tame (n + 1) (xs.length * (w + 1)) (.lst xs) := by
  obtain ⟨a, b, c, d, e, f⟩ := tame_all h
  refine ⟨a, ?_, ?_, ?_, ?_, ?_⟩
  · show PyData.showable (.list (D.pys xs)) = true
    simp only [PyData.showable]; exact b
  · show PyData.canLay0 (.list (D.pys xs)) = true
    simp only [PyData.canLay0]; exact c
  · show PyData.depth (.list (D.pys xs)) ≤ n + 1
    simp only [PyData.depth]; omega
  · show PyData.weight (.list (D.pys xs)) ≤ _
    simp only [PyData.weight]; exact e
  · show PyData.intsShort 13 (.list (D.pys xs)) = true
    simp only [PyData.intsShort]; exact f
theorem Tame.tup {n w : Nat} {xs : List D} (h : ∀ d ∈ xs, Tame n w d) : Tame (n + 1) (xs.length * (w + 1)) (.tup xs) := by
  obtain ⟨a, b, c, d, e, f⟩ := tame_all h
  refine ⟨a, ?_, ?_, ?_, ?_, ?_⟩
  · show PyData.showable (.tuple (D.pys xs)) = true
    simp only [PyData.showable]; exact b
  · show PyData.canLay0 (.tuple (D.pys xs)) = true
    simp only [PyData.canLay0]; exact c
  · show PyData.depth (.tuple (D.pys xs)) ≤ n + 1
    simp only [PyData.depth]; omega
  · show PyData.weight (.tuple (D.pys xs)) ≤ _
    simp only [PyData.weight]; exact e
  · show PyData.intsShort 13 (.tuple (D.pys xs)) = true
    simp only [PyData.intsShort]; exact f
theorem Tame.shown {n w : Nat} {d : D} (h : Tame n w d) (hn : n ≤ 9) (hw : w ≤ 2 ^ 20) : shOk d := by
  refine ⟨h.pl, h.sh, Nat.le_trans h.de hn, PyData.shown_fits_of_layable0 (B := 13) (by decide) (by decide) ?_ h.sr⟩
  have h1 := h.de
  have h2 := h.we
  show (d.py.canLay0 && decide (d.py.depth ≤ 64) && decide (d.py.weight ≤ 2 ^ 20)) = true
  rw [h.la, decide_eq_true (show d.py.depth ≤ 64 by omega), decide_eq_true (Nat.le_trans h2 hw)]
  rfl
theorem Tame.ok {n w : Nat} {d : D} (h : Tame n w d) (hn : n ≤ 64) : okD d := by
  refine ⟨h.pl, ?_⟩
  show (d.py.canLay0 && decide (d.py.depth ≤ 64)) = true
  rw [h.la, decide_eq_true (Nat.le_trans h.de hn)]
  rfl
theorem deq_same {d : D} (h : okD d) : deq d d = true := SeqAt.eqv_refl d.py (SeqAt.canLay_of_shaped h.2)
theorem deq_strs (a b : Str) : deq (.str a) (.str b) = (a == b) := by simp [deq, D.py, PyData.eqv]
/-- texts of any signs, compared -/
def eqS (neg : Bool) (a b : D) (q : D → Prop) : Prop := match a, b with
  | .str s, .str t => q (.bl (cond neg (!(decide (s = t))) (decide (s = t))))
  | _, _ => False
section
variable {X : Cx}
theorem od_eqS : OpD X (compareOp .Eq) rEq (eqS false) := ⟨op_eq, fun {x y a b H G q Q} l ha hb hw k => by
  unfold eqS at hw
  split at hw
  · cases ha
    cases hb
    refine ⟨rfl, ?_⟩
    have := k _ _ _ hw (.same (.bl _))
    simpa using this
  · exact hw.elim⟩
theorem od_neS : OpD X (compareOp .NotEq) rNe (eqS true) := ⟨op_ne, fun {x y a b H G q Q} l ha hb hw k => by
  unfold eqS at hw
  split at hw
  · cases ha
    cases hb
    refine ⟨rfl, ?_⟩
    have := k _ _ _ hw (.same (.bl _))
    simpa using this
  · exact hw.elim⟩
end
theorem neS_same (s : Str) (q : D → Prop) : eqS true (.str s) (.str s) q = q (.bl false) := by
  show q (.bl (!(decide (s = s)))) = _
  rw [decide_eq_true rfl]
  rfl
end Dl
set_option maxRecDepth 100000
set_option maxHeartbeats 4000000
/-! the draws (the begun form) -/
namespace Bm
open PySem L2 Dl
def top (i : Nat) : Stmt := PySem.Challenge.pw_backmaps_k41_the_simple_rule.main.body.getD i (.Pass ⟨0, 0, 0, 0⟩)
abbrev s_BadEvents_init : Stmt := inClass (top 3) 0
abbrev s_is_integer : Stmt := top 8
abbrev s_are_different : Stmt := top 9
abbrev s_need_first : Stmt := top 10
abbrev s_Transfer_init : Stmt := inClass (top 11) 0
abbrev s_Transfer_last_gap : Stmt := inClass (top 11) 1
abbrev s_is_begin : Stmt := top 12
abbrev s_takes : Stmt := top 13
abbrev s_transfers_of : Stmt := top 14
abbrev s_under_way : Stmt := top 15
abbrev s_spread : Stmt := top 16
abbrev s_dirty : Stmt := top 17
abbrev sState : Stmt := top 19
abbrev sDraw : Stmt := top 20
abbrev s__law_pick : Stmt := top 21
abbrev s__law_shuffled : Stmt := top 22
abbrev s__law_areas : Stmt := top 23
abbrev s__law_line : Stmt := top 24
abbrev s__law_some : Stmt := top 25
abbrev s__law_led : Stmt := top 26
abbrev s__law_ruled : Stmt := top 27
abbrev s_law : Stmt := top 28
/-- all but the state of the draws is kept -/
def Kp (d st : Addr) (H H' : Hp) : Prop := ∀ b o, H b = some o → b ≠ d → b ≠ st → H' b = some o
theorem Kp.refl {d st : Addr} {H : Hp} : Kp d st H H := fun _ _ h _ _ => h
theorem Kp.trans {d st : Addr} {H H1 H2 : Hp} (a : Kp d st H H1) (b : Kp d st H1 H2) : Kp d st H H2 := fun c o h n1 n2 => b c o (a c o h n1 n2) n1 n2

def spState (K : PySem.W.Frag) : Sp := fun vs H Q _ => ∃ (a : Addr) (ns : List Int), vs = [.ref a] ∧ SqL K H a (ns.map V.int) ∧ ns.length ≤ 63 ∧
  ∀ (d st : Addr) (H' : Hp), Same H H' → H d = none → H st = none → Dr d st H' → Q (.ref d) H'
def spDraw : Sp := fun vs H Q _ => ∃ (d st : Addr) (b : Int), vs = [.ref d, .int b] ∧ Dr d st H ∧ 0 < b ∧ b < 1073741824 ∧
  ∀ (r : Int) (H' : Hp), 0 ≤ r → r < b → Dr d st H' → Kp d st H H' → Q (.int r) H'
structure TB (mg : Str → Option Value) : Prop where
  int_ : mg "int" = none
  len_ : mg "len" = none
  abs_ : mg "abs" = none
section
variable {P : Program} {w : World} {K : PySem.W.Frag} {mg : Str → Option Value} {base : Heap}
theorem scDraw : FnScope ["_law_state", "_law_bound", "_law_sheet", "_law_at", "_law_figure"] ["_law_state", "_law_bound"] (defScope sDraw) := ⟨rfl, rfl, rfl, by decide +kernel, rfl, by decide +kernel, by decide +kernel⟩
theorem ok_draw {f : Addr} {fd : FuncData} (F : Fun K "_law_draw" "_law_draw" sDraw f fd) (T : TB mg) : FnOk P w K mg base CX0 1 f fd ["_law_state", "_law_bound"] spDraw := by
  refine F.ok scDraw (fun vs H Q E h => ?_) (fun cdv A outer s H vs Q E hr h => ?_)
  · obtain ⟨d, st, b, rfl, _⟩ := h
    rfl
  · obtain ⟨d, st, b, rfl, ⟨ms, sp, mx, hd, hs, hp, hl, hm0, hm1⟩, hb0, hb1, k⟩ := h
    have nds : d ≠ st := ne_of hd hs (by
      intro z
      have z1 := HO.lst.inj z
      cases ms with
      | nil => simp at z1
      | cons m r => simp at z1)
    refine ⟨_, pss_cons (ps_set (i := 2) scDraw.nd rfl (Or.inl rfl) (pe_ix ix_list (pv 0) pe_int (fun _ _ => rfl)))
      (pss_cons (ps_set (i := 3) scDraw.nd rfl (Or.inl rfl) (pe_op op_modN (pe_callTy call_int1 (by rfl) T.int_ (by decide +kernel) (pa_cons (pe_ix ix_list (pv 0) pe_int (fun _ _ => rfl)) pa_nil)) (pe_callB call_len_seq (by rfl) T.len_ PySem.boot_len (pa_cons (pv 2) pa_nil))))
      (pss_cons (ps_set (i := 4) scDraw.nd rfl (Or.inl rfl) (pe_ix ix_list (pv 2) (pv 3) (fun _ _ => rfl)))
      (pss_cons (ps_if (pt_cmpR op_ge (pv 4) pe_int (nomark _))
        (pss_cons (ps_asg (pe_op op_fdivN (pv 4) (pv 1)) (pg_sub (pv 2) (pv 3) set_list))
          (pss_one (ps_ret (pe_op op_modN (pe_callTy call_int1 (by rfl) T.int_ (by decide +kernel) (pa_cons (pv 4) pa_nil)) (pv 1))))) pss_nil)
      (pss_cons (ps_asg (pe_op op_add (pe_ix ix_list (pv 0) pe_int (fun _ _ => rfl)) pe_int) (pg_sub (pv 0) pe_int set_list))
      (pss_cons (ps_asg (pe_op op_modN (pe_callTy call_int1 (by rfl) T.int_ (by decide +kernel) (pa_cons (pe_op op_add (pe_op op_add (pe_op op_add (pe_op op_mul (pe_ix ix_list (pv 0) pe_int (fun _ _ => rfl)) pe_int) (pv 4)) (pe_op op_mul pe_int (pe_ix ix_list (pv 0) pe_int (fun _ _ => rfl)))) pe_int) pa_nil)) pe_int) (pg_sub (pv 0) pe_int set_list))
      (pss_one (ps_ret (pe_op op_modN (pe_op op_fdivN (pe_op op_modN (pe_callTy call_int1 (by rfl) T.int_ (by decide +kernel) (pa_cons (pe_op op_mul (pe_ix ix_list (pv 0) pe_int (fun _ _ => rfl)) (pe_ix ix_list (pv 0) pe_int (fun _ _ => rfl))) pa_nil)) pe_int) pe_int) (pv 1))))))))), ?_⟩
    have hpz : ((ms.map V.int).length : Int) ≠ 0 := by rw [List.length_map]; omega
    -- stock = d[0]; spot = int(d[1]) % len(stock)
    refine ⟨_, rfl, _, _, _, _, rfl, rfl, SqL.of hd, rfl, ?_⟩
    refine ⟨_, rfl, _, _, _, _, rfl, rfl, SqL.of hd, rfl, Or.inl ⟨_, rfl, _, rfl, _, _, rfl, .inl (SqL.of hs), _, _, rfl, rfl, hpz, ?_⟩⟩
    -- lump = stock[spot]
    obtain ⟨j, hj, ej⟩ : ∃ j : Nat, j < ms.length ∧ sp.fmod ((ms.map V.int).length : Int) = (j : Int) := by
      rw [List.length_map]
      rw [Int.fmod_eq_emod_of_nonneg _ (by omega)]
      have h1 := Int.emod_nonneg sp (show ((ms.length : Int)) ≠ 0 by omega)
      have h2 := Int.emod_lt_of_pos sp (show (0 : Int) < (ms.length : Int) by omega)
      exact ⟨(sp % (ms.length : Int)).toNat, by omega, by omega⟩
    have hat : atI (ms.map V.int) (sp.fmod ((ms.map V.int).length : Int)) = some (V.int ms[j]) := by
      rw [ej]
      exact atI_nat (by rw [List.getElem?_map, List.getElem?_eq_getElem hj] <;> rfl)
    have hix : ixN (ms.map V.int).length (sp.fmod ((ms.map V.int).length : Int)) = some j := by
      rw [ej]
      unfold ixN
      rw [List.length_map, if_pos (by omega), if_pos (by omega)]
      simp
    refine ⟨_, rfl, _, rfl, _, _, _, _, rfl, rfl, SqL.of hs, hat, ?_⟩
    have hb2 : b.natAbs < 1073741824 := by omega
    -- if lump >= 10 ** 18
    refine ⟨_, rfl, _, _, rfl, rfl, _, rfl, ?_⟩
    refine ite2 (fun _ => ?_) (fun _ => ?_)
    · refine ⟨_, rfl, _, rfl, _, _, rfl, rfl, ⟨by omega, hb2⟩, _, rfl, _, rfl, _, _, _, j, rfl, rfl, hs, hix, ?_⟩
      refine ⟨_, rfl, Or.inl ⟨_, rfl, _, rfl, _, _, rfl, rfl, by omega, ?_⟩⟩
      refine k _ _ ?_ ?_ ⟨ms.set j (ms[j].fdiv b), sp, mx, by rw [upd_ne nds]; exact hd, ?_, by rw [List.length_set]; exact hp, by rw [List.length_set]; exact hl, hm0, hm1⟩ fun c o e n1 n2 => ?_
      · rw [Int.fmod_eq_emod_of_nonneg _ (by omega)]
        exact Int.emod_nonneg _ (by omega)
      · rw [Int.fmod_eq_emod_of_nonneg _ (by omega)]
        exact Int.emod_lt_of_pos _ hb0
      · rw [upd_same, List.map_set]
      · rw [upd_ne n2]
        exact e
    · -- d[1] = d[1] + 1
      refine ⟨_, rfl, _, _, _, _, rfl, rfl, SqL.of hd, rfl, _, _, rfl, rfl, _, rfl, _, _, _, 1, rfl, rfl, hd, rfl, ?_⟩
      -- d[2] = int(d[2] * 48271 + lump + 7919 * d[1] + 12345) % 2147483647
      refine ⟨_, rfl, _, _, _, _, rfl, rfl, SqL.of upd_same, rfl, _, _, rfl, rfl, .inl ⟨by omega, by omega⟩, _, rfl, _, _, rfl, rfl, ?_⟩
      refine ⟨_, rfl, _, _, _, _, rfl, rfl, SqL.of upd_same, rfl, _, _, rfl, rfl, .inl ⟨by decide, by decide⟩, _, _, rfl, rfl, _, _, rfl, rfl, .inl ⟨_, rfl, _, _, rfl, rfl, (by show (2147483647 : Int) ≠ 0; decide), _, rfl, _, _, _, 2, rfl, rfl, upd_same, rfl, ?_⟩⟩
      -- int(int(d[2] * d[2]) % 2147483629 // 16) % below
      have hz0 := Int.emod_nonneg (mx * 48271 + ms[j] + 7919 * (sp + 1) + 12345) (show (2147483647 : Int) ≠ 0 by decide)
      have hz1 := Int.emod_lt_of_pos (mx * 48271 + ms[j] + 7919 * (sp + 1) + 12345) (show (0 : Int) < 2147483647 by decide)
      rw [← Int.fmod_eq_emod_of_nonneg _ (by decide)] at hz0 hz1
      refine ⟨_, rfl, _, _, _, _, rfl, rfl, SqL.of upd_same, rfl, _, rfl, _, _, _, _, rfl, rfl, SqL.of upd_same, rfl, _, _, rfl, rfl, .inl ⟨by show _ < _; omega, by show _ < _; omega⟩, .inl ⟨_, rfl, _, _, rfl, rfl, (by show (2147483629 : Int) ≠ 0; decide), _, _, rfl, rfl, ⟨by decide, by decide⟩, _, rfl, _, _, rfl, rfl, by omega, ?_⟩⟩
      refine k _ _ ?_ ?_ ⟨ms, sp + 1, _, upd_same, by rw [upd_ne nds.symm, upd_ne nds.symm]; exact hs, hp, hl, hz0, hz1⟩ fun c o e n1 n2 => ?_
      · rw [Int.fmod_eq_emod_of_nonneg _ (by omega)]
        exact Int.emod_nonneg _ (by omega)
      · rw [Int.fmod_eq_emod_of_nonneg _ (by omega)]
        exact Int.emod_lt_of_pos _ hb0
      · rw [upd_ne n1, upd_ne n1]
        exact e
end
end Bm
set_option maxRecDepth 100000
set_option maxHeartbeats 4000000
namespace Bm
open PySem L2 Dl
section
variable {P : Program} {w : World} {K : PySem.W.Frag} {mg : Str → Option Value} {base : Heap}
theorem scState : FnScope ["_law_script", "_law_figure"] ["_law_script"] (defScope sState) := ⟨rfl, rfl, rfl, by decide +kernel, rfl, by decide +kernel, by decide +kernel⟩
theorem ok_state {f : Addr} {fd : FuncData} (F : Fun K "_law_begun" "_law_begun" sState f fd) (T : TB mg) : FnOk P w K mg base CX0 1 f fd ["_law_script"] (spState K) := by
  refine F.ok scState (fun vs H Q E h => ?_) (fun cdv A outer s H vs Q E hr h => ?_)
  · obtain ⟨a, ns, rfl, _⟩ := h
    rfl
  · obtain ⟨a, ns, rfl, hS, hl, k⟩ := h
    refine ⟨_, pss_one (ps_ret (pe_lst (pa_cons (pe_orT
        (pe_lc (own := [("_law_figure", 1)]) (g := gName 1) (tt := tYes) rfl scState.nd (pi_list (pe_slice sl_list (pv 0) po_none (po_some pe_int))) (blkOk_by (own := [("_law_figure", 1)]) (N := ["_law_script", "_law_figure"]) (sc := defScope sState) (by decide +kernel))
          (fun _ _ _ _ _ => pg_name (i := 1) scState.nd rfl (Or.inl rfl)) (fun _ _ _ _ _ => pts_nil) (fun _ _ _ _ _ => pe_callB call_abs (by rfl) T.abs_ (by decide +kernel) (pa_cons (pv 1) pa_nil)))
        (pe_one (pe_lst (pa_cons pe_int pa_nil)))) (pa_cons pe_int (pa_cons pe_int pa_nil))))), ?_⟩
    have dr : ∀ (H1 : Hp) (D : Addr) (acc : List Int), Same H H1 → H D = none → H1 D = some (.lst (acc.map V.int)) → 0 < acc.length → acc.length ≤ 63 → ∀ l, H1 l = none → Q (.ref l) (upd H1 l (.lst [.ref D, .int 0, .int 1])) := fun H1 D acc s1 nD hD h0 h63 l nl => by
      refine k l D _ (fun b o e => ?_) (s1.free nl) nD ⟨acc, 0, 1, upd_same, ?_, h0, h63, by decide, by decide⟩
      · rw [upd_ne (ne_of_none (s1 b o e) nl)]
        exact s1 b o e
      · rw [upd_ne (ne_of_none hD nl)]
        exact hD
    refine ⟨_, rfl, _, rfl, _, _, rfl, hS, fun p np => ?_⟩
    have hcut : (cutV (ns.map V.int) none (some 63)).length ≤ 63 := Nat.le_trans (cutV_length _ _ _) (by rw [List.length_map]; exact hl)
    have hint : ∀ y ∈ cutV (ns.map V.int) none (some 63), ∃ n, y = V.int n := fun y hy => by
      unfold cutV at hy
      have h1 := List.mem_of_mem_drop (List.mem_of_mem_take hy)
      obtain ⟨n, _, e⟩ := List.mem_map.mp h1
      exact ⟨n, e.symm⟩
    generalize cutV (ns.map V.int) none (some 63) = xs at hcut hint ⊢
    have s0 : Same H (upd H p (.lst xs)) := fun b o e => by rw [upd_ne (ne_of_none e np)]; exact e
    refine ⟨p, rfl, ⟨_, SqL.of upd_same⟩, fun D nD => ?_⟩
    have nD0 : H D = none := s0.free nD
    have npD : p ≠ D := fun e => by rw [← e, upd_same] at nD; cases nD
    refine lc_list (K := K) (a := p) (xs := xs) (fun i H1 => Same H H1 ∧ H1 p = some (.lst xs) ∧ ∃ acc : List Int, acc.length = i ∧ H1 D = some (.lst (acc.map V.int))) ⟨fun b o e => ?_, ?_, [], rfl, upd_same⟩ (fun i H1 _ h => SqL.of h.2.1) ?_ ?_
    · rw [upd_ne (ne_of_none (s0 b o e) nD)]
      exact s0 b o e
    · rw [upd_ne npD, upd_same]
    · rintro i y H1 hi ⟨s1, h1, acc, ha, hD⟩
      obtain ⟨n, rfl⟩ := hint y (List.mem_of_getElem? hi)
      have hil : i < xs.length := (List.getElem?_eq_some_iff.mp hi).1
      refine ⟨rfl, ?_⟩
      refine ⟨_, rfl, n, rfl, _, hD, ?_, fun b o e => ?_, ?_, acc ++ [if n < 0 then -n else n], ?_, ?_⟩
      · rw [List.length_map]
        exact small1000 (by omega)
      · rw [upd_ne (ne_of_none e nD0)]
        exact s1 b o e
      · rw [upd_ne npD]
        exact h1
      · rw [List.length_append, ha]
        rfl
      · rw [upd_same, List.map_append]
        rfl
    · rintro H1 ⟨s1, h1, acc, ha, hD⟩
      refine ⟨_, .inl ⟨_, SqL.of hD, rfl⟩, ?_⟩
      cases acc with
      | nil =>
        refine iteF ?_
        refine ⟨by show 1 ≤ sizeLine; decide, fun q hq => ?_⟩
        have s2 : Same H (upd H1 q (.lst [V.int 7])) := fun b o e => by
          rw [upd_ne (ne_of_none (s1 b o e) hq)]
          exact s1 b o e
        exact ⟨by show 3 ≤ sizeLine; decide, dr _ q [7] s2 (s1.free hq) upd_same (by decide) (by decide)⟩
      | cons m r =>
        refine iteT ?_
        exact ⟨by show 3 ≤ sizeLine; decide, dr _ D (m :: r) s1 nD0 hD (by simp) (by rw [ha]; exact hcut)⟩
end
end Bm
set_option maxRecDepth 100000
set_option maxHeartbeats 4000000
/-! what is an integer; lists of different areas -/
namespace Bm
open PySem PySem.Spec L2 L3 LamX Dl PyProof.Rows
structure T0 (mg : Str → Option Value) : Prop where
  isinstance_ : mg "isinstance" = none
  int_ : mg "int" = none
  bool_ : mg "bool" = none
  str_ : mg "str" = none
  list_ : mg "list" = none
  tuple_ : mg "tuple" = none
  dict_ : mg "dict" = none
  set_ : mg "set" = none
  len_ : mg "len" = none
  all_ : mg "all" = none
  abs_ : mg "abs" = none
  range_ : mg "range" = none
  enumerate_ : mg "enumerate" = none
  sorted_ : mg "sorted" = none
  repr_ : mg "repr" = none
section
variable {P : Program} {w : World} {K : PySem.W.Frag} {mg : Str → Option Value} {base : Heap}
/-- is_integer -/
def isIntD : D → Bool
  | .int _ => true
  | _ => false
def t_is_integer : TF := fun args er q => ∃ d, args = [.imm d] ∧ notIns d = true ∧ ∀ ρ', q (.imm (.bl (isIntD d))) ρ'
theorem sc_is_integer : FnScope ["value"] ["value"] (defScope s_is_integer) := ⟨rfl, rfl, rfl, by decide +kernel, rfl, by decide +kernel, by decide +kernel⟩
theorem ok_is_integer {f : Addr} {fd : FuncData} (F : Fun K "is_integer" "is_integer" s_is_integer f fd) (T : T0 mg) : FnG P w K mg base CX0 2 f fd ["value"] (spD K 1 t_is_integer) := by
  refine fun_d F sc_is_integer (fun cdv A outer s H E gd hr => ⟨_, (dss_one (ds_ret (de_and (de_isi (K := K) (T := "int") (by decide) (dv 0) T.isinstance_ (by rfl) (by rfl) T.int_ (by decide +kernel)) (de_one (de_not (de_isi (K := K) (T := "bool") (by decide) (dv 0) T.isinstance_ (by rfl) (by rfl) T.bool_ (by decide +kernel)))))))⟩) fun args er q hl h => ?_
  obtain ⟨d, rfl, n, k⟩ := h
  simp only [dBody, dSeq, dNext, dBreak, dCont, dDrop, dRet, dRetN, dIfS, dAsg, dgName, dgNil, dgsName, dgsPut, dgUn, dPar, dPar3, dVar, dC, dTake, dFrz, mkS, dBin, dBinO, dTest, dTru, dUn, dIsN, isNonB, dAnd, dOr, dNot, dAndV, dOrV, dNotV, asB, dIf, cnd, dNil, dCons, dTup, dLst, dNewD, dSub, dSl, dSlO, dNoPart, dPart, dIsi, dCallB, dCallO, wds, sds, wd, sd, rsv, Sl.dat, stv, notPar, Sl.with_, dCall, dCallK, argC, arC, useS, kindsB, Ar.sl, cond, ownL, ownD, upS, dLM, dLM0, isOwnL, isOwnD, dPop1, dPop2, dGet1, dGet2, isDct, dDput, dLput, dLput.known, dFld, dMth, dMth0, tyOk, dChain, dAugI, List.map_cons, List.map_nil, List.cons_append, List.nil_append, List.append_nil, List.length_cons, List.length_nil, List.replicate, List.getElem?_cons_zero, List.getElem?_cons_succ, List.getElem?_nil, List.set_cons_zero, List.set_cons_succ, Option.getD_some, Option.getD_none, Nat.reduceAdd, Nat.reduceSub, dNever, dYes, Nat.zero_le, dLc, dG, dSeqI, dOwnI, dLcD, dctS, dDc, dDcD, dFor, dForD, dRng1, dRng2, dEnum, noPar, wipeD, eqW, neW, D.key, itemsOf, keysOf, valsOf, gdT, isTy, tyD, notIns, List.any_cons, List.any_nil, Bool.or_false, Bool.or_true, Bool.true_or, Bool.false_or, Bool.not_true, Bool.not_false, String.reduceBEq, beq_self_eq_true, true_and, and_true, selN, sel, List.filterMap_cons, List.filterMap_nil, backR, back1, cleanR, clean1, clnR, List.tail_cons, List.head?_cons, List.not_mem_nil, false_implies, implies_true, List.nodup_nil, List.nodup_cons, not_false_eq_true, Ev.len_lst, Ev.len_tup, Ev.len_dct, Ev.len_set, Ev.len_str, Ev.add_int, Ev.add_str, Ev.add_tup, Ev.add_lst, Ev.mul_int, Ev.mul_lst, Ev.sub_lst, Ev.sub_tup, Ev.sub_str, Ev.sub_dctI, Ev.sub_dctS, Ev.cut_lst, Ev.cut_tup, Ev.cutL_lst, Ev.in_lst, Ev.in_tup, Ev.in_dctI, Ev.in_dctS, Ev.wI0_int, Ev.wII_int, Ev.neg_int, Ev.index_lst, Ev.set_lst, Ev.set_tup, Ev.all_lst, Ev.any_lst, Ev.list_lst, Ev.list_tup, Ev.list_dct, Ev.repr_one, Ev.dict_lst, Ev.tup_lst, Ev.tup_tup, Ev.append_one, Ev.pop_none, Ev.popAt_one, Ev.clear_none, Ev.extend_one, Ev.remove_one, Ev.seq_lst, Ev.seq_tup, Ev.enum_lst, Ev.enum_tup, Ev.int1_int, Ev.int2_int, Ev.int_int, Ev.max_int, Ev.min_int, Ev.opt_some, Ev.tru_lst, Ev.tru_tup, Ev.tru_int, Ev.par_imm, Ev.par_own, Ev.par_no, Ev.par_drw]
  refine ⟨n, ?_⟩
  cases d <;> first
    | (cases n; done)
    | (simp only [isTy, tyD, isIntD, List.any_cons, List.any_nil, Bool.or_false] at k ⊢
       first
         | exact k _
         | exact ⟨True.intro, k _⟩)
theorem len_is_integer : ∀ as er q, t_is_integer as er q → as.length = 1 := fun as er q h => by
  obtain ⟨d, rfl, _⟩ := h
  rfl
/-- are_different, of ints -/
def intsOf (d : D) (ns : List Int) : Prop := d = .lst (ns.map D.int) ∨ d = .tup (ns.map D.int)
def t_are_different : TF := fun args er q => ∃ d ns, args = [.imm d] ∧ intsOf d ns ∧ ns.length ≤ 1000 ∧ ∀ ρ', q (.imm (.bl (decide ns.Nodup))) ρ'
theorem sc_are_different : FnScope ["value", "item"] ["value"] (defScope s_are_different) := ⟨rfl, rfl, rfl, by decide +kernel, rfl, by decide +kernel, by decide +kernel⟩
theorem ok_are_different {f : Addr} {fd : FuncData} (F : Fun K "are_different" "are_different" s_are_different f fd) (T : T0 mg) (H1 : HasD P w K mg base CX0 2 "is_integer" ["value"] 1 t_is_integer) : FnG P w K mg base CX0 3 f fd ["value"] (spD K 1 t_are_different) := by
  refine fun_d F sc_are_different (fun cdv A outer s H E gd hr => ⟨_, (dss_cons (ds_if (dt_w (dw_or (dt_not (dt_val (de_isi2 (K := K) (T1 := "list") (T2 := "tuple") (by decide) (by decide) (dv 0) T.isinstance_ (by rfl) (by rfl) T.list_ (by decide +kernel) (by rfl) T.tuple_ (by decide +kernel)))) (dw_or1 (dt_not (dt_val (de_callB (cd_all (K := K) rfl) (by rfl) T.all_ (by decide +kernel) (da_cons (de_lc (own := [("item", 1)]) false rfl sc_are_different.nd (di_g (di_seq (K := K) (dv 0))) (blkOk_by (own := [("item", 1)]) (N := ["value", "item"]) (sc := defScope s_are_different) (by decide +kernel)) (fun _ _ _ _ _ => (dg_name (i := 1) sc_are_different.nd rfl (Or.inl rfl))) (fun _ _ _ _ _ => dts_nil) (fun _ _ _ _ _ => (de_callH [false] H1 gd hr (by decide) (by rfl) pass0 (da_cons (dv 1) da_nil)))) da_nil)))))))
        (dss_one (ds_ret de_bl))
        dss_nil)
      (dss_one (ds_ret (de_cmp (od_eq (K := K) hr) (de_callB (cd_len (K := K)) (by rfl) T.len_ (by decide +kernel) (da_cons (de_callTO false (co_set (K := K) rfl) (by rfl) T.set_ (by decide +kernel) (da_cons (dv 0) da_nil)) da_nil)) (de_callB (cd_len (K := K)) (by rfl) T.len_ (by decide +kernel) (da_cons (dv 0) da_nil)) (nomark _)))))⟩) fun args er q hl h => ?_

  obtain ⟨d, ns, rfl, hd, few, k⟩ := h
  rcases hd with rfl | rfl <;> simp only [dBody, dSeq, dNext, dBreak, dCont, dDrop, dRet, dRetN, dIfS, dAsg, dgName, dgNil, dgsName, dgsPut, dgUn, dPar, dPar3, dVar, dC, dTake, dFrz, mkS, dBin, dBinO, dTest, dTru, dUn, dIsN, isNonB, dAnd, dOr, dNot, dAndV, dOrV, dNotV, asB, dIf, cnd, dNil, dCons, dTup, dLst, dNewD, dSub, dSl, dSlO, dNoPart, dPart, dIsi, dCallB, dCallO, wds, sds, wd, sd, rsv, Sl.dat, stv, notPar, Sl.with_, dCall, dCallK, argC, arC, useS, kindsB, Ar.sl, cond, ownL, ownD, upS, dLM, dLM0, isOwnL, isOwnD, dPop1, dPop2, dGet1, dGet2, isDct, dDput, dLput, dLput.known, dFld, dMth, dMth0, tyOk, dChain, dAugI, List.map_cons, List.map_nil, List.cons_append, List.nil_append, List.append_nil, List.length_cons, List.length_nil, List.replicate, List.getElem?_cons_zero, List.getElem?_cons_succ, List.getElem?_nil, List.set_cons_zero, List.set_cons_succ, Option.getD_some, Option.getD_none, Nat.reduceAdd, Nat.reduceSub, dNever, dYes, Nat.zero_le, dLc, dG, dSeqI, dOwnI, dLcD, dctS, dDc, dDcD, dFor, dForD, dRng1, dRng2, dEnum, noPar, wipeD, eqW, neW, D.key, itemsOf, keysOf, valsOf, gdT, isTy, tyD, notIns, List.any_cons, List.any_nil, Bool.or_false, Bool.or_true, Bool.true_or, Bool.false_or, Bool.not_true, Bool.not_false, String.reduceBEq, beq_self_eq_true, true_and, and_true, selN, sel, List.filterMap_cons, List.filterMap_nil, backR, back1, cleanR, clean1, clnR, List.tail_cons, List.head?_cons, List.not_mem_nil, false_implies, implies_true, List.nodup_nil, List.nodup_cons, not_false_eq_true, Ev.len_lst, Ev.len_tup, Ev.len_dct, Ev.len_set, Ev.len_str, Ev.add_int, Ev.add_str, Ev.add_tup, Ev.add_lst, Ev.mul_int, Ev.mul_lst, Ev.sub_lst, Ev.sub_tup, Ev.sub_str, Ev.sub_dctI, Ev.sub_dctS, Ev.cut_lst, Ev.cut_tup, Ev.cutL_lst, Ev.in_lst, Ev.in_tup, Ev.in_dctI, Ev.in_dctS, Ev.wI0_int, Ev.wII_int, Ev.neg_int, Ev.index_lst, Ev.set_lst, Ev.set_tup, Ev.all_lst, Ev.any_lst, Ev.list_lst, Ev.list_tup, Ev.list_dct, Ev.repr_one, Ev.dict_lst, Ev.tup_lst, Ev.tup_tup, Ev.append_one, Ev.pop_none, Ev.popAt_one, Ev.clear_none, Ev.extend_one, Ev.remove_one, Ev.seq_lst, Ev.seq_tup, Ev.enum_lst, Ev.enum_tup, Ev.int1_int, Ev.int2_int, Ev.int_int, Ev.max_int, Ev.min_int, Ev.opt_some, Ev.tru_lst, Ev.tru_tup, Ev.tru_int, Ev.par_imm, Ev.par_own, Ev.par_no, Ev.par_drw]
  all_goals
    refine lc_map (fun d => .bl (isIntD d)) rfl (by rw [List.length_map]; exact sizeLine_big (by omega)) True.intro (fun d acc N hd ha hN => ?_) ?_
    · simp only [dBody, dSeq, dNext, dBreak, dCont, dDrop, dRet, dRetN, dIfS, dAsg, dgName, dgNil, dgsName, dgsPut, dgUn, dPar, dPar3, dVar, dC, dTake, dFrz, mkS, dBin, dBinO, dTest, dTru, dUn, dIsN, isNonB, dAnd, dOr, dNot, dAndV, dOrV, dNotV, asB, dIf, cnd, dNil, dCons, dTup, dLst, dNewD, dSub, dSl, dSlO, dNoPart, dPart, dIsi, dCallB, dCallO, wds, sds, wd, sd, rsv, Sl.dat, stv, notPar, Sl.with_, dCall, dCallK, argC, arC, useS, kindsB, Ar.sl, cond, ownL, ownD, upS, dLM, dLM0, isOwnL, isOwnD, dPop1, dPop2, dGet1, dGet2, isDct, dDput, dLput, dLput.known, dFld, dMth, dMth0, tyOk, dChain, dAugI, List.map_cons, List.map_nil, List.cons_append, List.nil_append, List.append_nil, List.length_cons, List.length_nil, List.replicate, List.getElem?_cons_zero, List.getElem?_cons_succ, List.getElem?_nil, List.set_cons_zero, List.set_cons_succ, Option.getD_some, Option.getD_none, Nat.reduceAdd, Nat.reduceSub, dNever, dYes, Nat.zero_le, dLc, dG, dSeqI, dOwnI, dLcD, dctS, dDc, dDcD, dFor, dForD, dRng1, dRng2, dEnum, noPar, wipeD, eqW, neW, D.key, itemsOf, keysOf, valsOf, gdT, isTy, tyD, notIns, List.any_cons, List.any_nil, Bool.or_false, Bool.or_true, Bool.true_or, Bool.false_or, Bool.not_true, Bool.not_false, String.reduceBEq, beq_self_eq_true, true_and, and_true, selN, sel, List.filterMap_cons, List.filterMap_nil, backR, back1, cleanR, clean1, clnR, List.tail_cons, List.head?_cons, List.not_mem_nil, false_implies, implies_true, List.nodup_nil, List.nodup_cons, not_false_eq_true, Ev.len_lst, Ev.len_tup, Ev.len_dct, Ev.len_set, Ev.len_str, Ev.add_int, Ev.add_str, Ev.add_tup, Ev.add_lst, Ev.mul_int, Ev.mul_lst, Ev.sub_lst, Ev.sub_tup, Ev.sub_str, Ev.sub_dctI, Ev.sub_dctS, Ev.cut_lst, Ev.cut_tup, Ev.cutL_lst, Ev.in_lst, Ev.in_tup, Ev.in_dctI, Ev.in_dctS, Ev.wI0_int, Ev.wII_int, Ev.neg_int, Ev.index_lst, Ev.set_lst, Ev.set_tup, Ev.all_lst, Ev.any_lst, Ev.list_lst, Ev.list_tup, Ev.list_dct, Ev.repr_one, Ev.dict_lst, Ev.tup_lst, Ev.tup_tup, Ev.append_one, Ev.pop_none, Ev.popAt_one, Ev.clear_none, Ev.extend_one, Ev.remove_one, Ev.seq_lst, Ev.seq_tup, Ev.enum_lst, Ev.enum_tup, Ev.int1_int, Ev.int2_int, Ev.int_int, Ev.max_int, Ev.min_int, Ev.opt_some, Ev.tru_lst, Ev.tru_tup, Ev.tru_int, Ev.par_imm, Ev.par_own, Ev.par_no, Ev.par_drw]
      obtain ⟨i, _, rfl⟩ := List.mem_map.mp hd
      exact ⟨_, rfl, rfl, fun ρ' => by simp only [dBody, dSeq, dNext, dBreak, dCont, dDrop, dRet, dRetN, dIfS, dAsg, dgName, dgNil, dgsName, dgsPut, dgUn, dPar, dPar3, dVar, dC, dTake, dFrz, mkS, dBin, dBinO, dTest, dTru, dUn, dIsN, isNonB, dAnd, dOr, dNot, dAndV, dOrV, dNotV, asB, dIf, cnd, dNil, dCons, dTup, dLst, dNewD, dSub, dSl, dSlO, dNoPart, dPart, dIsi, dCallB, dCallO, wds, sds, wd, sd, rsv, Sl.dat, stv, notPar, Sl.with_, dCall, dCallK, argC, arC, useS, kindsB, Ar.sl, cond, ownL, ownD, upS, dLM, dLM0, isOwnL, isOwnD, dPop1, dPop2, dGet1, dGet2, isDct, dDput, dLput, dLput.known, dFld, dMth, dMth0, tyOk, dChain, dAugI, List.map_cons, List.map_nil, List.cons_append, List.nil_append, List.append_nil, List.length_cons, List.length_nil, List.replicate, List.getElem?_cons_zero, List.getElem?_cons_succ, List.getElem?_nil, List.set_cons_zero, List.set_cons_succ, Option.getD_some, Option.getD_none, Nat.reduceAdd, Nat.reduceSub, dNever, dYes, Nat.zero_le, dLc, dG, dSeqI, dOwnI, dLcD, dctS, dDc, dDcD, dFor, dForD, dRng1, dRng2, dEnum, noPar, wipeD, eqW, neW, D.key, itemsOf, keysOf, valsOf, gdT, isTy, tyD, notIns, List.any_cons, List.any_nil, Bool.or_false, Bool.or_true, Bool.true_or, Bool.false_or, Bool.not_true, Bool.not_false, String.reduceBEq, beq_self_eq_true, true_and, and_true, selN, sel, List.filterMap_cons, List.filterMap_nil, backR, back1, cleanR, clean1, clnR, List.tail_cons, List.head?_cons, List.not_mem_nil, false_implies, implies_true, List.nodup_nil, List.nodup_cons, not_false_eq_true, Ev.len_lst, Ev.len_tup, Ev.len_dct, Ev.len_set, Ev.len_str, Ev.add_int, Ev.add_str, Ev.add_tup, Ev.add_lst, Ev.mul_int, Ev.mul_lst, Ev.sub_lst, Ev.sub_tup, Ev.sub_str, Ev.sub_dctI, Ev.sub_dctS, Ev.cut_lst, Ev.cut_tup, Ev.cutL_lst, Ev.in_lst, Ev.in_tup, Ev.in_dctI, Ev.in_dctS, Ev.wI0_int, Ev.wII_int, Ev.neg_int, Ev.index_lst, Ev.set_lst, Ev.set_tup, Ev.all_lst, Ev.any_lst, Ev.list_lst, Ev.list_tup, Ev.list_dct, Ev.repr_one, Ev.dict_lst, Ev.tup_lst, Ev.tup_tup, Ev.append_one, Ev.pop_none, Ev.popAt_one, Ev.clear_none, Ev.extend_one, Ev.remove_one, Ev.seq_lst, Ev.seq_tup, Ev.enum_lst, Ev.enum_tup, Ev.int1_int, Ev.int2_int, Ev.int_int, Ev.max_int, Ev.min_int, Ev.opt_some, Ev.tru_lst, Ev.tru_tup, Ev.tru_int, Ev.par_imm, Ev.par_own, Ev.par_no, Ev.par_drw]; exact ⟨ha, hN⟩⟩
    · simp only [dBody, dSeq, dNext, dBreak, dCont, dDrop, dRet, dRetN, dIfS, dAsg, dgName, dgNil, dgsName, dgsPut, dgUn, dPar, dPar3, dVar, dC, dTake, dFrz, mkS, dBin, dBinO, dTest, dTru, dUn, dIsN, isNonB, dAnd, dOr, dNot, dAndV, dOrV, dNotV, asB, dIf, cnd, dNil, dCons, dTup, dLst, dNewD, dSub, dSl, dSlO, dNoPart, dPart, dIsi, dCallB, dCallO, wds, sds, wd, sd, rsv, Sl.dat, stv, notPar, Sl.with_, dCall, dCallK, argC, arC, useS, kindsB, Ar.sl, cond, ownL, ownD, upS, dLM, dLM0, isOwnL, isOwnD, dPop1, dPop2, dGet1, dGet2, isDct, dDput, dLput, dLput.known, dFld, dMth, dMth0, tyOk, dChain, dAugI, List.map_cons, List.map_nil, List.cons_append, List.nil_append, List.append_nil, List.length_cons, List.length_nil, List.replicate, List.getElem?_cons_zero, List.getElem?_cons_succ, List.getElem?_nil, List.set_cons_zero, List.set_cons_succ, Option.getD_some, Option.getD_none, Nat.reduceAdd, Nat.reduceSub, dNever, dYes, Nat.zero_le, dLc, dG, dSeqI, dOwnI, dLcD, dctS, dDc, dDcD, dFor, dForD, dRng1, dRng2, dEnum, noPar, wipeD, eqW, neW, D.key, itemsOf, keysOf, valsOf, gdT, isTy, tyD, notIns, List.any_cons, List.any_nil, Bool.or_false, Bool.or_true, Bool.true_or, Bool.false_or, Bool.not_true, Bool.not_false, String.reduceBEq, beq_self_eq_true, true_and, and_true, selN, sel, List.filterMap_cons, List.filterMap_nil, backR, back1, cleanR, clean1, clnR, List.tail_cons, List.head?_cons, List.not_mem_nil, false_implies, implies_true, List.nodup_nil, List.nodup_cons, not_false_eq_true, Ev.len_lst, Ev.len_tup, Ev.len_dct, Ev.len_set, Ev.len_str, Ev.add_int, Ev.add_str, Ev.add_tup, Ev.add_lst, Ev.mul_int, Ev.mul_lst, Ev.sub_lst, Ev.sub_tup, Ev.sub_str, Ev.sub_dctI, Ev.sub_dctS, Ev.cut_lst, Ev.cut_tup, Ev.cutL_lst, Ev.in_lst, Ev.in_tup, Ev.in_dctI, Ev.in_dctS, Ev.wI0_int, Ev.wII_int, Ev.neg_int, Ev.index_lst, Ev.set_lst, Ev.set_tup, Ev.all_lst, Ev.any_lst, Ev.list_lst, Ev.list_tup, Ev.list_dct, Ev.repr_one, Ev.dict_lst, Ev.tup_lst, Ev.tup_tup, Ev.append_one, Ev.pop_none, Ev.popAt_one, Ev.clear_none, Ev.extend_one, Ev.remove_one, Ev.seq_lst, Ev.seq_tup, Ev.enum_lst, Ev.enum_tup, Ev.int1_int, Ev.int2_int, Ev.int_int, Ev.max_int, Ev.min_int, Ev.opt_some, Ev.tru_lst, Ev.tru_tup, Ev.tru_int, Ev.par_imm, Ev.par_own, Ev.par_no, Ev.par_drw]
      refine ⟨List.replicate ns.length true, by rw [List.map_map, List.map_replicate]; show ns.map (fun _ => D.bl true) = _; exact List.map_const', ?_⟩
      rw [show ((List.replicate ns.length true).all id) = true by simp]
      refine ⟨ns, rfl, by omega, ok_int _, ok_int _, ?_⟩
      rw [deq_int, List.length_map, show decide (((ddp ns).length : Int) = (ns.length : Int)) = decide ns.Nodup by
        rw [decide_eq_decide, Int.natCast_inj]
        exact ddp_len]
      exact k _
theorem len_are_different : ∀ as er q, t_are_different as er q → as.length = 1 := fun as er q h => by
  obtain ⟨d, ns, rfl, _⟩ := h
  rfl
/-- need_first -/
def t_need_first : TF := fun args er q => ∃ d ns, args = [.imm d] ∧ intsOf d ns ∧ ns.length ≤ 1000 ∧ ns.Nodup ∧ ∀ ρ', q (.imm .non) ρ'
theorem sc_need_first : FnScope ["first"] ["first"] (defScope s_need_first) := ⟨rfl, rfl, rfl, by decide +kernel, rfl, by decide +kernel, by decide +kernel⟩
theorem ok_need_first {f : Addr} {fd : FuncData} (F : Fun K "need_first" "need_first" s_need_first f fd) (H1 : HasD P w K mg base CX0 3 "are_different" ["value"] 1 t_are_different) : FnG P w K mg base CX0 4 f fd ["first"] (spD K 1 t_need_first) := by
  refine fun_d F sc_need_first (fun cdv A outer s H E gd hr => ⟨_, (dss_one (ds_if (dt_not (dt_val (de_callH [false] H1 gd hr (by decide) (by rfl) pass0 (da_cons (dv 0) da_nil))))
        (dss_one ds_never)
        dss_nil))⟩) fun args er q hl h => ?_

  obtain ⟨d, ns, rfl, hd, few, nd, k⟩ := h
  simp only [dBody, dSeq, dNext, dBreak, dCont, dDrop, dRet, dRetN, dIfS, dAsg, dgName, dgNil, dgsName, dgsPut, dgUn, dPar, dPar3, dVar, dC, dTake, dFrz, mkS, dBin, dBinO, dTest, dTru, dUn, dIsN, isNonB, dAnd, dOr, dNot, dAndV, dOrV, dNotV, asB, dIf, cnd, dNil, dCons, dTup, dLst, dNewD, dSub, dSl, dSlO, dNoPart, dPart, dIsi, dCallB, dCallO, wds, sds, wd, sd, rsv, Sl.dat, stv, notPar, Sl.with_, dCall, dCallK, argC, arC, useS, kindsB, Ar.sl, cond, ownL, ownD, upS, dLM, dLM0, isOwnL, isOwnD, dPop1, dPop2, dGet1, dGet2, isDct, dDput, dLput, dLput.known, dFld, dMth, dMth0, tyOk, dChain, dAugI, List.map_cons, List.map_nil, List.cons_append, List.nil_append, List.append_nil, List.length_cons, List.length_nil, List.replicate, List.getElem?_cons_zero, List.getElem?_cons_succ, List.getElem?_nil, List.set_cons_zero, List.set_cons_succ, Option.getD_some, Option.getD_none, Nat.reduceAdd, Nat.reduceSub, dNever, dYes, Nat.zero_le, dLc, dG, dSeqI, dOwnI, dLcD, dctS, dDc, dDcD, dFor, dForD, dRng1, dRng2, dEnum, noPar, wipeD, eqW, neW, D.key, itemsOf, keysOf, valsOf, gdT, isTy, tyD, notIns, List.any_cons, List.any_nil, Bool.or_false, Bool.or_true, Bool.true_or, Bool.false_or, Bool.not_true, Bool.not_false, String.reduceBEq, beq_self_eq_true, true_and, and_true, selN, sel, List.filterMap_cons, List.filterMap_nil, backR, back1, cleanR, clean1, clnR, List.tail_cons, List.head?_cons, List.not_mem_nil, false_implies, implies_true, List.nodup_nil, List.nodup_cons, not_false_eq_true, Ev.len_lst, Ev.len_tup, Ev.len_dct, Ev.len_set, Ev.len_str, Ev.add_int, Ev.add_str, Ev.add_tup, Ev.add_lst, Ev.mul_int, Ev.mul_lst, Ev.sub_lst, Ev.sub_tup, Ev.sub_str, Ev.sub_dctI, Ev.sub_dctS, Ev.cut_lst, Ev.cut_tup, Ev.cutL_lst, Ev.in_lst, Ev.in_tup, Ev.in_dctI, Ev.in_dctS, Ev.wI0_int, Ev.wII_int, Ev.neg_int, Ev.index_lst, Ev.set_lst, Ev.set_tup, Ev.all_lst, Ev.any_lst, Ev.list_lst, Ev.list_tup, Ev.list_dct, Ev.repr_one, Ev.dict_lst, Ev.tup_lst, Ev.tup_tup, Ev.append_one, Ev.pop_none, Ev.popAt_one, Ev.clear_none, Ev.extend_one, Ev.remove_one, Ev.seq_lst, Ev.seq_tup, Ev.enum_lst, Ev.enum_tup, Ev.int1_int, Ev.int2_int, Ev.int_int, Ev.max_int, Ev.min_int, Ev.opt_some, Ev.tru_lst, Ev.tru_tup, Ev.tru_int, Ev.par_imm, Ev.par_own, Ev.par_no, Ev.par_drw]
  exact ⟨d, ns, rfl, hd, few, fun ρ' => by simp only [dBody, dSeq, dNext, dBreak, dCont, dDrop, dRet, dRetN, dIfS, dAsg, dgName, dgNil, dgsName, dgsPut, dgUn, dPar, dPar3, dVar, dC, dTake, dFrz, mkS, dBin, dBinO, dTest, dTru, dUn, dIsN, isNonB, dAnd, dOr, dNot, dAndV, dOrV, dNotV, asB, dIf, cnd, dNil, dCons, dTup, dLst, dNewD, dSub, dSl, dSlO, dNoPart, dPart, dIsi, dCallB, dCallO, wds, sds, wd, sd, rsv, Sl.dat, stv, notPar, Sl.with_, dCall, dCallK, argC, arC, useS, kindsB, Ar.sl, cond, ownL, ownD, upS, dLM, dLM0, isOwnL, isOwnD, dPop1, dPop2, dGet1, dGet2, isDct, dDput, dLput, dLput.known, dFld, dMth, dMth0, tyOk, dChain, dAugI, List.map_cons, List.map_nil, List.cons_append, List.nil_append, List.append_nil, List.length_cons, List.length_nil, List.replicate, List.getElem?_cons_zero, List.getElem?_cons_succ, List.getElem?_nil, List.set_cons_zero, List.set_cons_succ, Option.getD_some, Option.getD_none, Nat.reduceAdd, Nat.reduceSub, dNever, dYes, Nat.zero_le, dLc, dG, dSeqI, dOwnI, dLcD, dctS, dDc, dDcD, dFor, dForD, dRng1, dRng2, dEnum, noPar, wipeD, eqW, neW, D.key, itemsOf, keysOf, valsOf, gdT, isTy, tyD, notIns, List.any_cons, List.any_nil, Bool.or_false, Bool.or_true, Bool.true_or, Bool.false_or, Bool.not_true, Bool.not_false, String.reduceBEq, beq_self_eq_true, true_and, and_true, selN, sel, List.filterMap_cons, List.filterMap_nil, backR, back1, cleanR, clean1, clnR, List.tail_cons, List.head?_cons, List.not_mem_nil, false_implies, implies_true, List.nodup_nil, List.nodup_cons, not_false_eq_true, Ev.len_lst, Ev.len_tup, Ev.len_dct, Ev.len_set, Ev.len_str, Ev.add_int, Ev.add_str, Ev.add_tup, Ev.add_lst, Ev.mul_int, Ev.mul_lst, Ev.sub_lst, Ev.sub_tup, Ev.sub_str, Ev.sub_dctI, Ev.sub_dctS, Ev.cut_lst, Ev.cut_tup, Ev.cutL_lst, Ev.in_lst, Ev.in_tup, Ev.in_dctI, Ev.in_dctS, Ev.wI0_int, Ev.wII_int, Ev.neg_int, Ev.index_lst, Ev.set_lst, Ev.set_tup, Ev.all_lst, Ev.any_lst, Ev.list_lst, Ev.list_tup, Ev.list_dct, Ev.repr_one, Ev.dict_lst, Ev.tup_lst, Ev.tup_tup, Ev.append_one, Ev.pop_none, Ev.popAt_one, Ev.clear_none, Ev.extend_one, Ev.remove_one, Ev.seq_lst, Ev.seq_tup, Ev.enum_lst, Ev.enum_tup, Ev.int1_int, Ev.int2_int, Ev.int_int, Ev.max_int, Ev.min_int, Ev.opt_some, Ev.tru_lst, Ev.tru_tup, Ev.tru_int, Ev.par_imm, Ev.par_own, Ev.par_no, Ev.par_drw]; rw [decide_eq_true nd]; exact k _⟩
theorem len_need_first : ∀ as er q, t_need_first as er q → as.length = 1 := fun as er q h => by
  obtain ⟨d, ns, rfl, _⟩ := h
  rfl
end
end Bm
set_option maxRecDepth 100000
set_option maxHeartbeats 4000000
/-! what the law draws -/
namespace Bm
open PySem PySem.Spec L2 L3 LamX Dl PyProof.Rows
section
variable {P : Program} {w : World} {K : PySem.W.Frag} {mg : Str → Option Value} {base : Heap}
abbrev HDr (P : Program) (w : World) (K : PySem.W.Frag) (mg : Str → Option Value) (base : Heap) : Prop := HasD P w K mg base CX0 1 "_law_draw" ["_law_state", "_law_bound"] 2 drawS
def t_pick : TF := fun args er q => ∃ xs, args = [.drw, .imm (.lst xs)] ∧ 0 < xs.length ∧ xs.length ≤ 1000 ∧ ∀ d ρ', d ∈ xs → q (.imm d) ρ'
theorem len_pick : ∀ as er q, t_pick as er q → as.length = 2 := fun as er q h => by
  obtain ⟨xs, rfl, _⟩ := h
  rfl
theorem sc_pick : FnScope ["_law_state", "_law_some_here"] ["_law_state", "_law_some_here"] (defScope s__law_pick) := ⟨rfl, rfl, rfl, by decide +kernel, rfl, by decide +kernel, by decide +kernel⟩
theorem atI_get {xs : List D} {r : Int} (h0 : 0 ≤ r) (h1 : r < (xs.length : Int)) : ∃ d, atI xs r = some d ∧ d ∈ xs := by
  have lt : r.toNat < xs.length := by omega
  refine ⟨xs[r.toNat], ?_, List.getElem_mem lt⟩
  unfold atI ixN
  rw [if_pos h0, if_pos h1]
  exact List.getElem?_eq_getElem lt
theorem ok_pick {f : Addr} {fd : FuncData} (F : Fun K "_law_pick" "_law_pick" s__law_pick f fd) (T : T0 mg) (HD : HDr P w K mg base) : FnG P w K mg base CX0 3 f fd ["_law_state", "_law_some_here"] (spD K 2 t_pick) := by
  refine fun_d F sc_pick (fun cdv A outer s H E gd hr => ⟨_, have hu := hu_of hr; (dss_one (ds_ret (de_sub (K := K) hu (dv 1) (de_callH [false, false] HD gd hr (by decide) (by rfl) pass0 (da_cons (dv 0) (da_cons (de_callB (cd_len (K := K)) (by rfl) T.len_ (by decide +kernel) (da_cons (dv 1) da_nil)) da_nil))) (fun _ _ => rfl))))⟩) fun args er q hl h => ?_
  obtain ⟨xs, rfl, pos, few, k⟩ := h
  simp only [dBody, dSeq, dNext, dBreak, dCont, dDrop, dRet, dRetN, dIfS, dAsg, dgName, dgNil, dgsName, dgsPut, dgUn, dPar, dPar3, dVar, dC, dTake, dFrz, mkS, dBin, dBinO, dTest, dTru, dUn, dIsN, isNonB, dAnd, dOr, dNot, dAndV, dOrV, dNotV, asB, dIf, cnd, dNil, dCons, dTup, dLst, dNewD, dSub, dSl, dSlO, dNoPart, dPart, dIsi, dCallB, dCallO, wds, sds, wd, sd, rsv, Sl.dat, stv, notPar, Sl.with_, dCall, dCallK, argC, arC, useS, kindsB, Ar.sl, cond, ownL, ownD, upS, dLM, dLM0, isOwnL, isOwnD, dPop1, dPop2, dGet1, dGet2, isDct, dDput, dLput, dLput.known, dFld, dMth, dMth0, tyOk, dChain, dAugI, List.map_cons, List.map_nil, List.cons_append, List.nil_append, List.append_nil, List.length_cons, List.length_nil, List.replicate, List.getElem?_cons_zero, List.getElem?_cons_succ, List.getElem?_nil, List.set_cons_zero, List.set_cons_succ, Option.getD_some, Option.getD_none, Nat.reduceAdd, Nat.reduceSub, dNever, dYes, Nat.zero_le, dLc, dG, dSeqI, dOwnI, dLcD, dctS, dDc, dDcD, dFor, dForD, dRng1, dRng2, dEnum, noPar, wipeD, eqW, neW, D.key, itemsOf, keysOf, valsOf, gdT, isTy, tyD, notIns, List.any_cons, List.any_nil, Bool.or_false, Bool.or_true, Bool.true_or, Bool.false_or, Bool.not_true, Bool.not_false, String.reduceBEq, beq_self_eq_true, true_and, and_true, selN, sel, List.filterMap_cons, List.filterMap_nil, backR, back1, cleanR, clean1, clnR, List.tail_cons, List.head?_cons, List.not_mem_nil, false_implies, implies_true, List.nodup_nil, List.nodup_cons, not_false_eq_true, Ev.len_lst, Ev.len_tup, Ev.len_dct, Ev.len_set, Ev.len_str, Ev.add_int, Ev.add_str, Ev.add_tup, Ev.add_lst, Ev.mul_int, Ev.mul_lst, Ev.sub_lst, Ev.sub_tup, Ev.sub_str, Ev.sub_dctI, Ev.sub_dctS, Ev.cut_lst, Ev.cut_tup, Ev.cutL_lst, Ev.in_lst, Ev.in_tup, Ev.in_dctI, Ev.in_dctS, Ev.wI0_int, Ev.wII_int, Ev.neg_int, Ev.index_lst, Ev.set_lst, Ev.set_tup, Ev.all_lst, Ev.any_lst, Ev.list_lst, Ev.list_tup, Ev.list_dct, Ev.repr_one, Ev.dict_lst, Ev.tup_lst, Ev.tup_tup, Ev.append_one, Ev.pop_none, Ev.popAt_one, Ev.clear_none, Ev.extend_one, Ev.remove_one, Ev.seq_lst, Ev.seq_tup, Ev.enum_lst, Ev.enum_tup, Ev.int1_int, Ev.int2_int, Ev.int_int, Ev.max_int, Ev.min_int, Ev.opt_some, Ev.tru_lst, Ev.tru_tup, Ev.tru_int, Ev.par_imm, Ev.par_own, Ev.par_no, Ev.par_drw]
  refine ⟨_, rfl, by omega, by omega, fun r ρ' h0 h1 => ?_⟩
  simp only [dBody, dSeq, dNext, dBreak, dCont, dDrop, dRet, dRetN, dIfS, dAsg, dgName, dgNil, dgsName, dgsPut, dgUn, dPar, dPar3, dVar, dC, dTake, dFrz, mkS, dBin, dBinO, dTest, dTru, dUn, dIsN, isNonB, dAnd, dOr, dNot, dAndV, dOrV, dNotV, asB, dIf, cnd, dNil, dCons, dTup, dLst, dNewD, dSub, dSl, dSlO, dNoPart, dPart, dIsi, dCallB, dCallO, wds, sds, wd, sd, rsv, Sl.dat, stv, notPar, Sl.with_, dCall, dCallK, argC, arC, useS, kindsB, Ar.sl, cond, ownL, ownD, upS, dLM, dLM0, isOwnL, isOwnD, dPop1, dPop2, dGet1, dGet2, isDct, dDput, dLput, dLput.known, dFld, dMth, dMth0, tyOk, dChain, dAugI, List.map_cons, List.map_nil, List.cons_append, List.nil_append, List.append_nil, List.length_cons, List.length_nil, List.replicate, List.getElem?_cons_zero, List.getElem?_cons_succ, List.getElem?_nil, List.set_cons_zero, List.set_cons_succ, Option.getD_some, Option.getD_none, Nat.reduceAdd, Nat.reduceSub, dNever, dYes, Nat.zero_le, dLc, dG, dSeqI, dOwnI, dLcD, dctS, dDc, dDcD, dFor, dForD, dRng1, dRng2, dEnum, noPar, wipeD, eqW, neW, D.key, itemsOf, keysOf, valsOf, gdT, isTy, tyD, notIns, List.any_cons, List.any_nil, Bool.or_false, Bool.or_true, Bool.true_or, Bool.false_or, Bool.not_true, Bool.not_false, String.reduceBEq, beq_self_eq_true, true_and, and_true, selN, sel, List.filterMap_cons, List.filterMap_nil, backR, back1, cleanR, clean1, clnR, List.tail_cons, List.head?_cons, List.not_mem_nil, false_implies, implies_true, List.nodup_nil, List.nodup_cons, not_false_eq_true, Ev.len_lst, Ev.len_tup, Ev.len_dct, Ev.len_set, Ev.len_str, Ev.add_int, Ev.add_str, Ev.add_tup, Ev.add_lst, Ev.mul_int, Ev.mul_lst, Ev.sub_lst, Ev.sub_tup, Ev.sub_str, Ev.sub_dctI, Ev.sub_dctS, Ev.cut_lst, Ev.cut_tup, Ev.cutL_lst, Ev.in_lst, Ev.in_tup, Ev.in_dctI, Ev.in_dctS, Ev.wI0_int, Ev.wII_int, Ev.neg_int, Ev.index_lst, Ev.set_lst, Ev.set_tup, Ev.all_lst, Ev.any_lst, Ev.list_lst, Ev.list_tup, Ev.list_dct, Ev.repr_one, Ev.dict_lst, Ev.tup_lst, Ev.tup_tup, Ev.append_one, Ev.pop_none, Ev.popAt_one, Ev.clear_none, Ev.extend_one, Ev.remove_one, Ev.seq_lst, Ev.seq_tup, Ev.enum_lst, Ev.enum_tup, Ev.int1_int, Ev.int2_int, Ev.int_int, Ev.max_int, Ev.min_int, Ev.opt_some, Ev.tru_lst, Ev.tru_tup, Ev.tru_int, Ev.par_imm, Ev.par_own, Ev.par_no, Ev.par_drw]
  obtain ⟨d, e, m⟩ := atI_get h0 h1
  rw [e]
  exact k d _ m
theorem eraseIdx_perm {α : Type} : ∀ {l : List α} {i : Nat} (h : i < l.length), (l[i] :: l.eraseIdx i).Perm l
  | [], _, h => absurd h (Nat.not_lt_zero _)
  | a :: l, 0, _ => List.Perm.refl _
  | a :: l, i + 1, h => by
    rw [List.getElem_cons_succ, List.eraseIdx_cons_succ]
    exact (List.Perm.swap _ _ _).trans ((eraseIdx_perm (l := l) (i := i) (by simpa using h)).cons a)
/-! shuffled -/
def t_shuffled : TF := fun args er q => ∃ xs, args = [.drw, .imm (.lst xs)] ∧ xs.length ≤ 1000 ∧ okD (.lst xs) ∧ ∀ ys ρ', ys.Perm xs → q (.imm (.lst ys)) ρ'
theorem len_shuffled : ∀ as er q, t_shuffled as er q → as.length = 2 := fun as er q h => by
  obtain ⟨xs, rfl, _⟩ := h
  rfl
theorem sc_shuffled : FnScope ["_law_state", "_law_some_here", "_law_left", "_law_found"] ["_law_state", "_law_some_here"] (defScope s__law_shuffled) := ⟨rfl, rfl, rfl, by decide +kernel, rfl, by decide +kernel, by decide +kernel⟩
theorem ok_shuffled {f : Addr} {fd : FuncData} (F : Fun K "_law_shuffled" "_law_shuffled" s__law_shuffled f fd) (T : T0 mg) (HD : HDr P w K mg base) : FnG P w K mg base CX0 3 f fd ["_law_state", "_law_some_here"] (spD K 2 t_shuffled) := by
  refine fun_d F sc_shuffled (fun cdv A outer s H E gd hr => ⟨_, have hu := hu_of hr; (dss_cons (ds_par (i := 2) (j := 3) (by rfl) sc_shuffled.nd rfl rfl (by decide) rfl rfl (da_cons (de_callTO true (co_list (K := K) rfl) (by rfl) T.list_ (by decide +kernel) (da_cons (dv 1) da_nil)) (da_cons (de_lst true da_nil) da_nil)) (by rfl))
      (dss_cons (ds_while PassesOwn.never (dt_cmp (od_ne (K := K) hr) (dv 2) (de_lst false da_nil) (nomark _))
        (dss_one (ds_expr (de_lm (K := K) PySem.F.slot_list_append PySem.F.type_list_append lm_append (pv 3) (da_cons (de_lm (K := K) PySem.F.slot_list_pop PySem.F.type_list_pop lm_popAt (pv 2) (da_cons (de_callH [false, false] HD gd hr (by decide) (by rfl) pass0 (da_cons (dv 0) (da_cons (de_callB (cd_len (K := K)) (by rfl) T.len_ (by decide +kernel) (da_cons (dv 2) da_nil)) da_nil))) da_nil)) da_nil)))))
      (dss_one (ds_ret (dtake false 3)))))⟩) fun args er q hl h => ?_

  obtain ⟨xs, rfl, few, ok, k⟩ := h
  simp only [dBody, dSeq, dNext, dBreak, dCont, dDrop, dRet, dRetN, dIfS, dAsg, dgName, dgNil, dgsName, dgsPut, dgUn, dPar, dPar3, dVar, dC, dTake, dFrz, mkS, dBin, dBinO, dTest, dTru, dUn, dIsN, isNonB, dAnd, dOr, dNot, dAndV, dOrV, dNotV, asB, dIf, cnd, dNil, dCons, dTup, dLst, dNewD, dSub, dSl, dSlO, dNoPart, dPart, dIsi, dCallB, dCallO, wds, sds, wd, sd, rsv, Sl.dat, stv, notPar, Sl.with_, dCall, dCallK, argC, arC, useS, kindsB, Ar.sl, cond, ownL, ownD, upS, dLM, dLM0, isOwnL, isOwnD, dPop1, dPop2, dGet1, dGet2, isDct, dDput, dLput, dLput.known, dFld, dMth, dMth0, tyOk, dChain, dAugI, List.map_cons, List.map_nil, List.cons_append, List.nil_append, List.append_nil, List.length_cons, List.length_nil, List.replicate, List.getElem?_cons_zero, List.getElem?_cons_succ, List.getElem?_nil, List.set_cons_zero, List.set_cons_succ, Option.getD_some, Option.getD_none, Nat.reduceAdd, Nat.reduceSub, dNever, dYes, Nat.zero_le, dLc, dG, dSeqI, dOwnI, dLcD, dctS, dDc, dDcD, dFor, dForD, dRng1, dRng2, dEnum, noPar, wipeD, eqW, neW, D.key, itemsOf, keysOf, valsOf, gdT, isTy, tyD, notIns, List.any_cons, List.any_nil, Bool.or_false, Bool.or_true, Bool.true_or, Bool.false_or, Bool.not_true, Bool.not_false, String.reduceBEq, beq_self_eq_true, true_and, and_true, selN, sel, List.filterMap_cons, List.filterMap_nil, backR, back1, cleanR, clean1, clnR, List.tail_cons, List.head?_cons, List.not_mem_nil, false_implies, implies_true, List.nodup_nil, List.nodup_cons, not_false_eq_true, Ev.len_lst, Ev.len_tup, Ev.len_dct, Ev.len_set, Ev.len_str, Ev.add_int, Ev.add_str, Ev.add_tup, Ev.add_lst, Ev.mul_int, Ev.mul_lst, Ev.sub_lst, Ev.sub_tup, Ev.sub_str, Ev.sub_dctI, Ev.sub_dctS, Ev.cut_lst, Ev.cut_tup, Ev.cutL_lst, Ev.in_lst, Ev.in_tup, Ev.in_dctI, Ev.in_dctS, Ev.wI0_int, Ev.wII_int, Ev.neg_int, Ev.index_lst, Ev.set_lst, Ev.set_tup, Ev.all_lst, Ev.any_lst, Ev.list_lst, Ev.list_tup, Ev.list_dct, Ev.repr_one, Ev.dict_lst, Ev.tup_lst, Ev.tup_tup, Ev.append_one, Ev.pop_none, Ev.popAt_one, Ev.clear_none, Ev.extend_one, Ev.remove_one, Ev.seq_lst, Ev.seq_tup, Ev.enum_lst, Ev.enum_tup, Ev.int1_int, Ev.int2_int, Ev.int_int, Ev.max_int, Ev.min_int, Ev.opt_some, Ev.tru_lst, Ev.tru_tup, Ev.tru_int, Ev.par_imm, Ev.par_own, Ev.par_no, Ev.par_drw]
  refine while_of (fun m ρ => ∃ left found, ρ = [.drw, .imm (.lst xs), .own (.lst left), .own (.lst found)] ∧ (found ++ left).Perm xs ∧ m = left.length) ⟨_, xs, [], rfl, by simp, rfl⟩ ?_
  rintro m ρ N ⟨left, found, rfl, pm, rfl⟩ hN
  have okl : okD (.lst left) := okD_of_mem ok fun d m => pm.subset (List.mem_append_right _ m)
  have len : found.length + left.length = xs.length := by rw [← List.length_append]; exact pm.length_eq
  simp only [dBody, dSeq, dNext, dBreak, dCont, dDrop, dRet, dRetN, dIfS, dAsg, dgName, dgNil, dgsName, dgsPut, dgUn, dPar, dPar3, dVar, dC, dTake, dFrz, mkS, dBin, dBinO, dTest, dTru, dUn, dIsN, isNonB, dAnd, dOr, dNot, dAndV, dOrV, dNotV, asB, dIf, cnd, dNil, dCons, dTup, dLst, dNewD, dSub, dSl, dSlO, dNoPart, dPart, dIsi, dCallB, dCallO, wds, sds, wd, sd, rsv, Sl.dat, stv, notPar, Sl.with_, dCall, dCallK, argC, arC, useS, kindsB, Ar.sl, cond, ownL, ownD, upS, dLM, dLM0, isOwnL, isOwnD, dPop1, dPop2, dGet1, dGet2, isDct, dDput, dLput, dLput.known, dFld, dMth, dMth0, tyOk, dChain, dAugI, List.map_cons, List.map_nil, List.cons_append, List.nil_append, List.append_nil, List.length_cons, List.length_nil, List.replicate, List.getElem?_cons_zero, List.getElem?_cons_succ, List.getElem?_nil, List.set_cons_zero, List.set_cons_succ, Option.getD_some, Option.getD_none, Nat.reduceAdd, Nat.reduceSub, dNever, dYes, Nat.zero_le, dLc, dG, dSeqI, dOwnI, dLcD, dctS, dDc, dDcD, dFor, dForD, dRng1, dRng2, dEnum, noPar, wipeD, eqW, neW, D.key, itemsOf, keysOf, valsOf, gdT, isTy, tyD, notIns, List.any_cons, List.any_nil, Bool.or_false, Bool.or_true, Bool.true_or, Bool.false_or, Bool.not_true, Bool.not_false, String.reduceBEq, beq_self_eq_true, true_and, and_true, selN, sel, List.filterMap_cons, List.filterMap_nil, backR, back1, cleanR, clean1, clnR, List.tail_cons, List.head?_cons, List.not_mem_nil, false_implies, implies_true, List.nodup_nil, List.nodup_cons, not_false_eq_true, Ev.len_lst, Ev.len_tup, Ev.len_dct, Ev.len_set, Ev.len_str, Ev.add_int, Ev.add_str, Ev.add_tup, Ev.add_lst, Ev.mul_int, Ev.mul_lst, Ev.sub_lst, Ev.sub_tup, Ev.sub_str, Ev.sub_dctI, Ev.sub_dctS, Ev.cut_lst, Ev.cut_tup, Ev.cutL_lst, Ev.in_lst, Ev.in_tup, Ev.in_dctI, Ev.in_dctS, Ev.wI0_int, Ev.wII_int, Ev.neg_int, Ev.index_lst, Ev.set_lst, Ev.set_tup, Ev.all_lst, Ev.any_lst, Ev.list_lst, Ev.list_tup, Ev.list_dct, Ev.repr_one, Ev.dict_lst, Ev.tup_lst, Ev.tup_tup, Ev.append_one, Ev.pop_none, Ev.popAt_one, Ev.clear_none, Ev.extend_one, Ev.remove_one, Ev.seq_lst, Ev.seq_tup, Ev.enum_lst, Ev.enum_tup, Ev.int1_int, Ev.int2_int, Ev.int_int, Ev.max_int, Ev.min_int, Ev.opt_some, Ev.tru_lst, Ev.tru_tup, Ev.tru_int, Ev.par_imm, Ev.par_own, Ev.par_no, Ev.par_drw]
  refine ⟨okl, okD_nil, ?_⟩
  rw [deq_nil]
  cases left with
  | nil =>
    exact k found _ (by simpa using pm)
  | cons a left' =>
    refine ⟨_, rfl, by simp, by simp only [List.length_cons] at len ⊢; omega, fun r ρ' h0 h1 => ?_⟩
    simp only [dBody, dSeq, dNext, dBreak, dCont, dDrop, dRet, dRetN, dIfS, dAsg, dgName, dgNil, dgsName, dgsPut, dgUn, dPar, dPar3, dVar, dC, dTake, dFrz, mkS, dBin, dBinO, dTest, dTru, dUn, dIsN, isNonB, dAnd, dOr, dNot, dAndV, dOrV, dNotV, asB, dIf, cnd, dNil, dCons, dTup, dLst, dNewD, dSub, dSl, dSlO, dNoPart, dPart, dIsi, dCallB, dCallO, wds, sds, wd, sd, rsv, Sl.dat, stv, notPar, Sl.with_, dCall, dCallK, argC, arC, useS, kindsB, Ar.sl, cond, ownL, ownD, upS, dLM, dLM0, isOwnL, isOwnD, dPop1, dPop2, dGet1, dGet2, isDct, dDput, dLput, dLput.known, dFld, dMth, dMth0, tyOk, dChain, dAugI, List.map_cons, List.map_nil, List.cons_append, List.nil_append, List.append_nil, List.length_cons, List.length_nil, List.replicate, List.getElem?_cons_zero, List.getElem?_cons_succ, List.getElem?_nil, List.set_cons_zero, List.set_cons_succ, Option.getD_some, Option.getD_none, Nat.reduceAdd, Nat.reduceSub, dNever, dYes, Nat.zero_le, dLc, dG, dSeqI, dOwnI, dLcD, dctS, dDc, dDcD, dFor, dForD, dRng1, dRng2, dEnum, noPar, wipeD, eqW, neW, D.key, itemsOf, keysOf, valsOf, gdT, isTy, tyD, notIns, List.any_cons, List.any_nil, Bool.or_false, Bool.or_true, Bool.true_or, Bool.false_or, Bool.not_true, Bool.not_false, String.reduceBEq, beq_self_eq_true, true_and, and_true, selN, sel, List.filterMap_cons, List.filterMap_nil, backR, back1, cleanR, clean1, clnR, List.tail_cons, List.head?_cons, List.not_mem_nil, false_implies, implies_true, List.nodup_nil, List.nodup_cons, not_false_eq_true, Ev.len_lst, Ev.len_tup, Ev.len_dct, Ev.len_set, Ev.len_str, Ev.add_int, Ev.add_str, Ev.add_tup, Ev.add_lst, Ev.mul_int, Ev.mul_lst, Ev.sub_lst, Ev.sub_tup, Ev.sub_str, Ev.sub_dctI, Ev.sub_dctS, Ev.cut_lst, Ev.cut_tup, Ev.cutL_lst, Ev.in_lst, Ev.in_tup, Ev.in_dctI, Ev.in_dctS, Ev.wI0_int, Ev.wII_int, Ev.neg_int, Ev.index_lst, Ev.set_lst, Ev.set_tup, Ev.all_lst, Ev.any_lst, Ev.list_lst, Ev.list_tup, Ev.list_dct, Ev.repr_one, Ev.dict_lst, Ev.tup_lst, Ev.tup_tup, Ev.append_one, Ev.pop_none, Ev.popAt_one, Ev.clear_none, Ev.extend_one, Ev.remove_one, Ev.seq_lst, Ev.seq_tup, Ev.enum_lst, Ev.enum_tup, Ev.int1_int, Ev.int2_int, Ev.int_int, Ev.max_int, Ev.min_int, Ev.opt_some, Ev.tru_lst, Ev.tru_tup, Ev.tru_int, Ev.par_imm, Ev.par_own, Ev.par_no, Ev.par_drw]
    simp only [List.length_cons] at len h1
    have lt : r.toNat < (a :: left').length := by simp only [List.length_cons]; omega
    have hr2 : r < 2 ^ 62 := by omega
    rw [List.getElem?_eq_getElem lt]
    refine ⟨h0, hr2, small1000 (by omega), hN _ _ ?_ ⟨_, _, rfl, ?_, rfl⟩⟩
    · rw [List.length_eraseIdx, if_pos lt]
      simp only [List.length_cons]; omega
    · refine List.Perm.trans ?_ pm
      rw [List.append_assoc]
      refine List.Perm.append_left _ ?_
      rw [List.singleton_append]
      exact eraseIdx_perm lt
/-! some of them -/
def t_some : TF := fun args er q => ∃ ns : List Int, args = [.drw, .imm (.lst (ns.map D.int))] ∧ ns.length ≤ 1000 ∧ ns.Nodup ∧ ∀ (ms : List Int) (ρ' : Rho), ms.Nodup → (∀ m ∈ ms, m ∈ ns) → q (.imm (.lst (ms.map D.int))) ρ'
theorem len_some : ∀ as er q, t_some as er q → as.length = 2 := fun as er q h => by
  obtain ⟨xs, rfl, _⟩ := h
  rfl
theorem okD_ints (ns : List Int) : okD (.lst (ns.map D.int)) := by
  refine ⟨by show D.pls _ = true; rw [pls_all, List.all_eq_true]; intro d m; obtain ⟨i, _, rfl⟩ := List.mem_map.mp m; rfl, ?_⟩
  show SeqAt.shaped (.list (D.pys _)) = true
  rw [shaped_list, pys_map]
  refine ⟨fun d m => ?_, fun d m => ?_⟩
  · obtain ⟨e, me, rfl⟩ := List.mem_map.mp m
    obtain ⟨i, _, rfl⟩ := List.mem_map.mp me
    simp [D.py, PyData.canLay0]
  · obtain ⟨e, me, rfl⟩ := List.mem_map.mp m
    obtain ⟨i, _, rfl⟩ := List.mem_map.mp me
    simp [D.py, PyData.depth]
/-- a rearranged list of ints is one -/
theorem perm_ints {ys : List D} {ns : List Int} (h : ys.Perm (ns.map D.int)) : ∃ ms : List Int, ys = ms.map D.int ∧ ms.Perm ns := by
  have inv : ∀ (ys : List D), (∀ d ∈ ys, ∃ i, d = D.int i) → ∃ ms : List Int, ys = ms.map D.int := by
    intro ys
    induction ys with
    | nil => exact fun _ => ⟨[], rfl⟩
    | cons y ys ih =>
      intro h
      obtain ⟨i, rfl⟩ := h y List.mem_cons_self
      obtain ⟨ms, rfl⟩ := ih fun d m => h d (List.mem_cons_of_mem _ m)
      exact ⟨i :: ms, rfl⟩
  obtain ⟨ms, rfl⟩ := inv ys fun d m => by
    obtain ⟨i, _, e⟩ := List.mem_map.mp (h.subset m)
    exact ⟨i, e.symm⟩
  refine ⟨ms, rfl, ?_⟩
  have := h.map fun d : D => match d with | .int i => i | _ => 0
  rw [List.map_map, List.map_map] at this
  have e : ∀ l : List Int, l.map ((fun d : D => match d with | .int i => i | _ => 0) ∘ D.int) = l := fun l => by
    induction l with
    | nil => rfl
    | cons a l ih => rw [List.map_cons, ih]; rfl
  rwa [e, e] at this
theorem sc_some : FnScope ["_law_state", "_law_things", "_law_thing"] ["_law_state", "_law_things"] (defScope s__law_some) := ⟨rfl, rfl, rfl, by decide +kernel, rfl, by decide +kernel, by decide +kernel⟩
theorem ok_some {f : Addr} {fd : FuncData} (F : Fun K "_law_some" "_law_some" s__law_some f fd) (HD : HDr P w K mg base) (HS : HasD P w K mg base CX0 3 "_law_shuffled" ["_law_state", "_law_some_here"] 2 t_shuffled) : FnG P w K mg base CX0 4 f fd ["_law_state", "_law_things"] (spD K 2 t_some) := by
  refine fun_d F sc_some (fun cdv A outer s H E gd hr => ⟨_, have hu := hu_of hr; (dss_one (ds_ret (de_lc (own := [("_law_thing", 2)]) false rfl sc_some.nd (di_g (di_seq (K := K) (de_callH [false, false] HS gd hr (by decide) (by rfl) pass0 (da_cons (dv 0) (da_cons (dv 1) da_nil))))) (blkOk_by (own := [("_law_thing", 2)]) (N := ["_law_state", "_law_things", "_law_thing"]) (sc := defScope s__law_some) (by decide +kernel)) (fun _ _ _ _ _ => (dg_name (i := 2) sc_some.nd rfl (Or.inl rfl))) (fun _ _ _ _ _ => (dts_one (dt_cmp od_gt (de_callH [false, false] HD gd hr (by decide) (by rfl) pass0 (da_cons (dv 0) (da_cons de_int da_nil))) de_int (nomark _)))) (fun _ _ _ _ _ => (dv 2)))))⟩) fun args er q hl h => ?_
  obtain ⟨ns, rfl, few, nd, k⟩ := h
  simp only [dBody, dSeq, dNext, dBreak, dCont, dDrop, dRet, dRetN, dIfS, dAsg, dgName, dgNil, dgsName, dgsPut, dgUn, dPar, dPar3, dVar, dC, dTake, dFrz, mkS, dBin, dBinO, dTest, dTru, dUn, dIsN, isNonB, dAnd, dOr, dNot, dAndV, dOrV, dNotV, asB, dIf, cnd, dNil, dCons, dTup, dLst, dNewD, dSub, dSl, dSlO, dNoPart, dPart, dIsi, dCallB, dCallO, wds, sds, wd, sd, rsv, Sl.dat, stv, notPar, Sl.with_, dCall, dCallK, argC, arC, useS, kindsB, Ar.sl, cond, ownL, ownD, upS, dLM, dLM0, isOwnL, isOwnD, dPop1, dPop2, dGet1, dGet2, isDct, dDput, dLput, dLput.known, dFld, dMth, dMth0, tyOk, dChain, dAugI, List.map_cons, List.map_nil, List.cons_append, List.nil_append, List.append_nil, List.length_cons, List.length_nil, List.replicate, List.getElem?_cons_zero, List.getElem?_cons_succ, List.getElem?_nil, List.set_cons_zero, List.set_cons_succ, Option.getD_some, Option.getD_none, Nat.reduceAdd, Nat.reduceSub, dNever, dYes, Nat.zero_le, dLc, dG, dSeqI, dOwnI, dLcD, dctS, dDc, dDcD, dFor, dForD, dRng1, dRng2, dEnum, noPar, wipeD, eqW, neW, D.key, itemsOf, keysOf, valsOf, gdT, isTy, tyD, notIns, List.any_cons, List.any_nil, Bool.or_false, Bool.or_true, Bool.true_or, Bool.false_or, Bool.not_true, Bool.not_false, String.reduceBEq, beq_self_eq_true, true_and, and_true, selN, sel, List.filterMap_cons, List.filterMap_nil, backR, back1, cleanR, clean1, clnR, List.tail_cons, List.head?_cons, List.not_mem_nil, false_implies, implies_true, List.nodup_nil, List.nodup_cons, not_false_eq_true, Ev.len_lst, Ev.len_tup, Ev.len_dct, Ev.len_set, Ev.len_str, Ev.add_int, Ev.add_str, Ev.add_tup, Ev.add_lst, Ev.mul_int, Ev.mul_lst, Ev.sub_lst, Ev.sub_tup, Ev.sub_str, Ev.sub_dctI, Ev.sub_dctS, Ev.cut_lst, Ev.cut_tup, Ev.cutL_lst, Ev.in_lst, Ev.in_tup, Ev.in_dctI, Ev.in_dctS, Ev.wI0_int, Ev.wII_int, Ev.neg_int, Ev.index_lst, Ev.set_lst, Ev.set_tup, Ev.all_lst, Ev.any_lst, Ev.list_lst, Ev.list_tup, Ev.list_dct, Ev.repr_one, Ev.dict_lst, Ev.tup_lst, Ev.tup_tup, Ev.append_one, Ev.pop_none, Ev.popAt_one, Ev.clear_none, Ev.extend_one, Ev.remove_one, Ev.seq_lst, Ev.seq_tup, Ev.enum_lst, Ev.enum_tup, Ev.int1_int, Ev.int2_int, Ev.int_int, Ev.max_int, Ev.min_int, Ev.opt_some, Ev.tru_lst, Ev.tru_tup, Ev.tru_int, Ev.par_imm, Ev.par_own, Ev.par_no, Ev.par_drw]
  refine ⟨_, rfl, by rw [List.length_map]; exact few, okD_ints ns, fun ys ρ' pm => ?_⟩
  obtain ⟨ms, rfl, pm2⟩ := perm_ints pm
  simp only [dBody, dSeq, dNext, dBreak, dCont, dDrop, dRet, dRetN, dIfS, dAsg, dgName, dgNil, dgsName, dgsPut, dgUn, dPar, dPar3, dVar, dC, dTake, dFrz, mkS, dBin, dBinO, dTest, dTru, dUn, dIsN, isNonB, dAnd, dOr, dNot, dAndV, dOrV, dNotV, asB, dIf, cnd, dNil, dCons, dTup, dLst, dNewD, dSub, dSl, dSlO, dNoPart, dPart, dIsi, dCallB, dCallO, wds, sds, wd, sd, rsv, Sl.dat, stv, notPar, Sl.with_, dCall, dCallK, argC, arC, useS, kindsB, Ar.sl, cond, ownL, ownD, upS, dLM, dLM0, isOwnL, isOwnD, dPop1, dPop2, dGet1, dGet2, isDct, dDput, dLput, dLput.known, dFld, dMth, dMth0, tyOk, dChain, dAugI, List.map_cons, List.map_nil, List.cons_append, List.nil_append, List.append_nil, List.length_cons, List.length_nil, List.replicate, List.getElem?_cons_zero, List.getElem?_cons_succ, List.getElem?_nil, List.set_cons_zero, List.set_cons_succ, Option.getD_some, Option.getD_none, Nat.reduceAdd, Nat.reduceSub, dNever, dYes, Nat.zero_le, dLc, dG, dSeqI, dOwnI, dLcD, dctS, dDc, dDcD, dFor, dForD, dRng1, dRng2, dEnum, noPar, wipeD, eqW, neW, D.key, itemsOf, keysOf, valsOf, gdT, isTy, tyD, notIns, List.any_cons, List.any_nil, Bool.or_false, Bool.or_true, Bool.true_or, Bool.false_or, Bool.not_true, Bool.not_false, String.reduceBEq, beq_self_eq_true, true_and, and_true, selN, sel, List.filterMap_cons, List.filterMap_nil, backR, back1, cleanR, clean1, clnR, List.tail_cons, List.head?_cons, List.not_mem_nil, false_implies, implies_true, List.nodup_nil, List.nodup_cons, not_false_eq_true, Ev.len_lst, Ev.len_tup, Ev.len_dct, Ev.len_set, Ev.len_str, Ev.add_int, Ev.add_str, Ev.add_tup, Ev.add_lst, Ev.mul_int, Ev.mul_lst, Ev.sub_lst, Ev.sub_tup, Ev.sub_str, Ev.sub_dctI, Ev.sub_dctS, Ev.cut_lst, Ev.cut_tup, Ev.cutL_lst, Ev.in_lst, Ev.in_tup, Ev.in_dctI, Ev.in_dctS, Ev.wI0_int, Ev.wII_int, Ev.neg_int, Ev.index_lst, Ev.set_lst, Ev.set_tup, Ev.all_lst, Ev.any_lst, Ev.list_lst, Ev.list_tup, Ev.list_dct, Ev.repr_one, Ev.dict_lst, Ev.tup_lst, Ev.tup_tup, Ev.append_one, Ev.pop_none, Ev.popAt_one, Ev.clear_none, Ev.extend_one, Ev.remove_one, Ev.seq_lst, Ev.seq_tup, Ev.enum_lst, Ev.enum_tup, Ev.int1_int, Ev.int2_int, Ev.int_int, Ev.max_int, Ev.min_int, Ev.opt_some, Ev.tru_lst, Ev.tru_tup, Ev.tru_int, Ev.par_imm, Ev.par_own, Ev.par_no, Ev.par_drw]
  have lm : ms.length = ns.length := pm2.length_eq
  refine comp_ind (fun j acc ρ => ρ = [.drw, .imm (.lst (ns.map D.int)), .no] ∧ ∃ l, acc = l.map D.int ∧ l.Sublist (ms.take j)) ⟨rfl, [], rfl, by simp⟩ (fun _ _ _ _ => True.intro) ?_ ?_
  · rintro j d acc ρ N ej ⟨rfl, l, rfl, sl⟩ hN
    rw [List.getElem?_map] at ej
    obtain ⟨i, ei, rfl⟩ := Option.map_eq_some_iff.mp ej
    have lj := (List.getElem?_eq_some_iff.mp ei).1
    have ll : l.length ≤ 1000 := by have := sl.length_le; rw [List.length_take] at this; omega
    simp only [dBody, dSeq, dNext, dBreak, dCont, dDrop, dRet, dRetN, dIfS, dAsg, dgName, dgNil, dgsName, dgsPut, dgUn, dPar, dPar3, dVar, dC, dTake, dFrz, mkS, dBin, dBinO, dTest, dTru, dUn, dIsN, isNonB, dAnd, dOr, dNot, dAndV, dOrV, dNotV, asB, dIf, cnd, dNil, dCons, dTup, dLst, dNewD, dSub, dSl, dSlO, dNoPart, dPart, dIsi, dCallB, dCallO, wds, sds, wd, sd, rsv, Sl.dat, stv, notPar, Sl.with_, dCall, dCallK, argC, arC, useS, kindsB, Ar.sl, cond, ownL, ownD, upS, dLM, dLM0, isOwnL, isOwnD, dPop1, dPop2, dGet1, dGet2, isDct, dDput, dLput, dLput.known, dFld, dMth, dMth0, tyOk, dChain, dAugI, List.map_cons, List.map_nil, List.cons_append, List.nil_append, List.append_nil, List.length_cons, List.length_nil, List.replicate, List.getElem?_cons_zero, List.getElem?_cons_succ, List.getElem?_nil, List.set_cons_zero, List.set_cons_succ, Option.getD_some, Option.getD_none, Nat.reduceAdd, Nat.reduceSub, dNever, dYes, Nat.zero_le, dLc, dG, dSeqI, dOwnI, dLcD, dctS, dDc, dDcD, dFor, dForD, dRng1, dRng2, dEnum, noPar, wipeD, eqW, neW, D.key, itemsOf, keysOf, valsOf, gdT, isTy, tyD, notIns, List.any_cons, List.any_nil, Bool.or_false, Bool.or_true, Bool.true_or, Bool.false_or, Bool.not_true, Bool.not_false, String.reduceBEq, beq_self_eq_true, true_and, and_true, selN, sel, List.filterMap_cons, List.filterMap_nil, backR, back1, cleanR, clean1, clnR, List.tail_cons, List.head?_cons, List.not_mem_nil, false_implies, implies_true, List.nodup_nil, List.nodup_cons, not_false_eq_true, Ev.len_lst, Ev.len_tup, Ev.len_dct, Ev.len_set, Ev.len_str, Ev.add_int, Ev.add_str, Ev.add_tup, Ev.add_lst, Ev.mul_int, Ev.mul_lst, Ev.sub_lst, Ev.sub_tup, Ev.sub_str, Ev.sub_dctI, Ev.sub_dctS, Ev.cut_lst, Ev.cut_tup, Ev.cutL_lst, Ev.in_lst, Ev.in_tup, Ev.in_dctI, Ev.in_dctS, Ev.wI0_int, Ev.wII_int, Ev.neg_int, Ev.index_lst, Ev.set_lst, Ev.set_tup, Ev.all_lst, Ev.any_lst, Ev.list_lst, Ev.list_tup, Ev.list_dct, Ev.repr_one, Ev.dict_lst, Ev.tup_lst, Ev.tup_tup, Ev.append_one, Ev.pop_none, Ev.popAt_one, Ev.clear_none, Ev.extend_one, Ev.remove_one, Ev.seq_lst, Ev.seq_tup, Ev.enum_lst, Ev.enum_tup, Ev.int1_int, Ev.int2_int, Ev.int_int, Ev.max_int, Ev.min_int, Ev.opt_some, Ev.tru_lst, Ev.tru_tup, Ev.tru_int, Ev.par_imm, Ev.par_own, Ev.par_no, Ev.par_drw]
    refine ⟨3, rfl, by decide, by decide, fun r ρ' h0 h1 => ?_⟩
    simp only [dBody, dSeq, dNext, dBreak, dCont, dDrop, dRet, dRetN, dIfS, dAsg, dgName, dgNil, dgsName, dgsPut, dgUn, dPar, dPar3, dVar, dC, dTake, dFrz, mkS, dBin, dBinO, dTest, dTru, dUn, dIsN, isNonB, dAnd, dOr, dNot, dAndV, dOrV, dNotV, asB, dIf, cnd, dNil, dCons, dTup, dLst, dNewD, dSub, dSl, dSlO, dNoPart, dPart, dIsi, dCallB, dCallO, wds, sds, wd, sd, rsv, Sl.dat, stv, notPar, Sl.with_, dCall, dCallK, argC, arC, useS, kindsB, Ar.sl, cond, ownL, ownD, upS, dLM, dLM0, isOwnL, isOwnD, dPop1, dPop2, dGet1, dGet2, isDct, dDput, dLput, dLput.known, dFld, dMth, dMth0, tyOk, dChain, dAugI, List.map_cons, List.map_nil, List.cons_append, List.nil_append, List.append_nil, List.length_cons, List.length_nil, List.replicate, List.getElem?_cons_zero, List.getElem?_cons_succ, List.getElem?_nil, List.set_cons_zero, List.set_cons_succ, Option.getD_some, Option.getD_none, Nat.reduceAdd, Nat.reduceSub, dNever, dYes, Nat.zero_le, dLc, dG, dSeqI, dOwnI, dLcD, dctS, dDc, dDcD, dFor, dForD, dRng1, dRng2, dEnum, noPar, wipeD, eqW, neW, D.key, itemsOf, keysOf, valsOf, gdT, isTy, tyD, notIns, List.any_cons, List.any_nil, Bool.or_false, Bool.or_true, Bool.true_or, Bool.false_or, Bool.not_true, Bool.not_false, String.reduceBEq, beq_self_eq_true, true_and, and_true, selN, sel, List.filterMap_cons, List.filterMap_nil, backR, back1, cleanR, clean1, clnR, List.tail_cons, List.head?_cons, List.not_mem_nil, false_implies, implies_true, List.nodup_nil, List.nodup_cons, not_false_eq_true, Ev.len_lst, Ev.len_tup, Ev.len_dct, Ev.len_set, Ev.len_str, Ev.add_int, Ev.add_str, Ev.add_tup, Ev.add_lst, Ev.mul_int, Ev.mul_lst, Ev.sub_lst, Ev.sub_tup, Ev.sub_str, Ev.sub_dctI, Ev.sub_dctS, Ev.cut_lst, Ev.cut_tup, Ev.cutL_lst, Ev.in_lst, Ev.in_tup, Ev.in_dctI, Ev.in_dctS, Ev.wI0_int, Ev.wII_int, Ev.neg_int, Ev.index_lst, Ev.set_lst, Ev.set_tup, Ev.all_lst, Ev.any_lst, Ev.list_lst, Ev.list_tup, Ev.list_dct, Ev.repr_one, Ev.dict_lst, Ev.tup_lst, Ev.tup_tup, Ev.append_one, Ev.pop_none, Ev.popAt_one, Ev.clear_none, Ev.extend_one, Ev.remove_one, Ev.seq_lst, Ev.seq_tup, Ev.enum_lst, Ev.enum_tup, Ev.int1_int, Ev.int2_int, Ev.int_int, Ev.max_int, Ev.min_int, Ev.opt_some, Ev.tru_lst, Ev.tru_tup, Ev.tru_int, Ev.par_imm, Ev.par_own, Ev.par_no, Ev.par_drw]
    cases decide (0 < r) with
    | true => exact ⟨by rw [List.length_map]; exact small1000 ll, hN _ _ ⟨rfl, l ++ [i], by rw [List.map_append]; rfl, by rw [take_snoc ei]; exact sl.append (List.Sublist.refl _)⟩⟩
    | false => exact hN _ _ ⟨rfl, l, rfl, by rw [take_snoc ei]; exact sl.trans (List.sublist_append_left _ _)⟩
  · rintro acc ρ ⟨rfl, l, rfl, sl⟩
    simp only [dBody, dSeq, dNext, dBreak, dCont, dDrop, dRet, dRetN, dIfS, dAsg, dgName, dgNil, dgsName, dgsPut, dgUn, dPar, dPar3, dVar, dC, dTake, dFrz, mkS, dBin, dBinO, dTest, dTru, dUn, dIsN, isNonB, dAnd, dOr, dNot, dAndV, dOrV, dNotV, asB, dIf, cnd, dNil, dCons, dTup, dLst, dNewD, dSub, dSl, dSlO, dNoPart, dPart, dIsi, dCallB, dCallO, wds, sds, wd, sd, rsv, Sl.dat, stv, notPar, Sl.with_, dCall, dCallK, argC, arC, useS, kindsB, Ar.sl, cond, ownL, ownD, upS, dLM, dLM0, isOwnL, isOwnD, dPop1, dPop2, dGet1, dGet2, isDct, dDput, dLput, dLput.known, dFld, dMth, dMth0, tyOk, dChain, dAugI, List.map_cons, List.map_nil, List.cons_append, List.nil_append, List.append_nil, List.length_cons, List.length_nil, List.replicate, List.getElem?_cons_zero, List.getElem?_cons_succ, List.getElem?_nil, List.set_cons_zero, List.set_cons_succ, Option.getD_some, Option.getD_none, Nat.reduceAdd, Nat.reduceSub, dNever, dYes, Nat.zero_le, dLc, dG, dSeqI, dOwnI, dLcD, dctS, dDc, dDcD, dFor, dForD, dRng1, dRng2, dEnum, noPar, wipeD, eqW, neW, D.key, itemsOf, keysOf, valsOf, gdT, isTy, tyD, notIns, List.any_cons, List.any_nil, Bool.or_false, Bool.or_true, Bool.true_or, Bool.false_or, Bool.not_true, Bool.not_false, String.reduceBEq, beq_self_eq_true, true_and, and_true, selN, sel, List.filterMap_cons, List.filterMap_nil, backR, back1, cleanR, clean1, clnR, List.tail_cons, List.head?_cons, List.not_mem_nil, false_implies, implies_true, List.nodup_nil, List.nodup_cons, not_false_eq_true, Ev.len_lst, Ev.len_tup, Ev.len_dct, Ev.len_set, Ev.len_str, Ev.add_int, Ev.add_str, Ev.add_tup, Ev.add_lst, Ev.mul_int, Ev.mul_lst, Ev.sub_lst, Ev.sub_tup, Ev.sub_str, Ev.sub_dctI, Ev.sub_dctS, Ev.cut_lst, Ev.cut_tup, Ev.cutL_lst, Ev.in_lst, Ev.in_tup, Ev.in_dctI, Ev.in_dctS, Ev.wI0_int, Ev.wII_int, Ev.neg_int, Ev.index_lst, Ev.set_lst, Ev.set_tup, Ev.all_lst, Ev.any_lst, Ev.list_lst, Ev.list_tup, Ev.list_dct, Ev.repr_one, Ev.dict_lst, Ev.tup_lst, Ev.tup_tup, Ev.append_one, Ev.pop_none, Ev.popAt_one, Ev.clear_none, Ev.extend_one, Ev.remove_one, Ev.seq_lst, Ev.seq_tup, Ev.enum_lst, Ev.enum_tup, Ev.int1_int, Ev.int2_int, Ev.int_int, Ev.max_int, Ev.min_int, Ev.opt_some, Ev.tru_lst, Ev.tru_tup, Ev.tru_int, Ev.par_imm, Ev.par_own, Ev.par_no, Ev.par_drw]
    rw [List.length_map, List.take_length] at sl
    exact k l _ ((pm2.nodup_iff.mpr nd).sublist sl) fun m hm => pm2.subset (sl.subset hm)
/-- xs[:n] -/
theorem cut_take {xs : List D} {n : Int} (h : 0 ≤ n) : Dl.cutD xs none (some n) = xs.take n.toNat := by
  unfold Dl.cutD HT.sIx
  simp only
  rw [if_neg (by omega), List.drop_zero, Nat.sub_zero]
  by_cases z : n.toNat ≤ xs.length
  · rw [Nat.min_eq_left z]
  · rw [Nat.min_eq_right (by omega), List.take_length, List.take_of_length_le (by omega)]
/-! areas -/
def t_areas : TF := fun args er q => ∃ b : Int, args = [.drw, .imm (.int b)] ∧ 2 ≤ b ∧ b ≤ 10 ∧ ∀ (ms : List Int) (ρ' : Rho), ms.Nodup → 2 ≤ ms.length → ms.length ≤ 12 → (∀ m ∈ ms, -10 ^ 9 ≤ m ∧ m ≤ 10 ^ 9) → q (.imm (.lst (ms.map D.int))) ρ'
theorem len_areas : ∀ as er q, t_areas as er q → as.length = 2 := fun as er q h => by
  obtain ⟨xs, rfl, _⟩ := h
  rfl
theorem sc_areas : FnScope ["_law_state", "_law_most", "_law_numbers"] ["_law_state", "_law_most"] (defScope s__law_areas) := ⟨rfl, rfl, rfl, by decide +kernel, rfl, by decide +kernel, by decide +kernel⟩
theorem ok_areas {f : Addr} {fd : FuncData} (F : Fun K "_law_areas" "_law_areas" s__law_areas f fd) (HD : HDr P w K mg base) (HS : HasD P w K mg base CX0 3 "_law_shuffled" ["_law_state", "_law_some_here"] 2 t_shuffled) : FnG P w K mg base CX0 4 f fd ["_law_state", "_law_most"] (spD K 2 t_areas) := by
  refine fun_d F sc_areas (fun cdv A outer s H E gd hr => ⟨_, have hu := hu_of hr; (dss_cons (ds_set (i := 2) sc_areas.nd rfl (Or.inl rfl) (de_lst false (da_cons de_int (da_cons de_int (da_cons de_int (da_cons de_int (da_cons de_int (da_cons de_int (da_cons (de_un un_negD de_int) (da_cons de_int (da_cons (de_bin od_pow de_int de_int) (da_cons (de_un un_negD (de_bin od_pow de_int de_int)) (da_cons (de_bin (od_add (K := K)) (de_callH [false, false] HD gd hr (by decide) (by rfl) pass0 (da_cons (dv 0) (da_cons de_int da_nil))) de_int) (da_cons de_int da_nil))))))))))))))
      (dss_one (ds_ret (de_slice (K := K) (de_callH [false, false] HS gd hr (by decide) (by rfl) pass0 (da_cons (dv 0) (da_cons (dv 2) da_nil))) do_none (do_some (de_bin (od_add (K := K)) de_int (de_callH [false, false] HD gd hr (by decide) (by rfl) pass0 (da_cons (dv 0) (da_cons (de_bin od_sub (dv 1) de_int) da_nil)))))))))⟩) fun args er q hl h => ?_

  obtain ⟨b, rfl, b0, b1, k⟩ := h
  simp only [dBody, dSeq, dNext, dBreak, dCont, dDrop, dRet, dRetN, dIfS, dAsg, dgName, dgNil, dgsName, dgsPut, dgUn, dPar, dPar3, dVar, dC, dTake, dFrz, mkS, dBin, dBinO, dTest, dTru, dUn, dIsN, isNonB, dAnd, dOr, dNot, dAndV, dOrV, dNotV, asB, dIf, cnd, dNil, dCons, dTup, dLst, dNewD, dSub, dSl, dSlO, dNoPart, dPart, dIsi, dCallB, dCallO, wds, sds, wd, sd, rsv, Sl.dat, stv, notPar, Sl.with_, dCall, dCallK, argC, arC, useS, kindsB, Ar.sl, cond, ownL, ownD, upS, dLM, dLM0, isOwnL, isOwnD, dPop1, dPop2, dGet1, dGet2, isDct, dDput, dLput, dLput.known, dFld, dMth, dMth0, tyOk, dChain, dAugI, List.map_cons, List.map_nil, List.cons_append, List.nil_append, List.append_nil, List.length_cons, List.length_nil, List.replicate, List.getElem?_cons_zero, List.getElem?_cons_succ, List.getElem?_nil, List.set_cons_zero, List.set_cons_succ, Option.getD_some, Option.getD_none, Nat.reduceAdd, Nat.reduceSub, dNever, dYes, Nat.zero_le, dLc, dG, dSeqI, dOwnI, dLcD, dctS, dDc, dDcD, dFor, dForD, dRng1, dRng2, dEnum, noPar, wipeD, eqW, neW, D.key, itemsOf, keysOf, valsOf, gdT, isTy, tyD, notIns, List.any_cons, List.any_nil, Bool.or_false, Bool.or_true, Bool.true_or, Bool.false_or, Bool.not_true, Bool.not_false, String.reduceBEq, beq_self_eq_true, true_and, and_true, selN, sel, List.filterMap_cons, List.filterMap_nil, backR, back1, cleanR, clean1, clnR, List.tail_cons, List.head?_cons, List.not_mem_nil, false_implies, implies_true, List.nodup_nil, List.nodup_cons, not_false_eq_true, Ev.len_lst, Ev.len_tup, Ev.len_dct, Ev.len_set, Ev.len_str, Ev.add_int, Ev.add_str, Ev.add_tup, Ev.add_lst, Ev.mul_int, Ev.mul_lst, Ev.sub_lst, Ev.sub_tup, Ev.sub_str, Ev.sub_dctI, Ev.sub_dctS, Ev.cut_lst, Ev.cut_tup, Ev.cutL_lst, Ev.in_lst, Ev.in_tup, Ev.in_dctI, Ev.in_dctS, Ev.wI0_int, Ev.wII_int, Ev.neg_int, Ev.index_lst, Ev.set_lst, Ev.set_tup, Ev.all_lst, Ev.any_lst, Ev.list_lst, Ev.list_tup, Ev.list_dct, Ev.repr_one, Ev.dict_lst, Ev.tup_lst, Ev.tup_tup, Ev.append_one, Ev.pop_none, Ev.popAt_one, Ev.clear_none, Ev.extend_one, Ev.remove_one, Ev.seq_lst, Ev.seq_tup, Ev.enum_lst, Ev.enum_tup, Ev.int1_int, Ev.int2_int, Ev.int_int, Ev.max_int, Ev.min_int, Ev.opt_some, Ev.tru_lst, Ev.tru_tup, Ev.tru_int, Ev.par_imm, Ev.par_own, Ev.par_no, Ev.par_drw]
  refine ⟨⟨by decide, by decide, by decide⟩, ⟨by decide, by decide, by decide⟩, _, rfl, by decide, by decide, fun r ρ' h0 h1 => ?_⟩
  simp only [dBody, dSeq, dNext, dBreak, dCont, dDrop, dRet, dRetN, dIfS, dAsg, dgName, dgNil, dgsName, dgsPut, dgUn, dPar, dPar3, dVar, dC, dTake, dFrz, mkS, dBin, dBinO, dTest, dTru, dUn, dIsN, isNonB, dAnd, dOr, dNot, dAndV, dOrV, dNotV, asB, dIf, cnd, dNil, dCons, dTup, dLst, dNewD, dSub, dSl, dSlO, dNoPart, dPart, dIsi, dCallB, dCallO, wds, sds, wd, sd, rsv, Sl.dat, stv, notPar, Sl.with_, dCall, dCallK, argC, arC, useS, kindsB, Ar.sl, cond, ownL, ownD, upS, dLM, dLM0, isOwnL, isOwnD, dPop1, dPop2, dGet1, dGet2, isDct, dDput, dLput, dLput.known, dFld, dMth, dMth0, tyOk, dChain, dAugI, List.map_cons, List.map_nil, List.cons_append, List.nil_append, List.append_nil, List.length_cons, List.length_nil, List.replicate, List.getElem?_cons_zero, List.getElem?_cons_succ, List.getElem?_nil, List.set_cons_zero, List.set_cons_succ, Option.getD_some, Option.getD_none, Nat.reduceAdd, Nat.reduceSub, dNever, dYes, Nat.zero_le, dLc, dG, dSeqI, dOwnI, dLcD, dctS, dDc, dDcD, dFor, dForD, dRng1, dRng2, dEnum, noPar, wipeD, eqW, neW, D.key, itemsOf, keysOf, valsOf, gdT, isTy, tyD, notIns, List.any_cons, List.any_nil, Bool.or_false, Bool.or_true, Bool.true_or, Bool.false_or, Bool.not_true, Bool.not_false, String.reduceBEq, beq_self_eq_true, true_and, and_true, selN, sel, List.filterMap_cons, List.filterMap_nil, backR, back1, cleanR, clean1, clnR, List.tail_cons, List.head?_cons, List.not_mem_nil, false_implies, implies_true, List.nodup_nil, List.nodup_cons, not_false_eq_true, Ev.len_lst, Ev.len_tup, Ev.len_dct, Ev.len_set, Ev.len_str, Ev.add_int, Ev.add_str, Ev.add_tup, Ev.add_lst, Ev.mul_int, Ev.mul_lst, Ev.sub_lst, Ev.sub_tup, Ev.sub_str, Ev.sub_dctI, Ev.sub_dctS, Ev.cut_lst, Ev.cut_tup, Ev.cutL_lst, Ev.in_lst, Ev.in_tup, Ev.in_dctI, Ev.in_dctS, Ev.wI0_int, Ev.wII_int, Ev.neg_int, Ev.index_lst, Ev.set_lst, Ev.set_tup, Ev.all_lst, Ev.any_lst, Ev.list_lst, Ev.list_tup, Ev.list_dct, Ev.repr_one, Ev.dict_lst, Ev.tup_lst, Ev.tup_tup, Ev.append_one, Ev.pop_none, Ev.popAt_one, Ev.clear_none, Ev.extend_one, Ev.remove_one, Ev.seq_lst, Ev.seq_tup, Ev.enum_lst, Ev.enum_tup, Ev.int1_int, Ev.int2_int, Ev.int_int, Ev.max_int, Ev.min_int, Ev.opt_some, Ev.tru_lst, Ev.tru_tup, Ev.tru_int, Ev.par_imm, Ev.par_own, Ev.par_no, Ev.par_drw]
  have e9 : ((10 : Int) ^ Int.toNat 9) = 1000000000 := by decide
  rw [e9]
  have ens : [D.int 0, D.int 1, D.int 2, D.int 3, D.int 4, D.int 5, D.int (-1), D.int 40, D.int 1000000000, D.int (-1000000000), D.int (r + 50), D.int 7] = [0, 1, 2, 3, 4, 5, -1, 40, 1000000000, -1000000000, r + 50, 7].map D.int := rfl
  rw [ens]
  clear ens
  have nd : [0, 1, 2, 3, 4, 5, -1, 40, 1000000000, -1000000000, r + 50, 7].Nodup := by
    simp
    omega
  have bd : ∀ m ∈ [0, 1, 2, 3, 4, 5, -1, 40, 1000000000, -1000000000, r + 50, 7], -10 ^ 9 ≤ m ∧ m ≤ 10 ^ 9 := by
    intro m hm
    simp only [List.mem_cons, List.not_mem_nil, or_false] at hm
    omega
  generalize hg : [0, 1, 2, 3, 4, 5, -1, 40, 1000000000, -1000000000, r + 50, 7] = ns at *
  have len : ns.length = 12 := by rw [← hg]; rfl
  refine ⟨by decide, _, rfl, by rw [List.length_map]; omega, okD_ints ns, fun ys ρ' pm => ?_⟩
  obtain ⟨ms, rfl, pm2⟩ := perm_ints pm
  simp only [dBody, dSeq, dNext, dBreak, dCont, dDrop, dRet, dRetN, dIfS, dAsg, dgName, dgNil, dgsName, dgsPut, dgUn, dPar, dPar3, dVar, dC, dTake, dFrz, mkS, dBin, dBinO, dTest, dTru, dUn, dIsN, isNonB, dAnd, dOr, dNot, dAndV, dOrV, dNotV, asB, dIf, cnd, dNil, dCons, dTup, dLst, dNewD, dSub, dSl, dSlO, dNoPart, dPart, dIsi, dCallB, dCallO, wds, sds, wd, sd, rsv, Sl.dat, stv, notPar, Sl.with_, dCall, dCallK, argC, arC, useS, kindsB, Ar.sl, cond, ownL, ownD, upS, dLM, dLM0, isOwnL, isOwnD, dPop1, dPop2, dGet1, dGet2, isDct, dDput, dLput, dLput.known, dFld, dMth, dMth0, tyOk, dChain, dAugI, List.map_cons, List.map_nil, List.cons_append, List.nil_append, List.append_nil, List.length_cons, List.length_nil, List.replicate, List.getElem?_cons_zero, List.getElem?_cons_succ, List.getElem?_nil, List.set_cons_zero, List.set_cons_succ, Option.getD_some, Option.getD_none, Nat.reduceAdd, Nat.reduceSub, dNever, dYes, Nat.zero_le, dLc, dG, dSeqI, dOwnI, dLcD, dctS, dDc, dDcD, dFor, dForD, dRng1, dRng2, dEnum, noPar, wipeD, eqW, neW, D.key, itemsOf, keysOf, valsOf, gdT, isTy, tyD, notIns, List.any_cons, List.any_nil, Bool.or_false, Bool.or_true, Bool.true_or, Bool.false_or, Bool.not_true, Bool.not_false, String.reduceBEq, beq_self_eq_true, true_and, and_true, selN, sel, List.filterMap_cons, List.filterMap_nil, backR, back1, cleanR, clean1, clnR, List.tail_cons, List.head?_cons, List.not_mem_nil, false_implies, implies_true, List.nodup_nil, List.nodup_cons, not_false_eq_true, Ev.len_lst, Ev.len_tup, Ev.len_dct, Ev.len_set, Ev.len_str, Ev.add_int, Ev.add_str, Ev.add_tup, Ev.add_lst, Ev.mul_int, Ev.mul_lst, Ev.sub_lst, Ev.sub_tup, Ev.sub_str, Ev.sub_dctI, Ev.sub_dctS, Ev.cut_lst, Ev.cut_tup, Ev.cutL_lst, Ev.in_lst, Ev.in_tup, Ev.in_dctI, Ev.in_dctS, Ev.wI0_int, Ev.wII_int, Ev.neg_int, Ev.index_lst, Ev.set_lst, Ev.set_tup, Ev.all_lst, Ev.any_lst, Ev.list_lst, Ev.list_tup, Ev.list_dct, Ev.repr_one, Ev.dict_lst, Ev.tup_lst, Ev.tup_tup, Ev.append_one, Ev.pop_none, Ev.popAt_one, Ev.clear_none, Ev.extend_one, Ev.remove_one, Ev.seq_lst, Ev.seq_tup, Ev.enum_lst, Ev.enum_tup, Ev.int1_int, Ev.int2_int, Ev.int_int, Ev.max_int, Ev.min_int, Ev.opt_some, Ev.tru_lst, Ev.tru_tup, Ev.tru_int, Ev.par_imm, Ev.par_own, Ev.par_no, Ev.par_drw]
  refine ⟨_, rfl, by omega, by omega, fun z ρ' z0 z1 => ?_⟩
  simp only [dBody, dSeq, dNext, dBreak, dCont, dDrop, dRet, dRetN, dIfS, dAsg, dgName, dgNil, dgsName, dgsPut, dgUn, dPar, dPar3, dVar, dC, dTake, dFrz, mkS, dBin, dBinO, dTest, dTru, dUn, dIsN, isNonB, dAnd, dOr, dNot, dAndV, dOrV, dNotV, asB, dIf, cnd, dNil, dCons, dTup, dLst, dNewD, dSub, dSl, dSlO, dNoPart, dPart, dIsi, dCallB, dCallO, wds, sds, wd, sd, rsv, Sl.dat, stv, notPar, Sl.with_, dCall, dCallK, argC, arC, useS, kindsB, Ar.sl, cond, ownL, ownD, upS, dLM, dLM0, isOwnL, isOwnD, dPop1, dPop2, dGet1, dGet2, isDct, dDput, dLput, dLput.known, dFld, dMth, dMth0, tyOk, dChain, dAugI, List.map_cons, List.map_nil, List.cons_append, List.nil_append, List.append_nil, List.length_cons, List.length_nil, List.replicate, List.getElem?_cons_zero, List.getElem?_cons_succ, List.getElem?_nil, List.set_cons_zero, List.set_cons_succ, Option.getD_some, Option.getD_none, Nat.reduceAdd, Nat.reduceSub, dNever, dYes, Nat.zero_le, dLc, dG, dSeqI, dOwnI, dLcD, dctS, dDc, dDcD, dFor, dForD, dRng1, dRng2, dEnum, noPar, wipeD, eqW, neW, D.key, itemsOf, keysOf, valsOf, gdT, isTy, tyD, notIns, List.any_cons, List.any_nil, Bool.or_false, Bool.or_true, Bool.true_or, Bool.false_or, Bool.not_true, Bool.not_false, String.reduceBEq, beq_self_eq_true, true_and, and_true, selN, sel, List.filterMap_cons, List.filterMap_nil, backR, back1, cleanR, clean1, clnR, List.tail_cons, List.head?_cons, List.not_mem_nil, false_implies, implies_true, List.nodup_nil, List.nodup_cons, not_false_eq_true, Ev.len_lst, Ev.len_tup, Ev.len_dct, Ev.len_set, Ev.len_str, Ev.add_int, Ev.add_str, Ev.add_tup, Ev.add_lst, Ev.mul_int, Ev.mul_lst, Ev.sub_lst, Ev.sub_tup, Ev.sub_str, Ev.sub_dctI, Ev.sub_dctS, Ev.cut_lst, Ev.cut_tup, Ev.cutL_lst, Ev.in_lst, Ev.in_tup, Ev.in_dctI, Ev.in_dctS, Ev.wI0_int, Ev.wII_int, Ev.neg_int, Ev.index_lst, Ev.set_lst, Ev.set_tup, Ev.all_lst, Ev.any_lst, Ev.list_lst, Ev.list_tup, Ev.list_dct, Ev.repr_one, Ev.dict_lst, Ev.tup_lst, Ev.tup_tup, Ev.append_one, Ev.pop_none, Ev.popAt_one, Ev.clear_none, Ev.extend_one, Ev.remove_one, Ev.seq_lst, Ev.seq_tup, Ev.enum_lst, Ev.enum_tup, Ev.int1_int, Ev.int2_int, Ev.int_int, Ev.max_int, Ev.min_int, Ev.opt_some, Ev.tru_lst, Ev.tru_tup, Ev.tru_int, Ev.par_imm, Ev.par_own, Ev.par_no, Ev.par_drw]
  have cut := cut_take (xs := ms.map D.int) (show 0 ≤ 2 + z by omega)
  rw [← List.map_take] at cut
  rw [cut]
  have lm := pm2.length_eq
  refine k _ _ ((pm2.nodup_iff.mpr nd).sublist (List.take_sublist _ _)) ?_ ?_ fun m hm => bd m (pm2.subset (List.mem_of_mem_take hm))
  · rw [List.length_take]; omega
  · rw [List.length_take]; omega
end
end Bm
set_option maxRecDepth 100000
set_option maxHeartbeats 4000000
/-! lines of events -/
namespace Bm
open PySem PySem.Spec L2 L3 LamX Dl PyProof.Rows
inductive Ev where
  | beg (n : Int) (mv : Bool) (s t : Int) | fin (n : Int) | vis (a : Int)
def kdS (mv : Bool) : Str := match mv with
  | true => "move"
  | false => "copy"
def Ev.d : Ev → D
  | .beg n mv s t => .tup [.str "begin", .int n, .str (kdS mv), .int s, .int t]
  | .fin n => .tup [.str "end", .int n]
  | .vis a => .tup [.str "visit", .int a]
def begun (l : List Ev) : List Int := l.filterMap fun e => match e with
  | .beg n _ _ _ => some n
  | _ => none
def ended (l : List Ev) : List Int := l.filterMap fun e => match e with
  | .fin n => some n
  | _ => none
def okEv (l : List Ev) : Ev → Prop
  | .beg n _ s t => n ∉ begun l ∧ s ≠ t
  | .fin n => n ∈ begun l ∧ n ∉ ended l
  | .vis _ => True
inductive Good : List Ev → Prop where
  | nil : Good []
  | snoc {l : List Ev} {e : Ev} (h : Good l) (o : okEv l e) : Good (l ++ [e])
/-- the areas and numbers of an event are small -/
def smEv (U : List Int) : Ev → Prop
  | .beg n _ s t => (-10 ^ 9 ≤ n ∧ n ≤ 10 ^ 9) ∧ s ∈ U ∧ t ∈ U
  | .fin n => -10 ^ 9 ≤ n ∧ n ≤ 10 ^ 9
  | .vis a => a ∈ U
theorem begun_snoc (l : List Ev) (e : Ev) : begun (l ++ [e]) = begun l ++ begun [e] := by unfold begun; rw [List.filterMap_append]
theorem ended_snoc (l : List Ev) (e : Ev) : ended (l ++ [e]) = ended l ++ ended [e] := by unfold ended; rw [List.filterMap_append]
theorem ended_begun {l : List Ev} (g : Good l) : ∀ n ∈ ended l, n ∈ begun l := by
  induction g with
  | nil => exact fun n h => absurd h List.not_mem_nil
  | @snoc l e g o ih =>
    intro n hn
    rw [ended_snoc] at hn
    rw [begun_snoc]
    rcases List.mem_append.mp hn with hn | hn
    · exact List.mem_append_left _ (ih n hn)
    · cases e with
      | fin m =>
        simp [ended] at hn
        subst hn
        exact List.mem_append_left _ o.1
      | _ => simp [ended] at hn
theorem map_eraseIdx (ns : List Int) (i : Nat) : (ns.eraseIdx i).map D.int = (ns.map D.int).eraseIdx i := by
  induction ns generalizing i with
  | nil => rfl
  | cons a ns ih =>
    cases i with
    | zero => rfl
    | succ i => simp [ih]
theorem idx_some {U : List Int} {a : Int} (h : a ∈ U) : ∃ j, (U.map D.int).findIdx? (fun z => deq z (.int a)) = some j := by
  cases e : (U.map D.int).findIdx? (fun z => deq z (.int a)) with
  | some j => exact ⟨j, rfl⟩
  | none =>
    rw [List.findIdx?_eq_none_iff] at e
    have := e _ (List.mem_map_of_mem h)
    rw [deq_int] at this
    simp at this
theorem last_some (ns : List Int) (n : Int) : ((ns ++ [n]).map D.int)[((ns ++ [n]).map D.int).length - 1]? = some (.int n) := by
  rw [List.length_map, List.map_append, List.length_append]
  have : ns.length + [n].length - 1 = (ns.map D.int).length := by rw [List.length_map]; rfl
  rw [this, List.getElem?_append_right (Nat.le_refl _), Nat.sub_self]
  rfl
theorem drop_last (ns : List Int) (n : Int) : ((ns ++ [n]).map D.int).dropLast = ns.map D.int := by
  rw [List.map_append, List.map_cons, List.map_nil, List.dropLast_concat]
theorem atI_last (ds : List D) (d : D) : atI (ds ++ [d]) (-1) = some d := by
  have h : ixN (ds ++ [d]).length (-1) = some ds.length := by
    unfold ixN
    rw [List.length_append, List.length_singleton, if_neg (by decide), if_pos (by omega)]
    congr 1
    omega
  unfold atI
  rw [h]
  simp
theorem ends_some {ns : List Int} (h : ns ≠ []) : ∃ ni n, ns = ni ++ [n] := ⟨ns.dropLast, ns.getLast h, (List.dropLast_concat_getLast h).symm⟩
section
variable {P : Program} {w : World} {K : PySem.W.Frag} {mg : Str → Option Value} {base : Heap}
def t_line : TF := fun args er q => ∃ (U : List Int) (z : Int) (fr : Bool), args = [.drw, .imm (.lst (U.map D.int)), .imm (.int z), .imm (.int 8), .imm (.bl fr)] ∧ U.Nodup ∧ 2 ≤ U.length ∧ U.length ≤ 12 ∧ 0 ≤ z ∧ z ≤ 16 ∧
  ∀ (l : List Ev) (ρ' : Rho), Good l → (∀ e ∈ l, smEv U e) → l.length = z.toNat → q (.imm (.lst (l.map Ev.d))) ρ'
theorem len_line : ∀ as er q, t_line as er q → as.length = 5 := fun as er q h => by
  obtain ⟨U, z, fr, rfl, _⟩ := h
  rfl
theorem sc_line : FnScope ["_law_state", "_law_nodes", "_law_size", "_law_most", "_law_is_free", "_law_numbers", "_law_line_here", "_law_running", "_law_turn", "_law_way", "_law_one", "_law_two"] ["_law_state", "_law_nodes", "_law_size", "_law_most", "_law_is_free"] (defScope s__law_line) := ⟨rfl, rfl, rfl, by decide +kernel, rfl, by decide +kernel, by decide +kernel⟩
theorem ok_line {f : Addr} {fd : FuncData} (F : Fun K "_law_line" "_law_line" s__law_line f fd) (T : T0 mg) (HD : HDr P w K mg base) (HS : HasD P w K mg base CX0 3 "_law_shuffled" ["_law_state", "_law_some_here"] 2 t_shuffled)
    (HP : HasD P w K mg base CX0 3 "_law_pick" ["_law_state", "_law_some_here"] 2 t_pick) : FnG P w K mg base CX0 4 f fd ["_law_state", "_law_nodes", "_law_size", "_law_most", "_law_is_free"] (spD K 5 t_line) := by
  refine fun_d F sc_line (fun cdv A outer s H E gd hr => ⟨_, have hu := hu_of hr; (dss_cons (ds_par3 (i := 5) (j := 6) (l := 7) (by rfl) sc_line.nd rfl rfl rfl (by decide) (by decide) (by decide) rfl rfl rfl (da_cons (de_sliceO (K := K) true (de_callH [false, false] HS gd hr (by decide) (by rfl) pass0 (da_cons (dv 0) (da_cons (de_lst false (da_cons de_int (da_cons de_int (da_cons de_int (da_cons de_int (da_cons de_int (da_cons (de_un un_negD de_int) (da_cons (de_bin od_pow de_int de_int) (da_cons de_int da_nil))))))))) da_nil))) do_none (do_some (dv 3))) (da_cons (de_lst true da_nil) (da_cons (de_lst true da_nil) da_nil))) (by rfl))
      (dss_cons (ds_for PassesOwn.never rfl (di_range1 (by rfl) T.range_ (da_cons (dv 2) da_nil)) (dg_name (i := 8) sc_line.nd rfl (Or.inl rfl))
        (dss_cons (ds_set (i := 9) sc_line.nd rfl (Or.inl rfl) (de_callH [false, false] HD gd hr (by decide) (by rfl) pass0 (da_cons (dv 0) (da_cons de_int da_nil))))
          (dss_one (ds_if (dt_w (dw_and (dt_cmp od_lt (dv 9) de_int (nomark _)) (dw_and1 (dt_cmp (od_ne (K := K) hr) (dv 5) (de_lst false da_nil) (nomark _)))))
            (dss_cons (ds_asg (de_slice (K := K) (de_callH [false, false] HS gd hr (by decide) (by rfl) pass0 (da_cons (dv 0) (da_cons (dv 1) da_nil))) do_none (do_some de_int)) (dg_un (K := K) (by rfl) (dgs_name (i := 10) sc_line.nd rfl (Or.inl rfl) (dgs_name (i := 11) sc_line.nd rfl (Or.inl rfl) dgs_nil)) (dgsName_len (dgsName_len dgNil_len))))
              (dss_cons (ds_if (dt_w (dw_and (dt_val (dv 4)) (dw_and1 (dt_cmp od_gt (de_mth (K := K) PySem.F.plainAttrs_list PySem.F.slot_list_index PySem.F.type_list_index (md_index (K := K) (ix_room hr)) (dv 1) (da_cons (dv 10) da_nil)) (de_mth (K := K) PySem.F.plainAttrs_list PySem.F.slot_list_index PySem.F.type_list_index (md_index (K := K) (ix_room hr)) (dv 1) (da_cons (dv 11) da_nil)) (nomark _)))))
                (dss_one (ds_par (i := 10) (j := 11) (by rfl) sc_line.nd rfl rfl (by decide) rfl rfl (da_cons (dv 11) (da_cons (dv 10) da_nil)) (by rfl)))
                dss_nil)
              (dss_cons (ds_expr (de_lm (K := K) PySem.F.slot_list_append PySem.F.type_list_append lm_append (pv 7) (da_cons (de_lm0 (K := K) PySem.F.slot_list_pop PySem.F.type_list_pop lm_pop (pv 5)) da_nil)))
              (dss_one (ds_expr (de_lm (K := K) PySem.F.slot_list_append PySem.F.type_list_append lm_append (pv 6) (da_cons (de_tup (da_cons de_str (da_cons (de_sub (K := K) hu (dv 7) (de_un un_negD de_int) (fun _ _ => rfl)) (da_cons (de_callH [false, false] HP gd hr (by decide) (by rfl) pass0 (da_cons (dv 0) (da_cons (de_lst false (da_cons de_str (da_cons de_str (da_cons de_str da_nil)))) da_nil))) (da_cons (dv 10) (da_cons (dv 11) da_nil)))))) da_nil)))))))
            (dss_one (ds_if (dt_w (dw_and (dt_cmp (od_eq (K := K) hr) (dv 9) de_int (nomark _)) (dw_and1 (dt_cmp (od_ne (K := K) hr) (dv 7) (de_lst false da_nil) (nomark _)))))
                (dss_one (ds_expr (de_lm (K := K) PySem.F.slot_list_append PySem.F.type_list_append lm_append (pv 6) (da_cons (de_tup (da_cons de_str (da_cons (de_lm (K := K) PySem.F.slot_list_pop PySem.F.type_list_pop lm_popAt (pv 7) (da_cons (de_callH [false, false] HD gd hr (by decide) (by rfl) pass0 (da_cons (dv 0) (da_cons (de_callB (cd_len (K := K)) (by rfl) T.len_ (by decide +kernel) (da_cons (dv 7) da_nil)) da_nil))) da_nil)) da_nil))) da_nil))))
                (dss_one (ds_expr (de_lm (K := K) PySem.F.slot_list_append PySem.F.type_list_append lm_append (pv 6) (da_cons (de_tup (da_cons de_str (da_cons (de_callH [false, false] HP gd hr (by decide) (by rfl) pass0 (da_cons (dv 0) (da_cons (dv 1) da_nil))) da_nil))) da_nil))))))))))
      (dss_one (ds_ret (dtake false 6)))))⟩) fun args er q hl h => ?_

  obtain ⟨U, z, fr, rfl, nd, u2, u12, z0, z16, k⟩ := h
  simp only [dBody, dSeq, dNext, dBreak, dCont, dDrop, dRet, dRetN, dIfS, dAsg, dgName, dgNil, dgsName, dgsPut, dgUn, dPar, dPar3, dVar, dC, dTake, dFrz, mkS, dBin, dBinO, dTest, dTru, dUn, dIsN, isNonB, dAnd, dOr, dNot, dAndV, dOrV, dNotV, asB, dIf, cnd, dNil, dCons, dTup, dLst, dNewD, dSub, dSl, dSlO, dNoPart, dPart, dIsi, dCallB, dCallO, wds, sds, wd, sd, rsv, Sl.dat, stv, notPar, Sl.with_, dCall, dCallK, argC, arC, useS, kindsB, Ar.sl, cond, ownL, ownD, upS, dLM, dLM0, isOwnL, isOwnD, dPop1, dPop2, dGet1, dGet2, isDct, dDput, dLput, dLput.known, dFld, dMth, dMth0, tyOk, dChain, dAugI, List.map_cons, List.map_nil, List.cons_append, List.nil_append, List.append_nil, List.length_cons, List.length_nil, List.replicate, List.getElem?_cons_zero, List.getElem?_cons_succ, List.getElem?_nil, List.set_cons_zero, List.set_cons_succ, Option.getD_some, Option.getD_none, Nat.reduceAdd, Nat.reduceSub, dNever, dYes, Nat.zero_le, dLc, dG, dSeqI, dOwnI, dLcD, dctS, dDc, dDcD, dFor, dForD, dRng1, dRng2, dEnum, noPar, wipeD, eqW, neW, D.key, itemsOf, keysOf, valsOf, gdT, isTy, tyD, notIns, List.any_cons, List.any_nil, Bool.or_false, Bool.or_true, Bool.true_or, Bool.false_or, Bool.not_true, Bool.not_false, String.reduceBEq, beq_self_eq_true, true_and, and_true, selN, sel, List.filterMap_cons, List.filterMap_nil, backR, back1, cleanR, clean1, clnR, List.tail_cons, List.head?_cons, List.not_mem_nil, false_implies, implies_true, List.nodup_nil, List.nodup_cons, not_false_eq_true, Ev.len_lst, Ev.len_tup, Ev.len_dct, Ev.len_set, Ev.len_str, Ev.add_int, Ev.add_str, Ev.add_tup, Ev.add_lst, Ev.mul_int, Ev.mul_lst, Ev.sub_lst, Ev.sub_tup, Ev.sub_str, Ev.sub_dctI, Ev.sub_dctS, Ev.cut_lst, Ev.cut_tup, Ev.cutL_lst, Ev.in_lst, Ev.in_tup, Ev.in_dctI, Ev.in_dctS, Ev.wI0_int, Ev.wII_int, Ev.neg_int, Ev.index_lst, Ev.set_lst, Ev.set_tup, Ev.all_lst, Ev.any_lst, Ev.list_lst, Ev.list_tup, Ev.list_dct, Ev.repr_one, Ev.dict_lst, Ev.tup_lst, Ev.tup_tup, Ev.append_one, Ev.pop_none, Ev.popAt_one, Ev.clear_none, Ev.extend_one, Ev.remove_one, Ev.seq_lst, Ev.seq_tup, Ev.enum_lst, Ev.enum_tup, Ev.int1_int, Ev.int2_int, Ev.int_int, Ev.max_int, Ev.min_int, Ev.opt_some, Ev.tru_lst, Ev.tru_tup, Ev.tru_int, Ev.par_imm, Ev.par_own, Ev.par_no, Ev.par_drw]
  have e9 : ((10 : Int) ^ Int.toNat 9) = 1000000000 := by decide
  rw [e9]
  have ens : [D.int 0, D.int 1, D.int 2, D.int 3, D.int 9, D.int (-4), D.int 1000000000, D.int 77] = [0, 1, 2, 3, 9, -4, 1000000000, 77].map D.int := rfl
  rw [ens]
  clear ens
  have nd8 : [(0 : Int), 1, 2, 3, 9, -4, 1000000000, 77].Nodup := by decide
  have bd8 : ∀ m ∈ [(0 : Int), 1, 2, 3, 9, -4, 1000000000, 77], -10 ^ 9 ≤ m ∧ m ≤ 10 ^ 9 := by decide
  generalize hg : [(0 : Int), 1, 2, 3, 9, -4, 1000000000, 77] = ns8 at *
  have len8 : ns8.length = 8 := by rw [← hg]; rfl
  refine ⟨⟨by decide, by decide, by decide⟩, by decide, _, rfl, by rw [List.length_map]; omega, okD_ints _, fun ys ρ' pm => ?_⟩
  obtain ⟨ms, rfl, pm2⟩ := perm_ints pm
  simp only [dBody, dSeq, dNext, dBreak, dCont, dDrop, dRet, dRetN, dIfS, dAsg, dgName, dgNil, dgsName, dgsPut, dgUn, dPar, dPar3, dVar, dC, dTake, dFrz, mkS, dBin, dBinO, dTest, dTru, dUn, dIsN, isNonB, dAnd, dOr, dNot, dAndV, dOrV, dNotV, asB, dIf, cnd, dNil, dCons, dTup, dLst, dNewD, dSub, dSl, dSlO, dNoPart, dPart, dIsi, dCallB, dCallO, wds, sds, wd, sd, rsv, Sl.dat, stv, notPar, Sl.with_, dCall, dCallK, argC, arC, useS, kindsB, Ar.sl, cond, ownL, ownD, upS, dLM, dLM0, isOwnL, isOwnD, dPop1, dPop2, dGet1, dGet2, isDct, dDput, dLput, dLput.known, dFld, dMth, dMth0, tyOk, dChain, dAugI, List.map_cons, List.map_nil, List.cons_append, List.nil_append, List.append_nil, List.length_cons, List.length_nil, List.replicate, List.getElem?_cons_zero, List.getElem?_cons_succ, List.getElem?_nil, List.set_cons_zero, List.set_cons_succ, Option.getD_some, Option.getD_none, Nat.reduceAdd, Nat.reduceSub, dNever, dYes, Nat.zero_le, dLc, dG, dSeqI, dOwnI, dLcD, dctS, dDc, dDcD, dFor, dForD, dRng1, dRng2, dEnum, noPar, wipeD, eqW, neW, D.key, itemsOf, keysOf, valsOf, gdT, isTy, tyD, notIns, List.any_cons, List.any_nil, Bool.or_false, Bool.or_true, Bool.true_or, Bool.false_or, Bool.not_true, Bool.not_false, String.reduceBEq, beq_self_eq_true, true_and, and_true, selN, sel, List.filterMap_cons, List.filterMap_nil, backR, back1, cleanR, clean1, clnR, List.tail_cons, List.head?_cons, List.not_mem_nil, false_implies, implies_true, List.nodup_nil, List.nodup_cons, not_false_eq_true, Ev.len_lst, Ev.len_tup, Ev.len_dct, Ev.len_set, Ev.len_str, Ev.add_int, Ev.add_str, Ev.add_tup, Ev.add_lst, Ev.mul_int, Ev.mul_lst, Ev.sub_lst, Ev.sub_tup, Ev.sub_str, Ev.sub_dctI, Ev.sub_dctS, Ev.cut_lst, Ev.cut_tup, Ev.cutL_lst, Ev.in_lst, Ev.in_tup, Ev.in_dctI, Ev.in_dctS, Ev.wI0_int, Ev.wII_int, Ev.neg_int, Ev.index_lst, Ev.set_lst, Ev.set_tup, Ev.all_lst, Ev.any_lst, Ev.list_lst, Ev.list_tup, Ev.list_dct, Ev.repr_one, Ev.dict_lst, Ev.tup_lst, Ev.tup_tup, Ev.append_one, Ev.pop_none, Ev.popAt_one, Ev.clear_none, Ev.extend_one, Ev.remove_one, Ev.seq_lst, Ev.seq_tup, Ev.enum_lst, Ev.enum_tup, Ev.int1_int, Ev.int2_int, Ev.int_int, Ev.max_int, Ev.min_int, Ev.opt_some, Ev.tru_lst, Ev.tru_tup, Ev.tru_int, Ev.par_imm, Ev.par_own, Ev.par_no, Ev.par_drw]
  rw [cut_take (by decide), ← List.map_take, List.take_of_length_le (by rw [pm2.length_eq, len8]; decide)]
  refine ⟨by omega, by omega, ?_⟩
  refine for_ind (fun j ρ => ∃ (nsL rs : List Int) (l : List Ev) (x8 x9 x10 x11 : Sl), ρ = [.drw, .imm (.lst (U.map D.int)), .imm (.int z), .imm (.int 8), .imm (.bl fr), .own (.lst (nsL.map D.int)), .own (.lst (l.map Ev.d)), .own (.lst (rs.map D.int)), x8, x9, x10, x11] ∧
    (x8.isPar = false ∧ x9.isPar = false ∧ x10.isPar = false ∧ x11.isPar = false) ∧ nsL.Nodup ∧ (∀ n ∈ nsL, n ∉ begun l ∧ -10 ^ 9 ≤ n ∧ n ≤ 10 ^ 9) ∧ rs.Nodup ∧ (∀ n ∈ rs, (n ∈ begun l ∧ n ∉ ended l) ∧ -10 ^ 9 ≤ n ∧ n ≤ 10 ^ 9) ∧ Good l ∧ (∀ e ∈ l, smEv U e) ∧ l.length = j ∧ nsL.length ≤ 8 ∧ rs.length ≤ j) ?_ ?_ ?_
  · exact ⟨ms, [], [], _, _, _, _, rfl, ⟨rfl, rfl, rfl, rfl⟩, pm2.nodup_iff.mpr nd8, fun n hn => ⟨by simp [begun], bd8 n (pm2.subset hn)⟩, .nil, fun n hn => absurd hn List.not_mem_nil, .nil, fun e he => absurd he List.not_mem_nil, rfl, by rw [pm2.length_eq, len8]; decide, Nat.le_refl _⟩
  · rintro j d ρ N ed ⟨nsL, rs, l, x8, x9, x10, x11, rfl, ⟨p8, p9, p10, p11⟩, ndL, hL, ndR, hR, good, sm, lj, l8, r8⟩ hN
    have hj : j < 16 := by
      have := (List.getElem?_eq_some_iff.mp ed).1
      rw [List.length_map, List.length_range] at this
      omega
    simp only [dBody, dSeq, dNext, dBreak, dCont, dDrop, dRet, dRetN, dIfS, dAsg, dgName, dgNil, dgsName, dgsPut, dgUn, dPar, dPar3, dVar, dC, dTake, dFrz, mkS, dBin, dBinO, dTest, dTru, dUn, dIsN, isNonB, dAnd, dOr, dNot, dAndV, dOrV, dNotV, asB, dIf, cnd, dNil, dCons, dTup, dLst, dNewD, dSub, dSl, dSlO, dNoPart, dPart, dIsi, dCallB, dCallO, wds, sds, wd, sd, rsv, Sl.dat, stv, notPar, Sl.with_, dCall, dCallK, argC, arC, useS, kindsB, Ar.sl, cond, ownL, ownD, upS, dLM, dLM0, isOwnL, isOwnD, dPop1, dPop2, dGet1, dGet2, isDct, dDput, dLput, dLput.known, dFld, dMth, dMth0, tyOk, dChain, dAugI, List.map_cons, List.map_nil, List.cons_append, List.nil_append, List.append_nil, List.length_cons, List.length_nil, List.replicate, List.getElem?_cons_zero, List.getElem?_cons_succ, List.getElem?_nil, List.set_cons_zero, List.set_cons_succ, Option.getD_some, Option.getD_none, Nat.reduceAdd, Nat.reduceSub, dNever, dYes, Nat.zero_le, dLc, dG, dSeqI, dOwnI, dLcD, dctS, dDc, dDcD, dFor, dForD, dRng1, dRng2, dEnum, noPar, wipeD, eqW, neW, D.key, itemsOf, keysOf, valsOf, gdT, isTy, tyD, notIns, List.any_cons, List.any_nil, Bool.or_false, Bool.or_true, Bool.true_or, Bool.false_or, Bool.not_true, Bool.not_false, String.reduceBEq, beq_self_eq_true, true_and, and_true, selN, sel, List.filterMap_cons, List.filterMap_nil, backR, back1, cleanR, clean1, clnR, List.tail_cons, List.head?_cons, List.not_mem_nil, false_implies, implies_true, List.nodup_nil, List.nodup_cons, not_false_eq_true, Ev.len_lst, Ev.len_tup, Ev.len_dct, Ev.len_set, Ev.len_str, Ev.add_int, Ev.add_str, Ev.add_tup, Ev.add_lst, Ev.mul_int, Ev.mul_lst, Ev.sub_lst, Ev.sub_tup, Ev.sub_str, Ev.sub_dctI, Ev.sub_dctS, Ev.cut_lst, Ev.cut_tup, Ev.cutL_lst, Ev.in_lst, Ev.in_tup, Ev.in_dctI, Ev.in_dctS, Ev.wI0_int, Ev.wII_int, Ev.neg_int, Ev.index_lst, Ev.set_lst, Ev.set_tup, Ev.all_lst, Ev.any_lst, Ev.list_lst, Ev.list_tup, Ev.list_dct, Ev.repr_one, Ev.dict_lst, Ev.tup_lst, Ev.tup_tup, Ev.append_one, Ev.pop_none, Ev.popAt_one, Ev.clear_none, Ev.extend_one, Ev.remove_one, Ev.seq_lst, Ev.seq_tup, Ev.enum_lst, Ev.enum_tup, Ev.int1_int, Ev.int2_int, Ev.int_int, Ev.max_int, Ev.min_int, Ev.opt_some, Ev.tru_lst, Ev.tru_tup, Ev.tru_int, Ev.par_imm, Ev.par_own, Ev.par_no, Ev.par_drw]
    refine ⟨p8, 6, rfl, by decide, by decide, fun way ρ' w0 w1 => ?_⟩
    simp only [dBody, dSeq, dNext, dBreak, dCont, dDrop, dRet, dRetN, dIfS, dAsg, dgName, dgNil, dgsName, dgsPut, dgUn, dPar, dPar3, dVar, dC, dTake, dFrz, mkS, dBin, dBinO, dTest, dTru, dUn, dIsN, isNonB, dAnd, dOr, dNot, dAndV, dOrV, dNotV, asB, dIf, cnd, dNil, dCons, dTup, dLst, dNewD, dSub, dSl, dSlO, dNoPart, dPart, dIsi, dCallB, dCallO, wds, sds, wd, sd, rsv, Sl.dat, stv, notPar, Sl.with_, dCall, dCallK, argC, arC, useS, kindsB, Ar.sl, cond, ownL, ownD, upS, dLM, dLM0, isOwnL, isOwnD, dPop1, dPop2, dGet1, dGet2, isDct, dDput, dLput, dLput.known, dFld, dMth, dMth0, tyOk, dChain, dAugI, List.map_cons, List.map_nil, List.cons_append, List.nil_append, List.append_nil, List.length_cons, List.length_nil, List.replicate, List.getElem?_cons_zero, List.getElem?_cons_succ, List.getElem?_nil, List.set_cons_zero, List.set_cons_succ, Option.getD_some, Option.getD_none, Nat.reduceAdd, Nat.reduceSub, dNever, dYes, Nat.zero_le, dLc, dG, dSeqI, dOwnI, dLcD, dctS, dDc, dDcD, dFor, dForD, dRng1, dRng2, dEnum, noPar, wipeD, eqW, neW, D.key, itemsOf, keysOf, valsOf, gdT, isTy, tyD, notIns, List.any_cons, List.any_nil, Bool.or_false, Bool.or_true, Bool.true_or, Bool.false_or, Bool.not_true, Bool.not_false, String.reduceBEq, beq_self_eq_true, true_and, and_true, selN, sel, List.filterMap_cons, List.filterMap_nil, backR, back1, cleanR, clean1, clnR, List.tail_cons, List.head?_cons, List.not_mem_nil, false_implies, implies_true, List.nodup_nil, List.nodup_cons, not_false_eq_true, Ev.len_lst, Ev.len_tup, Ev.len_dct, Ev.len_set, Ev.len_str, Ev.add_int, Ev.add_str, Ev.add_tup, Ev.add_lst, Ev.mul_int, Ev.mul_lst, Ev.sub_lst, Ev.sub_tup, Ev.sub_str, Ev.sub_dctI, Ev.sub_dctS, Ev.cut_lst, Ev.cut_tup, Ev.cutL_lst, Ev.in_lst, Ev.in_tup, Ev.in_dctI, Ev.in_dctS, Ev.wI0_int, Ev.wII_int, Ev.neg_int, Ev.index_lst, Ev.set_lst, Ev.set_tup, Ev.all_lst, Ev.any_lst, Ev.list_lst, Ev.list_tup, Ev.list_dct, Ev.repr_one, Ev.dict_lst, Ev.tup_lst, Ev.tup_tup, Ev.append_one, Ev.pop_none, Ev.popAt_one, Ev.clear_none, Ev.extend_one, Ev.remove_one, Ev.seq_lst, Ev.seq_tup, Ev.enum_lst, Ev.enum_tup, Ev.int1_int, Ev.int2_int, Ev.int_int, Ev.max_int, Ev.min_int, Ev.opt_some, Ev.tru_lst, Ev.tru_tup, Ev.tru_int, Ev.par_imm, Ev.par_own, Ev.par_no, Ev.par_drw]
    refine ⟨p9, ?_⟩
    have few : (l.map Ev.d).length < sizeLine := by rw [List.length_map]; exact small1000 (by omega)
    have fewR : (rs.map D.int).length < sizeLine := by rw [List.length_map]; exact small1000 (by omega)
    by_cases wl : way < 3
    · rw [decide_eq_true wl]
      simp only
      refine ⟨okD_ints _, okD_nil, ?_⟩
      rw [deq_nil]
      by_cases nz : nsL = []
      · have : (!(nsL.map D.int).isEmpty) = false := by simp [nz]
        rw [this]
        simp only
        by_cases wz : way = 3
        · refine ⟨ok_int _, ok_int _, ?_⟩
          rw [deq_int, decide_eq_true wz]
          simp only
          refine ⟨okD_ints _, okD_nil, ?_⟩
          rw [deq_nil]
          by_cases rz : rs = []
          · have : (!(rs.map D.int).isEmpty) = false := by simp [rz]
            rw [this]
            simp only
            refine ⟨_, rfl, by rw [List.length_map]; omega, by rw [List.length_map]; omega, fun a ρ' ha => ?_⟩
            obtain ⟨x, hx, rfl⟩ := List.mem_map.mp ha
            simp only [dBody, dSeq, dNext, dBreak, dCont, dDrop, dRet, dRetN, dIfS, dAsg, dgName, dgNil, dgsName, dgsPut, dgUn, dPar, dPar3, dVar, dC, dTake, dFrz, mkS, dBin, dBinO, dTest, dTru, dUn, dIsN, isNonB, dAnd, dOr, dNot, dAndV, dOrV, dNotV, asB, dIf, cnd, dNil, dCons, dTup, dLst, dNewD, dSub, dSl, dSlO, dNoPart, dPart, dIsi, dCallB, dCallO, wds, sds, wd, sd, rsv, Sl.dat, stv, notPar, Sl.with_, dCall, dCallK, argC, arC, useS, kindsB, Ar.sl, cond, ownL, ownD, upS, dLM, dLM0, isOwnL, isOwnD, dPop1, dPop2, dGet1, dGet2, isDct, dDput, dLput, dLput.known, dFld, dMth, dMth0, tyOk, dChain, dAugI, List.map_cons, List.map_nil, List.cons_append, List.nil_append, List.append_nil, List.length_cons, List.length_nil, List.replicate, List.getElem?_cons_zero, List.getElem?_cons_succ, List.getElem?_nil, List.set_cons_zero, List.set_cons_succ, Option.getD_some, Option.getD_none, Nat.reduceAdd, Nat.reduceSub, dNever, dYes, Nat.zero_le, dLc, dG, dSeqI, dOwnI, dLcD, dctS, dDc, dDcD, dFor, dForD, dRng1, dRng2, dEnum, noPar, wipeD, eqW, neW, D.key, itemsOf, keysOf, valsOf, gdT, isTy, tyD, notIns, List.any_cons, List.any_nil, Bool.or_false, Bool.or_true, Bool.true_or, Bool.false_or, Bool.not_true, Bool.not_false, String.reduceBEq, beq_self_eq_true, true_and, and_true, selN, sel, List.filterMap_cons, List.filterMap_nil, backR, back1, cleanR, clean1, clnR, List.tail_cons, List.head?_cons, List.not_mem_nil, false_implies, implies_true, List.nodup_nil, List.nodup_cons, not_false_eq_true, Ev.len_lst, Ev.len_tup, Ev.len_dct, Ev.len_set, Ev.len_str, Ev.add_int, Ev.add_str, Ev.add_tup, Ev.add_lst, Ev.mul_int, Ev.mul_lst, Ev.sub_lst, Ev.sub_tup, Ev.sub_str, Ev.sub_dctI, Ev.sub_dctS, Ev.cut_lst, Ev.cut_tup, Ev.cutL_lst, Ev.in_lst, Ev.in_tup, Ev.in_dctI, Ev.in_dctS, Ev.wI0_int, Ev.wII_int, Ev.neg_int, Ev.index_lst, Ev.set_lst, Ev.set_tup, Ev.all_lst, Ev.any_lst, Ev.list_lst, Ev.list_tup, Ev.list_dct, Ev.repr_one, Ev.dict_lst, Ev.tup_lst, Ev.tup_tup, Ev.append_one, Ev.pop_none, Ev.popAt_one, Ev.clear_none, Ev.extend_one, Ev.remove_one, Ev.seq_lst, Ev.seq_tup, Ev.enum_lst, Ev.enum_tup, Ev.int1_int, Ev.int2_int, Ev.int_int, Ev.max_int, Ev.min_int, Ev.opt_some, Ev.tru_lst, Ev.tru_tup, Ev.tru_int, Ev.par_imm, Ev.par_own, Ev.par_no, Ev.par_drw]
            refine ⟨by decide, few, hN _ ⟨nsL, rs, l ++ [.vis x], _, _, _, _, by rw [List.map_append]; rfl, ⟨rfl, rfl, p10, p11⟩, ndL, fun n hn => ?_, ndR, fun n hn => ?_, good.snoc (e := .vis x) True.intro, fun e he => ?_, by rw [List.length_append, lj]; rfl, l8, by omega⟩⟩
            · rw [begun_snoc]
              exact ⟨by simpa [begun] using (hL n hn).1, (hL n hn).2⟩
            · rw [begun_snoc, ended_snoc]
              exact ⟨⟨List.mem_append_left _ (hR n hn).1.1, by simpa [ended] using (hR n hn).1.2⟩, (hR n hn).2⟩
            · rcases List.mem_append.mp he with he | he
              · exact sm e he
              · rw [List.mem_singleton.mp he]; exact hx
          · have : (!(rs.map D.int).isEmpty) = true := by simp [rz]
            rw [this]
            simp only
            have rpos : 0 < rs.length := List.length_pos_iff.mpr rz
            refine ⟨_, rfl, by rw [List.length_map]; omega, by rw [List.length_map]; omega, fun at_ ρ' a0 a1 => ?_⟩
            simp only [dBody, dSeq, dNext, dBreak, dCont, dDrop, dRet, dRetN, dIfS, dAsg, dgName, dgNil, dgsName, dgsPut, dgUn, dPar, dPar3, dVar, dC, dTake, dFrz, mkS, dBin, dBinO, dTest, dTru, dUn, dIsN, isNonB, dAnd, dOr, dNot, dAndV, dOrV, dNotV, asB, dIf, cnd, dNil, dCons, dTup, dLst, dNewD, dSub, dSl, dSlO, dNoPart, dPart, dIsi, dCallB, dCallO, wds, sds, wd, sd, rsv, Sl.dat, stv, notPar, Sl.with_, dCall, dCallK, argC, arC, useS, kindsB, Ar.sl, cond, ownL, ownD, upS, dLM, dLM0, isOwnL, isOwnD, dPop1, dPop2, dGet1, dGet2, isDct, dDput, dLput, dLput.known, dFld, dMth, dMth0, tyOk, dChain, dAugI, List.map_cons, List.map_nil, List.cons_append, List.nil_append, List.append_nil, List.length_cons, List.length_nil, List.replicate, List.getElem?_cons_zero, List.getElem?_cons_succ, List.getElem?_nil, List.set_cons_zero, List.set_cons_succ, Option.getD_some, Option.getD_none, Nat.reduceAdd, Nat.reduceSub, dNever, dYes, Nat.zero_le, dLc, dG, dSeqI, dOwnI, dLcD, dctS, dDc, dDcD, dFor, dForD, dRng1, dRng2, dEnum, noPar, wipeD, eqW, neW, D.key, itemsOf, keysOf, valsOf, gdT, isTy, tyD, notIns, List.any_cons, List.any_nil, Bool.or_false, Bool.or_true, Bool.true_or, Bool.false_or, Bool.not_true, Bool.not_false, String.reduceBEq, beq_self_eq_true, true_and, and_true, selN, sel, List.filterMap_cons, List.filterMap_nil, backR, back1, cleanR, clean1, clnR, List.tail_cons, List.head?_cons, List.not_mem_nil, false_implies, implies_true, List.nodup_nil, List.nodup_cons, not_false_eq_true, Ev.len_lst, Ev.len_tup, Ev.len_dct, Ev.len_set, Ev.len_str, Ev.add_int, Ev.add_str, Ev.add_tup, Ev.add_lst, Ev.mul_int, Ev.mul_lst, Ev.sub_lst, Ev.sub_tup, Ev.sub_str, Ev.sub_dctI, Ev.sub_dctS, Ev.cut_lst, Ev.cut_tup, Ev.cutL_lst, Ev.in_lst, Ev.in_tup, Ev.in_dctI, Ev.in_dctS, Ev.wI0_int, Ev.wII_int, Ev.neg_int, Ev.index_lst, Ev.set_lst, Ev.set_tup, Ev.all_lst, Ev.any_lst, Ev.list_lst, Ev.list_tup, Ev.list_dct, Ev.repr_one, Ev.dict_lst, Ev.tup_lst, Ev.tup_tup, Ev.append_one, Ev.pop_none, Ev.popAt_one, Ev.clear_none, Ev.extend_one, Ev.remove_one, Ev.seq_lst, Ev.seq_tup, Ev.enum_lst, Ev.enum_tup, Ev.int1_int, Ev.int2_int, Ev.int_int, Ev.max_int, Ev.min_int, Ev.opt_some, Ev.tru_lst, Ev.tru_tup, Ev.tru_int, Ev.par_imm, Ev.par_own, Ev.par_no, Ev.par_drw]
            rw [List.length_map] at a1
            have lt : at_.toNat < rs.length := by omega
            rw [List.getElem?_map, List.getElem?_eq_getElem lt]
            simp only [Option.map_some, Ev.opt_some]
            have hn := hR rs[at_.toNat] (List.getElem_mem lt)
            have pe := eraseIdx_perm lt
            refine ⟨a0, by omega, by decide, few, hN _ ⟨nsL, rs.eraseIdx at_.toNat, l ++ [.fin rs[at_.toNat]], _, _, _, _, by rw [List.map_append, ← map_eraseIdx]; rfl, ⟨rfl, rfl, p10, p11⟩, ndL, fun n hn' => ?_, (List.nodup_cons.mp (pe.nodup_iff.mpr ndR)).2, fun n hn' => ?_, good.snoc (e := .fin rs[at_.toNat]) hn.1, fun e he => ?_, by rw [List.length_append, lj]; rfl, l8, by have := List.length_eraseIdx_le rs at_.toNat; omega⟩⟩
            · rw [begun_snoc]
              exact ⟨by simpa [begun] using (hL n hn').1, (hL n hn').2⟩
            · have hm : n ∈ rs := pe.subset (List.mem_cons_of_mem _ hn')
              have ne : n ≠ rs[at_.toNat] := fun z => (List.nodup_cons.mp (pe.nodup_iff.mpr ndR)).1 (z ▸ hn')
              rw [begun_snoc, ended_snoc]
              refine ⟨⟨List.mem_append_left _ (hR n hm).1.1, fun z => ?_⟩, (hR n hm).2⟩
              rcases List.mem_append.mp z with z | z
              · exact (hR n hm).1.2 z
              · simp [ended] at z
                exact ne z
            · rcases List.mem_append.mp he with he | he
              · exact sm e he
              · rw [List.mem_singleton.mp he]; exact hn.2
        · refine ⟨ok_int _, ok_int _, ?_⟩
          rw [deq_int, decide_eq_false wz]
          simp only
          refine ⟨_, rfl, by rw [List.length_map]; omega, by rw [List.length_map]; omega, fun a ρ' ha => ?_⟩
          obtain ⟨x, hx, rfl⟩ := List.mem_map.mp ha
          simp only [dBody, dSeq, dNext, dBreak, dCont, dDrop, dRet, dRetN, dIfS, dAsg, dgName, dgNil, dgsName, dgsPut, dgUn, dPar, dPar3, dVar, dC, dTake, dFrz, mkS, dBin, dBinO, dTest, dTru, dUn, dIsN, isNonB, dAnd, dOr, dNot, dAndV, dOrV, dNotV, asB, dIf, cnd, dNil, dCons, dTup, dLst, dNewD, dSub, dSl, dSlO, dNoPart, dPart, dIsi, dCallB, dCallO, wds, sds, wd, sd, rsv, Sl.dat, stv, notPar, Sl.with_, dCall, dCallK, argC, arC, useS, kindsB, Ar.sl, cond, ownL, ownD, upS, dLM, dLM0, isOwnL, isOwnD, dPop1, dPop2, dGet1, dGet2, isDct, dDput, dLput, dLput.known, dFld, dMth, dMth0, tyOk, dChain, dAugI, List.map_cons, List.map_nil, List.cons_append, List.nil_append, List.append_nil, List.length_cons, List.length_nil, List.replicate, List.getElem?_cons_zero, List.getElem?_cons_succ, List.getElem?_nil, List.set_cons_zero, List.set_cons_succ, Option.getD_some, Option.getD_none, Nat.reduceAdd, Nat.reduceSub, dNever, dYes, Nat.zero_le, dLc, dG, dSeqI, dOwnI, dLcD, dctS, dDc, dDcD, dFor, dForD, dRng1, dRng2, dEnum, noPar, wipeD, eqW, neW, D.key, itemsOf, keysOf, valsOf, gdT, isTy, tyD, notIns, List.any_cons, List.any_nil, Bool.or_false, Bool.or_true, Bool.true_or, Bool.false_or, Bool.not_true, Bool.not_false, String.reduceBEq, beq_self_eq_true, true_and, and_true, selN, sel, List.filterMap_cons, List.filterMap_nil, backR, back1, cleanR, clean1, clnR, List.tail_cons, List.head?_cons, List.not_mem_nil, false_implies, implies_true, List.nodup_nil, List.nodup_cons, not_false_eq_true, Ev.len_lst, Ev.len_tup, Ev.len_dct, Ev.len_set, Ev.len_str, Ev.add_int, Ev.add_str, Ev.add_tup, Ev.add_lst, Ev.mul_int, Ev.mul_lst, Ev.sub_lst, Ev.sub_tup, Ev.sub_str, Ev.sub_dctI, Ev.sub_dctS, Ev.cut_lst, Ev.cut_tup, Ev.cutL_lst, Ev.in_lst, Ev.in_tup, Ev.in_dctI, Ev.in_dctS, Ev.wI0_int, Ev.wII_int, Ev.neg_int, Ev.index_lst, Ev.set_lst, Ev.set_tup, Ev.all_lst, Ev.any_lst, Ev.list_lst, Ev.list_tup, Ev.list_dct, Ev.repr_one, Ev.dict_lst, Ev.tup_lst, Ev.tup_tup, Ev.append_one, Ev.pop_none, Ev.popAt_one, Ev.clear_none, Ev.extend_one, Ev.remove_one, Ev.seq_lst, Ev.seq_tup, Ev.enum_lst, Ev.enum_tup, Ev.int1_int, Ev.int2_int, Ev.int_int, Ev.max_int, Ev.min_int, Ev.opt_some, Ev.tru_lst, Ev.tru_tup, Ev.tru_int, Ev.par_imm, Ev.par_own, Ev.par_no, Ev.par_drw]
          refine ⟨by decide, few, hN _ ⟨nsL, rs, l ++ [.vis x], _, _, _, _, by rw [List.map_append]; rfl, ⟨rfl, rfl, p10, p11⟩, ndL, fun n hn => ?_, ndR, fun n hn => ?_, good.snoc (e := .vis x) True.intro, fun e he => ?_, by rw [List.length_append, lj]; rfl, l8, by omega⟩⟩
          · rw [begun_snoc]
            exact ⟨by simpa [begun] using (hL n hn).1, (hL n hn).2⟩
          · rw [begun_snoc, ended_snoc]
            exact ⟨⟨List.mem_append_left _ (hR n hn).1.1, by simpa [ended] using (hR n hn).1.2⟩, (hR n hn).2⟩
          · rcases List.mem_append.mp he with he | he
            · exact sm e he
            · rw [List.mem_singleton.mp he]; exact hx

      · have : (!(nsL.map D.int).isEmpty) = true := by simp [nz]
        rw [this]
        simp only
        obtain ⟨nsI, n, rfl⟩ := ends_some nz
        refine ⟨_, rfl, by rw [List.length_map]; omega, okD_ints _, fun ys ρ' pmU => ?_⟩
        obtain ⟨mu, rfl, pu⟩ := perm_ints pmU
        have lu := pu.length_eq
        obtain ⟨a, b, rest, rfl⟩ : ∃ a b rest, mu = a :: b :: rest := by
          match mu, lu with
          | [], e => simp at e; omega
          | [_], e => simp at e; omega
          | a :: b :: rest, _ => exact ⟨a, b, rest, rfl⟩
        have ha : a ∈ U := pu.subset List.mem_cons_self
        have hb : b ∈ U := pu.subset (List.mem_cons_of_mem _ List.mem_cons_self)
        have nab : a ≠ b := fun z => (List.nodup_cons.mp (pu.nodup_iff.mpr nd)).1 (z ▸ List.mem_cons_self)
        simp only [dBody, dSeq, dNext, dBreak, dCont, dDrop, dRet, dRetN, dIfS, dAsg, dgName, dgNil, dgsName, dgsPut, dgUn, dPar, dPar3, dVar, dC, dTake, dFrz, mkS, dBin, dBinO, dTest, dTru, dUn, dIsN, isNonB, dAnd, dOr, dNot, dAndV, dOrV, dNotV, asB, dIf, cnd, dNil, dCons, dTup, dLst, dNewD, dSub, dSl, dSlO, dNoPart, dPart, dIsi, dCallB, dCallO, wds, sds, wd, sd, rsv, Sl.dat, stv, notPar, Sl.with_, dCall, dCallK, argC, arC, useS, kindsB, Ar.sl, cond, ownL, ownD, upS, dLM, dLM0, isOwnL, isOwnD, dPop1, dPop2, dGet1, dGet2, isDct, dDput, dLput, dLput.known, dFld, dMth, dMth0, tyOk, dChain, dAugI, List.map_cons, List.map_nil, List.cons_append, List.nil_append, List.append_nil, List.length_cons, List.length_nil, List.replicate, List.getElem?_cons_zero, List.getElem?_cons_succ, List.getElem?_nil, List.set_cons_zero, List.set_cons_succ, Option.getD_some, Option.getD_none, Nat.reduceAdd, Nat.reduceSub, dNever, dYes, Nat.zero_le, dLc, dG, dSeqI, dOwnI, dLcD, dctS, dDc, dDcD, dFor, dForD, dRng1, dRng2, dEnum, noPar, wipeD, eqW, neW, D.key, itemsOf, keysOf, valsOf, gdT, isTy, tyD, notIns, List.any_cons, List.any_nil, Bool.or_false, Bool.or_true, Bool.true_or, Bool.false_or, Bool.not_true, Bool.not_false, String.reduceBEq, beq_self_eq_true, true_and, and_true, selN, sel, List.filterMap_cons, List.filterMap_nil, backR, back1, cleanR, clean1, clnR, List.tail_cons, List.head?_cons, List.not_mem_nil, false_implies, implies_true, List.nodup_nil, List.nodup_cons, not_false_eq_true, Ev.len_lst, Ev.len_tup, Ev.len_dct, Ev.len_set, Ev.len_str, Ev.add_int, Ev.add_str, Ev.add_tup, Ev.add_lst, Ev.mul_int, Ev.mul_lst, Ev.sub_lst, Ev.sub_tup, Ev.sub_str, Ev.sub_dctI, Ev.sub_dctS, Ev.cut_lst, Ev.cut_tup, Ev.cutL_lst, Ev.in_lst, Ev.in_tup, Ev.in_dctI, Ev.in_dctS, Ev.wI0_int, Ev.wII_int, Ev.neg_int, Ev.index_lst, Ev.set_lst, Ev.set_tup, Ev.all_lst, Ev.any_lst, Ev.list_lst, Ev.list_tup, Ev.list_dct, Ev.repr_one, Ev.dict_lst, Ev.tup_lst, Ev.tup_tup, Ev.append_one, Ev.pop_none, Ev.popAt_one, Ev.clear_none, Ev.extend_one, Ev.remove_one, Ev.seq_lst, Ev.seq_tup, Ev.enum_lst, Ev.enum_tup, Ev.int1_int, Ev.int2_int, Ev.int_int, Ev.max_int, Ev.min_int, Ev.opt_some, Ev.tru_lst, Ev.tru_tup, Ev.tru_int, Ev.par_imm, Ev.par_own, Ev.par_no, Ev.par_drw]
        rw [cut_take (by decide)]
        have tk : ((2 : Int).toNat) = 2 := rfl
        simp only [tk, List.take_succ_cons, List.take_zero]
        refine ⟨p10, p11, ?_⟩
        cases fr with
        | false =>
          simp only
          rw [last_some, drop_last]
          simp only [Ev.opt_some]
          refine ⟨fewR, ?_⟩
          rw [atI_last]
          simp only [Ev.opt_some]
          refine ⟨by decide, _, rfl, by decide, by decide, fun kd ρ' hk => ?_⟩
          have kk : kd = .str (kdS true) ∨ kd = .str (kdS false) := by
            simpa [List.mem_cons, kdS] using hk
          have nn := hL n (List.mem_append_right _ (List.mem_singleton.mpr rfl))
          have nI : n ∉ nsI := fun z => (List.nodup_append.mp ndL).2.2 n z n (List.mem_singleton.mpr rfl) rfl
          have fin_ : ∀ (mv : Bool) (s t : Int), s ∈ U → t ∈ U → s ≠ t → ∃ (nsL' rs' : List Int) (l' : List Ev), (nsL'.map D.int = nsI.map D.int ∧ l'.map Ev.d = l.map Ev.d ++ [(Ev.beg n mv s t).d] ∧ rs'.map D.int = rs.map D.int ++ [.int n]) ∧ nsL'.Nodup ∧ (∀ n ∈ nsL', n ∉ begun l' ∧ -10 ^ 9 ≤ n ∧ n ≤ 10 ^ 9) ∧ rs'.Nodup ∧ (∀ n ∈ rs', (n ∈ begun l' ∧ n ∉ ended l') ∧ -10 ^ 9 ≤ n ∧ n ≤ 10 ^ 9) ∧ Good l' ∧ (∀ e ∈ l', smEv U e) ∧ l'.length = j + 1 ∧ nsL'.length ≤ 8 ∧ rs'.length ≤ j + 1 := by
            intro mv s t hs ht ne
            refine ⟨nsI, rs ++ [n], l ++ [.beg n mv s t], ⟨rfl, by rw [List.map_append]; rfl, by rw [List.map_append]; rfl⟩, (List.nodup_append.mp ndL).1, fun m hm => ?_, ?_, fun m hm => ?_, good.snoc (e := .beg n mv s t) ⟨nn.1, ne⟩, fun e he => ?_, by rw [List.length_append, lj]; rfl, by rw [List.length_append] at l8; omega, by rw [List.length_append]; show rs.length + 1 ≤ _; omega⟩
            · have := hL m (List.mem_append_left _ hm)
              rw [begun_snoc]
              refine ⟨fun z => ?_, this.2⟩
              rcases List.mem_append.mp z with z | z
              · exact this.1 z
              · simp [begun] at z
                exact nI (z ▸ hm)
            · refine List.nodup_append.mpr ⟨ndR, by simp, fun a ha b hb z => ?_⟩
              rw [List.mem_singleton] at hb
              subst z hb
              exact nn.1 (hR _ ha).1.1
            · rw [begun_snoc, ended_snoc]
              rcases List.mem_append.mp hm with hm | hm
              · exact ⟨⟨List.mem_append_left _ (hR m hm).1.1, by simpa [ended] using (hR m hm).1.2⟩, (hR m hm).2⟩
              · rw [List.mem_singleton.mp hm]
                refine ⟨⟨List.mem_append_right _ (by simp [begun]), fun z => ?_⟩, nn.2⟩
                rcases List.mem_append.mp z with z | z
                · exact nn.1 (ended_begun good n z)
                · simp [ended] at z
            · rcases List.mem_append.mp he with he | he
              · exact sm e he
              · rw [List.mem_singleton.mp he]; exact ⟨nn.2, hs, ht⟩
          simp only [dBody, dSeq, dNext, dBreak, dCont, dDrop, dRet, dRetN, dIfS, dAsg, dgName, dgNil, dgsName, dgsPut, dgUn, dPar, dPar3, dVar, dC, dTake, dFrz, mkS, dBin, dBinO, dTest, dTru, dUn, dIsN, isNonB, dAnd, dOr, dNot, dAndV, dOrV, dNotV, asB, dIf, cnd, dNil, dCons, dTup, dLst, dNewD, dSub, dSl, dSlO, dNoPart, dPart, dIsi, dCallB, dCallO, wds, sds, wd, sd, rsv, Sl.dat, stv, notPar, Sl.with_, dCall, dCallK, argC, arC, useS, kindsB, Ar.sl, cond, ownL, ownD, upS, dLM, dLM0, isOwnL, isOwnD, dPop1, dPop2, dGet1, dGet2, isDct, dDput, dLput, dLput.known, dFld, dMth, dMth0, tyOk, dChain, dAugI, List.map_cons, List.map_nil, List.cons_append, List.nil_append, List.append_nil, List.length_cons, List.length_nil, List.replicate, List.getElem?_cons_zero, List.getElem?_cons_succ, List.getElem?_nil, List.set_cons_zero, List.set_cons_succ, Option.getD_some, Option.getD_none, Nat.reduceAdd, Nat.reduceSub, dNever, dYes, Nat.zero_le, dLc, dG, dSeqI, dOwnI, dLcD, dctS, dDc, dDcD, dFor, dForD, dRng1, dRng2, dEnum, noPar, wipeD, eqW, neW, D.key, itemsOf, keysOf, valsOf, gdT, isTy, tyD, notIns, List.any_cons, List.any_nil, Bool.or_false, Bool.or_true, Bool.true_or, Bool.false_or, Bool.not_true, Bool.not_false, String.reduceBEq, beq_self_eq_true, true_and, and_true, selN, sel, List.filterMap_cons, List.filterMap_nil, backR, back1, cleanR, clean1, clnR, List.tail_cons, List.head?_cons, List.not_mem_nil, false_implies, implies_true, List.nodup_nil, List.nodup_cons, not_false_eq_true, Ev.len_lst, Ev.len_tup, Ev.len_dct, Ev.len_set, Ev.len_str, Ev.add_int, Ev.add_str, Ev.add_tup, Ev.add_lst, Ev.mul_int, Ev.mul_lst, Ev.sub_lst, Ev.sub_tup, Ev.sub_str, Ev.sub_dctI, Ev.sub_dctS, Ev.cut_lst, Ev.cut_tup, Ev.cutL_lst, Ev.in_lst, Ev.in_tup, Ev.in_dctI, Ev.in_dctS, Ev.wI0_int, Ev.wII_int, Ev.neg_int, Ev.index_lst, Ev.set_lst, Ev.set_tup, Ev.all_lst, Ev.any_lst, Ev.list_lst, Ev.list_tup, Ev.list_dct, Ev.repr_one, Ev.dict_lst, Ev.tup_lst, Ev.tup_tup, Ev.append_one, Ev.pop_none, Ev.popAt_one, Ev.clear_none, Ev.extend_one, Ev.remove_one, Ev.seq_lst, Ev.seq_tup, Ev.enum_lst, Ev.enum_tup, Ev.int1_int, Ev.int2_int, Ev.int_int, Ev.max_int, Ev.min_int, Ev.opt_some, Ev.tru_lst, Ev.tru_tup, Ev.tru_int, Ev.par_imm, Ev.par_own, Ev.par_no, Ev.par_drw]
          refine ⟨by decide, few, ?_⟩
          rcases kk with rfl | rfl
          · obtain ⟨nsL', rs', l', ⟨e1, e2, e3⟩, rest⟩ := fin_ true a b ha hb nab
            exact hN _ ⟨nsL', rs', l', _, _, _, _, by rw [e1, e2, e3]; rfl, ⟨rfl, rfl, rfl, rfl⟩, rest⟩
          · obtain ⟨nsL', rs', l', ⟨e1, e2, e3⟩, rest⟩ := fin_ false a b ha hb nab
            exact hN _ ⟨nsL', rs', l', _, _, _, _, by rw [e1, e2, e3]; rfl, ⟨rfl, rfl, rfl, rfl⟩, rest⟩

        | true =>
          simp only
          obtain ⟨j1, e1⟩ := idx_some ha
          obtain ⟨j2, e2⟩ := idx_some hb
          refine ⟨okD_ints _, ok_int _, ?_⟩
          rw [e1]
          simp only [Ev.opt_some]
          refine ⟨okD_ints _, ok_int _, ?_⟩
          rw [e2]
          simp only [Ev.opt_some]
          cases decide ((j2 : Int) < (j1 : Int)) with
          | true =>
            simp only
            rw [last_some, drop_last]
            simp only [Ev.opt_some]
            refine ⟨fewR, ?_⟩
            rw [atI_last]
            simp only [Ev.opt_some]
            refine ⟨by decide, _, rfl, by decide, by decide, fun kd ρ' hk => ?_⟩
            have kk : kd = .str (kdS true) ∨ kd = .str (kdS false) := by
              simpa [List.mem_cons, kdS] using hk
            have nn := hL n (List.mem_append_right _ (List.mem_singleton.mpr rfl))
            have nI : n ∉ nsI := fun z => (List.nodup_append.mp ndL).2.2 n z n (List.mem_singleton.mpr rfl) rfl
            have fin_ : ∀ (mv : Bool) (s t : Int), s ∈ U → t ∈ U → s ≠ t → ∃ (nsL' rs' : List Int) (l' : List Ev), (nsL'.map D.int = nsI.map D.int ∧ l'.map Ev.d = l.map Ev.d ++ [(Ev.beg n mv s t).d] ∧ rs'.map D.int = rs.map D.int ++ [.int n]) ∧ nsL'.Nodup ∧ (∀ n ∈ nsL', n ∉ begun l' ∧ -10 ^ 9 ≤ n ∧ n ≤ 10 ^ 9) ∧ rs'.Nodup ∧ (∀ n ∈ rs', (n ∈ begun l' ∧ n ∉ ended l') ∧ -10 ^ 9 ≤ n ∧ n ≤ 10 ^ 9) ∧ Good l' ∧ (∀ e ∈ l', smEv U e) ∧ l'.length = j + 1 ∧ nsL'.length ≤ 8 ∧ rs'.length ≤ j + 1 := by
              intro mv s t hs ht ne
              refine ⟨nsI, rs ++ [n], l ++ [.beg n mv s t], ⟨rfl, by rw [List.map_append]; rfl, by rw [List.map_append]; rfl⟩, (List.nodup_append.mp ndL).1, fun m hm => ?_, ?_, fun m hm => ?_, good.snoc (e := .beg n mv s t) ⟨nn.1, ne⟩, fun e he => ?_, by rw [List.length_append, lj]; rfl, by rw [List.length_append] at l8; omega, by rw [List.length_append]; show rs.length + 1 ≤ _; omega⟩
              · have := hL m (List.mem_append_left _ hm)
                rw [begun_snoc]
                refine ⟨fun z => ?_, this.2⟩
                rcases List.mem_append.mp z with z | z
                · exact this.1 z
                · simp [begun] at z
                  exact nI (z ▸ hm)
              · refine List.nodup_append.mpr ⟨ndR, by simp, fun a ha b hb z => ?_⟩
                rw [List.mem_singleton] at hb
                subst z hb
                exact nn.1 (hR _ ha).1.1
              · rw [begun_snoc, ended_snoc]
                rcases List.mem_append.mp hm with hm | hm
                · exact ⟨⟨List.mem_append_left _ (hR m hm).1.1, by simpa [ended] using (hR m hm).1.2⟩, (hR m hm).2⟩
                · rw [List.mem_singleton.mp hm]
                  refine ⟨⟨List.mem_append_right _ (by simp [begun]), fun z => ?_⟩, nn.2⟩
                  rcases List.mem_append.mp z with z | z
                  · exact nn.1 (ended_begun good n z)
                  · simp [ended] at z
              · rcases List.mem_append.mp he with he | he
                · exact sm e he
                · rw [List.mem_singleton.mp he]; exact ⟨nn.2, hs, ht⟩
            simp only [dBody, dSeq, dNext, dBreak, dCont, dDrop, dRet, dRetN, dIfS, dAsg, dgName, dgNil, dgsName, dgsPut, dgUn, dPar, dPar3, dVar, dC, dTake, dFrz, mkS, dBin, dBinO, dTest, dTru, dUn, dIsN, isNonB, dAnd, dOr, dNot, dAndV, dOrV, dNotV, asB, dIf, cnd, dNil, dCons, dTup, dLst, dNewD, dSub, dSl, dSlO, dNoPart, dPart, dIsi, dCallB, dCallO, wds, sds, wd, sd, rsv, Sl.dat, stv, notPar, Sl.with_, dCall, dCallK, argC, arC, useS, kindsB, Ar.sl, cond, ownL, ownD, upS, dLM, dLM0, isOwnL, isOwnD, dPop1, dPop2, dGet1, dGet2, isDct, dDput, dLput, dLput.known, dFld, dMth, dMth0, tyOk, dChain, dAugI, List.map_cons, List.map_nil, List.cons_append, List.nil_append, List.append_nil, List.length_cons, List.length_nil, List.replicate, List.getElem?_cons_zero, List.getElem?_cons_succ, List.getElem?_nil, List.set_cons_zero, List.set_cons_succ, Option.getD_some, Option.getD_none, Nat.reduceAdd, Nat.reduceSub, dNever, dYes, Nat.zero_le, dLc, dG, dSeqI, dOwnI, dLcD, dctS, dDc, dDcD, dFor, dForD, dRng1, dRng2, dEnum, noPar, wipeD, eqW, neW, D.key, itemsOf, keysOf, valsOf, gdT, isTy, tyD, notIns, List.any_cons, List.any_nil, Bool.or_false, Bool.or_true, Bool.true_or, Bool.false_or, Bool.not_true, Bool.not_false, String.reduceBEq, beq_self_eq_true, true_and, and_true, selN, sel, List.filterMap_cons, List.filterMap_nil, backR, back1, cleanR, clean1, clnR, List.tail_cons, List.head?_cons, List.not_mem_nil, false_implies, implies_true, List.nodup_nil, List.nodup_cons, not_false_eq_true, Ev.len_lst, Ev.len_tup, Ev.len_dct, Ev.len_set, Ev.len_str, Ev.add_int, Ev.add_str, Ev.add_tup, Ev.add_lst, Ev.mul_int, Ev.mul_lst, Ev.sub_lst, Ev.sub_tup, Ev.sub_str, Ev.sub_dctI, Ev.sub_dctS, Ev.cut_lst, Ev.cut_tup, Ev.cutL_lst, Ev.in_lst, Ev.in_tup, Ev.in_dctI, Ev.in_dctS, Ev.wI0_int, Ev.wII_int, Ev.neg_int, Ev.index_lst, Ev.set_lst, Ev.set_tup, Ev.all_lst, Ev.any_lst, Ev.list_lst, Ev.list_tup, Ev.list_dct, Ev.repr_one, Ev.dict_lst, Ev.tup_lst, Ev.tup_tup, Ev.append_one, Ev.pop_none, Ev.popAt_one, Ev.clear_none, Ev.extend_one, Ev.remove_one, Ev.seq_lst, Ev.seq_tup, Ev.enum_lst, Ev.enum_tup, Ev.int1_int, Ev.int2_int, Ev.int_int, Ev.max_int, Ev.min_int, Ev.opt_some, Ev.tru_lst, Ev.tru_tup, Ev.tru_int, Ev.par_imm, Ev.par_own, Ev.par_no, Ev.par_drw]
            refine ⟨by decide, few, ?_⟩
            rcases kk with rfl | rfl
            · obtain ⟨nsL', rs', l', ⟨e1, e2, e3⟩, rest⟩ := fin_ true b a hb ha (Ne.symm nab)
              exact hN _ ⟨nsL', rs', l', _, _, _, _, by rw [e1, e2, e3]; rfl, ⟨rfl, rfl, rfl, rfl⟩, rest⟩
            · obtain ⟨nsL', rs', l', ⟨e1, e2, e3⟩, rest⟩ := fin_ false b a hb ha (Ne.symm nab)
              exact hN _ ⟨nsL', rs', l', _, _, _, _, by rw [e1, e2, e3]; rfl, ⟨rfl, rfl, rfl, rfl⟩, rest⟩

          | false =>
            simp only
            rw [last_some, drop_last]
            simp only [Ev.opt_some]
            refine ⟨fewR, ?_⟩
            rw [atI_last]
            simp only [Ev.opt_some]
            refine ⟨by decide, _, rfl, by decide, by decide, fun kd ρ' hk => ?_⟩
            have kk : kd = .str (kdS true) ∨ kd = .str (kdS false) := by
              simpa [List.mem_cons, kdS] using hk
            have nn := hL n (List.mem_append_right _ (List.mem_singleton.mpr rfl))
            have nI : n ∉ nsI := fun z => (List.nodup_append.mp ndL).2.2 n z n (List.mem_singleton.mpr rfl) rfl
            have fin_ : ∀ (mv : Bool) (s t : Int), s ∈ U → t ∈ U → s ≠ t → ∃ (nsL' rs' : List Int) (l' : List Ev), (nsL'.map D.int = nsI.map D.int ∧ l'.map Ev.d = l.map Ev.d ++ [(Ev.beg n mv s t).d] ∧ rs'.map D.int = rs.map D.int ++ [.int n]) ∧ nsL'.Nodup ∧ (∀ n ∈ nsL', n ∉ begun l' ∧ -10 ^ 9 ≤ n ∧ n ≤ 10 ^ 9) ∧ rs'.Nodup ∧ (∀ n ∈ rs', (n ∈ begun l' ∧ n ∉ ended l') ∧ -10 ^ 9 ≤ n ∧ n ≤ 10 ^ 9) ∧ Good l' ∧ (∀ e ∈ l', smEv U e) ∧ l'.length = j + 1 ∧ nsL'.length ≤ 8 ∧ rs'.length ≤ j + 1 := by
              intro mv s t hs ht ne
              refine ⟨nsI, rs ++ [n], l ++ [.beg n mv s t], ⟨rfl, by rw [List.map_append]; rfl, by rw [List.map_append]; rfl⟩, (List.nodup_append.mp ndL).1, fun m hm => ?_, ?_, fun m hm => ?_, good.snoc (e := .beg n mv s t) ⟨nn.1, ne⟩, fun e he => ?_, by rw [List.length_append, lj]; rfl, by rw [List.length_append] at l8; omega, by rw [List.length_append]; show rs.length + 1 ≤ _; omega⟩
              · have := hL m (List.mem_append_left _ hm)
                rw [begun_snoc]
                refine ⟨fun z => ?_, this.2⟩
                rcases List.mem_append.mp z with z | z
                · exact this.1 z
                · simp [begun] at z
                  exact nI (z ▸ hm)
              · refine List.nodup_append.mpr ⟨ndR, by simp, fun a ha b hb z => ?_⟩
                rw [List.mem_singleton] at hb
                subst z hb
                exact nn.1 (hR _ ha).1.1
              · rw [begun_snoc, ended_snoc]
                rcases List.mem_append.mp hm with hm | hm
                · exact ⟨⟨List.mem_append_left _ (hR m hm).1.1, by simpa [ended] using (hR m hm).1.2⟩, (hR m hm).2⟩
                · rw [List.mem_singleton.mp hm]
                  refine ⟨⟨List.mem_append_right _ (by simp [begun]), fun z => ?_⟩, nn.2⟩
                  rcases List.mem_append.mp z with z | z
                  · exact nn.1 (ended_begun good n z)
                  · simp [ended] at z
              · rcases List.mem_append.mp he with he | he
                · exact sm e he
                · rw [List.mem_singleton.mp he]; exact ⟨nn.2, hs, ht⟩
            simp only [dBody, dSeq, dNext, dBreak, dCont, dDrop, dRet, dRetN, dIfS, dAsg, dgName, dgNil, dgsName, dgsPut, dgUn, dPar, dPar3, dVar, dC, dTake, dFrz, mkS, dBin, dBinO, dTest, dTru, dUn, dIsN, isNonB, dAnd, dOr, dNot, dAndV, dOrV, dNotV, asB, dIf, cnd, dNil, dCons, dTup, dLst, dNewD, dSub, dSl, dSlO, dNoPart, dPart, dIsi, dCallB, dCallO, wds, sds, wd, sd, rsv, Sl.dat, stv, notPar, Sl.with_, dCall, dCallK, argC, arC, useS, kindsB, Ar.sl, cond, ownL, ownD, upS, dLM, dLM0, isOwnL, isOwnD, dPop1, dPop2, dGet1, dGet2, isDct, dDput, dLput, dLput.known, dFld, dMth, dMth0, tyOk, dChain, dAugI, List.map_cons, List.map_nil, List.cons_append, List.nil_append, List.append_nil, List.length_cons, List.length_nil, List.replicate, List.getElem?_cons_zero, List.getElem?_cons_succ, List.getElem?_nil, List.set_cons_zero, List.set_cons_succ, Option.getD_some, Option.getD_none, Nat.reduceAdd, Nat.reduceSub, dNever, dYes, Nat.zero_le, dLc, dG, dSeqI, dOwnI, dLcD, dctS, dDc, dDcD, dFor, dForD, dRng1, dRng2, dEnum, noPar, wipeD, eqW, neW, D.key, itemsOf, keysOf, valsOf, gdT, isTy, tyD, notIns, List.any_cons, List.any_nil, Bool.or_false, Bool.or_true, Bool.true_or, Bool.false_or, Bool.not_true, Bool.not_false, String.reduceBEq, beq_self_eq_true, true_and, and_true, selN, sel, List.filterMap_cons, List.filterMap_nil, backR, back1, cleanR, clean1, clnR, List.tail_cons, List.head?_cons, List.not_mem_nil, false_implies, implies_true, List.nodup_nil, List.nodup_cons, not_false_eq_true, Ev.len_lst, Ev.len_tup, Ev.len_dct, Ev.len_set, Ev.len_str, Ev.add_int, Ev.add_str, Ev.add_tup, Ev.add_lst, Ev.mul_int, Ev.mul_lst, Ev.sub_lst, Ev.sub_tup, Ev.sub_str, Ev.sub_dctI, Ev.sub_dctS, Ev.cut_lst, Ev.cut_tup, Ev.cutL_lst, Ev.in_lst, Ev.in_tup, Ev.in_dctI, Ev.in_dctS, Ev.wI0_int, Ev.wII_int, Ev.neg_int, Ev.index_lst, Ev.set_lst, Ev.set_tup, Ev.all_lst, Ev.any_lst, Ev.list_lst, Ev.list_tup, Ev.list_dct, Ev.repr_one, Ev.dict_lst, Ev.tup_lst, Ev.tup_tup, Ev.append_one, Ev.pop_none, Ev.popAt_one, Ev.clear_none, Ev.extend_one, Ev.remove_one, Ev.seq_lst, Ev.seq_tup, Ev.enum_lst, Ev.enum_tup, Ev.int1_int, Ev.int2_int, Ev.int_int, Ev.max_int, Ev.min_int, Ev.opt_some, Ev.tru_lst, Ev.tru_tup, Ev.tru_int, Ev.par_imm, Ev.par_own, Ev.par_no, Ev.par_drw]
            refine ⟨by decide, few, ?_⟩
            rcases kk with rfl | rfl
            · obtain ⟨nsL', rs', l', ⟨e1, e2, e3⟩, rest⟩ := fin_ true a b ha hb nab
              exact hN _ ⟨nsL', rs', l', _, _, _, _, by rw [e1, e2, e3]; rfl, ⟨rfl, rfl, rfl, rfl⟩, rest⟩
            · obtain ⟨nsL', rs', l', ⟨e1, e2, e3⟩, rest⟩ := fin_ false a b ha hb nab
              exact hN _ ⟨nsL', rs', l', _, _, _, _, by rw [e1, e2, e3]; rfl, ⟨rfl, rfl, rfl, rfl⟩, rest⟩

    · rw [decide_eq_false wl]
      simp only
      by_cases wz : way = 3
      · refine ⟨ok_int _, ok_int _, ?_⟩
        rw [deq_int, decide_eq_true wz]
        simp only
        refine ⟨okD_ints _, okD_nil, ?_⟩
        rw [deq_nil]
        by_cases rz : rs = []
        · have : (!(rs.map D.int).isEmpty) = false := by simp [rz]
          rw [this]
          simp only
          refine ⟨_, rfl, by rw [List.length_map]; omega, by rw [List.length_map]; omega, fun a ρ' ha => ?_⟩
          obtain ⟨x, hx, rfl⟩ := List.mem_map.mp ha
          simp only [dBody, dSeq, dNext, dBreak, dCont, dDrop, dRet, dRetN, dIfS, dAsg, dgName, dgNil, dgsName, dgsPut, dgUn, dPar, dPar3, dVar, dC, dTake, dFrz, mkS, dBin, dBinO, dTest, dTru, dUn, dIsN, isNonB, dAnd, dOr, dNot, dAndV, dOrV, dNotV, asB, dIf, cnd, dNil, dCons, dTup, dLst, dNewD, dSub, dSl, dSlO, dNoPart, dPart, dIsi, dCallB, dCallO, wds, sds, wd, sd, rsv, Sl.dat, stv, notPar, Sl.with_, dCall, dCallK, argC, arC, useS, kindsB, Ar.sl, cond, ownL, ownD, upS, dLM, dLM0, isOwnL, isOwnD, dPop1, dPop2, dGet1, dGet2, isDct, dDput, dLput, dLput.known, dFld, dMth, dMth0, tyOk, dChain, dAugI, List.map_cons, List.map_nil, List.cons_append, List.nil_append, List.append_nil, List.length_cons, List.length_nil, List.replicate, List.getElem?_cons_zero, List.getElem?_cons_succ, List.getElem?_nil, List.set_cons_zero, List.set_cons_succ, Option.getD_some, Option.getD_none, Nat.reduceAdd, Nat.reduceSub, dNever, dYes, Nat.zero_le, dLc, dG, dSeqI, dOwnI, dLcD, dctS, dDc, dDcD, dFor, dForD, dRng1, dRng2, dEnum, noPar, wipeD, eqW, neW, D.key, itemsOf, keysOf, valsOf, gdT, isTy, tyD, notIns, List.any_cons, List.any_nil, Bool.or_false, Bool.or_true, Bool.true_or, Bool.false_or, Bool.not_true, Bool.not_false, String.reduceBEq, beq_self_eq_true, true_and, and_true, selN, sel, List.filterMap_cons, List.filterMap_nil, backR, back1, cleanR, clean1, clnR, List.tail_cons, List.head?_cons, List.not_mem_nil, false_implies, implies_true, List.nodup_nil, List.nodup_cons, not_false_eq_true, Ev.len_lst, Ev.len_tup, Ev.len_dct, Ev.len_set, Ev.len_str, Ev.add_int, Ev.add_str, Ev.add_tup, Ev.add_lst, Ev.mul_int, Ev.mul_lst, Ev.sub_lst, Ev.sub_tup, Ev.sub_str, Ev.sub_dctI, Ev.sub_dctS, Ev.cut_lst, Ev.cut_tup, Ev.cutL_lst, Ev.in_lst, Ev.in_tup, Ev.in_dctI, Ev.in_dctS, Ev.wI0_int, Ev.wII_int, Ev.neg_int, Ev.index_lst, Ev.set_lst, Ev.set_tup, Ev.all_lst, Ev.any_lst, Ev.list_lst, Ev.list_tup, Ev.list_dct, Ev.repr_one, Ev.dict_lst, Ev.tup_lst, Ev.tup_tup, Ev.append_one, Ev.pop_none, Ev.popAt_one, Ev.clear_none, Ev.extend_one, Ev.remove_one, Ev.seq_lst, Ev.seq_tup, Ev.enum_lst, Ev.enum_tup, Ev.int1_int, Ev.int2_int, Ev.int_int, Ev.max_int, Ev.min_int, Ev.opt_some, Ev.tru_lst, Ev.tru_tup, Ev.tru_int, Ev.par_imm, Ev.par_own, Ev.par_no, Ev.par_drw]
          refine ⟨by decide, few, hN _ ⟨nsL, rs, l ++ [.vis x], _, _, _, _, by rw [List.map_append]; rfl, ⟨rfl, rfl, p10, p11⟩, ndL, fun n hn => ?_, ndR, fun n hn => ?_, good.snoc (e := .vis x) True.intro, fun e he => ?_, by rw [List.length_append, lj]; rfl, l8, by omega⟩⟩
          · rw [begun_snoc]
            exact ⟨by simpa [begun] using (hL n hn).1, (hL n hn).2⟩
          · rw [begun_snoc, ended_snoc]
            exact ⟨⟨List.mem_append_left _ (hR n hn).1.1, by simpa [ended] using (hR n hn).1.2⟩, (hR n hn).2⟩
          · rcases List.mem_append.mp he with he | he
            · exact sm e he
            · rw [List.mem_singleton.mp he]; exact hx
        · have : (!(rs.map D.int).isEmpty) = true := by simp [rz]
          rw [this]
          simp only
          have rpos : 0 < rs.length := List.length_pos_iff.mpr rz
          refine ⟨_, rfl, by rw [List.length_map]; omega, by rw [List.length_map]; omega, fun at_ ρ' a0 a1 => ?_⟩
          simp only [dBody, dSeq, dNext, dBreak, dCont, dDrop, dRet, dRetN, dIfS, dAsg, dgName, dgNil, dgsName, dgsPut, dgUn, dPar, dPar3, dVar, dC, dTake, dFrz, mkS, dBin, dBinO, dTest, dTru, dUn, dIsN, isNonB, dAnd, dOr, dNot, dAndV, dOrV, dNotV, asB, dIf, cnd, dNil, dCons, dTup, dLst, dNewD, dSub, dSl, dSlO, dNoPart, dPart, dIsi, dCallB, dCallO, wds, sds, wd, sd, rsv, Sl.dat, stv, notPar, Sl.with_, dCall, dCallK, argC, arC, useS, kindsB, Ar.sl, cond, ownL, ownD, upS, dLM, dLM0, isOwnL, isOwnD, dPop1, dPop2, dGet1, dGet2, isDct, dDput, dLput, dLput.known, dFld, dMth, dMth0, tyOk, dChain, dAugI, List.map_cons, List.map_nil, List.cons_append, List.nil_append, List.append_nil, List.length_cons, List.length_nil, List.replicate, List.getElem?_cons_zero, List.getElem?_cons_succ, List.getElem?_nil, List.set_cons_zero, List.set_cons_succ, Option.getD_some, Option.getD_none, Nat.reduceAdd, Nat.reduceSub, dNever, dYes, Nat.zero_le, dLc, dG, dSeqI, dOwnI, dLcD, dctS, dDc, dDcD, dFor, dForD, dRng1, dRng2, dEnum, noPar, wipeD, eqW, neW, D.key, itemsOf, keysOf, valsOf, gdT, isTy, tyD, notIns, List.any_cons, List.any_nil, Bool.or_false, Bool.or_true, Bool.true_or, Bool.false_or, Bool.not_true, Bool.not_false, String.reduceBEq, beq_self_eq_true, true_and, and_true, selN, sel, List.filterMap_cons, List.filterMap_nil, backR, back1, cleanR, clean1, clnR, List.tail_cons, List.head?_cons, List.not_mem_nil, false_implies, implies_true, List.nodup_nil, List.nodup_cons, not_false_eq_true, Ev.len_lst, Ev.len_tup, Ev.len_dct, Ev.len_set, Ev.len_str, Ev.add_int, Ev.add_str, Ev.add_tup, Ev.add_lst, Ev.mul_int, Ev.mul_lst, Ev.sub_lst, Ev.sub_tup, Ev.sub_str, Ev.sub_dctI, Ev.sub_dctS, Ev.cut_lst, Ev.cut_tup, Ev.cutL_lst, Ev.in_lst, Ev.in_tup, Ev.in_dctI, Ev.in_dctS, Ev.wI0_int, Ev.wII_int, Ev.neg_int, Ev.index_lst, Ev.set_lst, Ev.set_tup, Ev.all_lst, Ev.any_lst, Ev.list_lst, Ev.list_tup, Ev.list_dct, Ev.repr_one, Ev.dict_lst, Ev.tup_lst, Ev.tup_tup, Ev.append_one, Ev.pop_none, Ev.popAt_one, Ev.clear_none, Ev.extend_one, Ev.remove_one, Ev.seq_lst, Ev.seq_tup, Ev.enum_lst, Ev.enum_tup, Ev.int1_int, Ev.int2_int, Ev.int_int, Ev.max_int, Ev.min_int, Ev.opt_some, Ev.tru_lst, Ev.tru_tup, Ev.tru_int, Ev.par_imm, Ev.par_own, Ev.par_no, Ev.par_drw]
          rw [List.length_map] at a1
          have lt : at_.toNat < rs.length := by omega
          rw [List.getElem?_map, List.getElem?_eq_getElem lt]
          simp only [Option.map_some, Ev.opt_some]
          have hn := hR rs[at_.toNat] (List.getElem_mem lt)
          have pe := eraseIdx_perm lt
          refine ⟨a0, by omega, by decide, few, hN _ ⟨nsL, rs.eraseIdx at_.toNat, l ++ [.fin rs[at_.toNat]], _, _, _, _, by rw [List.map_append, ← map_eraseIdx]; rfl, ⟨rfl, rfl, p10, p11⟩, ndL, fun n hn' => ?_, (List.nodup_cons.mp (pe.nodup_iff.mpr ndR)).2, fun n hn' => ?_, good.snoc (e := .fin rs[at_.toNat]) hn.1, fun e he => ?_, by rw [List.length_append, lj]; rfl, l8, by have := List.length_eraseIdx_le rs at_.toNat; omega⟩⟩
          · rw [begun_snoc]
            exact ⟨by simpa [begun] using (hL n hn').1, (hL n hn').2⟩
          · have hm : n ∈ rs := pe.subset (List.mem_cons_of_mem _ hn')
            have ne : n ≠ rs[at_.toNat] := fun z => (List.nodup_cons.mp (pe.nodup_iff.mpr ndR)).1 (z ▸ hn')
            rw [begun_snoc, ended_snoc]
            refine ⟨⟨List.mem_append_left _ (hR n hm).1.1, fun z => ?_⟩, (hR n hm).2⟩
            rcases List.mem_append.mp z with z | z
            · exact (hR n hm).1.2 z
            · simp [ended] at z
              exact ne z
          · rcases List.mem_append.mp he with he | he
            · exact sm e he
            · rw [List.mem_singleton.mp he]; exact hn.2
      · refine ⟨ok_int _, ok_int _, ?_⟩
        rw [deq_int, decide_eq_false wz]
        simp only
        refine ⟨_, rfl, by rw [List.length_map]; omega, by rw [List.length_map]; omega, fun a ρ' ha => ?_⟩
        obtain ⟨x, hx, rfl⟩ := List.mem_map.mp ha
        simp only [dBody, dSeq, dNext, dBreak, dCont, dDrop, dRet, dRetN, dIfS, dAsg, dgName, dgNil, dgsName, dgsPut, dgUn, dPar, dPar3, dVar, dC, dTake, dFrz, mkS, dBin, dBinO, dTest, dTru, dUn, dIsN, isNonB, dAnd, dOr, dNot, dAndV, dOrV, dNotV, asB, dIf, cnd, dNil, dCons, dTup, dLst, dNewD, dSub, dSl, dSlO, dNoPart, dPart, dIsi, dCallB, dCallO, wds, sds, wd, sd, rsv, Sl.dat, stv, notPar, Sl.with_, dCall, dCallK, argC, arC, useS, kindsB, Ar.sl, cond, ownL, ownD, upS, dLM, dLM0, isOwnL, isOwnD, dPop1, dPop2, dGet1, dGet2, isDct, dDput, dLput, dLput.known, dFld, dMth, dMth0, tyOk, dChain, dAugI, List.map_cons, List.map_nil, List.cons_append, List.nil_append, List.append_nil, List.length_cons, List.length_nil, List.replicate, List.getElem?_cons_zero, List.getElem?_cons_succ, List.getElem?_nil, List.set_cons_zero, List.set_cons_succ, Option.getD_some, Option.getD_none, Nat.reduceAdd, Nat.reduceSub, dNever, dYes, Nat.zero_le, dLc, dG, dSeqI, dOwnI, dLcD, dctS, dDc, dDcD, dFor, dForD, dRng1, dRng2, dEnum, noPar, wipeD, eqW, neW, D.key, itemsOf, keysOf, valsOf, gdT, isTy, tyD, notIns, List.any_cons, List.any_nil, Bool.or_false, Bool.or_true, Bool.true_or, Bool.false_or, Bool.not_true, Bool.not_false, String.reduceBEq, beq_self_eq_true, true_and, and_true, selN, sel, List.filterMap_cons, List.filterMap_nil, backR, back1, cleanR, clean1, clnR, List.tail_cons, List.head?_cons, List.not_mem_nil, false_implies, implies_true, List.nodup_nil, List.nodup_cons, not_false_eq_true, Ev.len_lst, Ev.len_tup, Ev.len_dct, Ev.len_set, Ev.len_str, Ev.add_int, Ev.add_str, Ev.add_tup, Ev.add_lst, Ev.mul_int, Ev.mul_lst, Ev.sub_lst, Ev.sub_tup, Ev.sub_str, Ev.sub_dctI, Ev.sub_dctS, Ev.cut_lst, Ev.cut_tup, Ev.cutL_lst, Ev.in_lst, Ev.in_tup, Ev.in_dctI, Ev.in_dctS, Ev.wI0_int, Ev.wII_int, Ev.neg_int, Ev.index_lst, Ev.set_lst, Ev.set_tup, Ev.all_lst, Ev.any_lst, Ev.list_lst, Ev.list_tup, Ev.list_dct, Ev.repr_one, Ev.dict_lst, Ev.tup_lst, Ev.tup_tup, Ev.append_one, Ev.pop_none, Ev.popAt_one, Ev.clear_none, Ev.extend_one, Ev.remove_one, Ev.seq_lst, Ev.seq_tup, Ev.enum_lst, Ev.enum_tup, Ev.int1_int, Ev.int2_int, Ev.int_int, Ev.max_int, Ev.min_int, Ev.opt_some, Ev.tru_lst, Ev.tru_tup, Ev.tru_int, Ev.par_imm, Ev.par_own, Ev.par_no, Ev.par_drw]
        refine ⟨by decide, few, hN _ ⟨nsL, rs, l ++ [.vis x], _, _, _, _, by rw [List.map_append]; rfl, ⟨rfl, rfl, p10, p11⟩, ndL, fun n hn => ?_, ndR, fun n hn => ?_, good.snoc (e := .vis x) True.intro, fun e he => ?_, by rw [List.length_append, lj]; rfl, l8, by omega⟩⟩
        · rw [begun_snoc]
          exact ⟨by simpa [begun] using (hL n hn).1, (hL n hn).2⟩
        · rw [begun_snoc, ended_snoc]
          exact ⟨⟨List.mem_append_left _ (hR n hn).1.1, by simpa [ended] using (hR n hn).1.2⟩, (hR n hn).2⟩
        · rcases List.mem_append.mp he with he | he
          · exact sm e he
          · rw [List.mem_singleton.mp he]; exact hx

  · rintro ρ ⟨nsL, rs, l, x8, x9, x10, x11, rfl, _, _, _, _, _, good, sm, lj, _⟩
    simp only [dBody, dSeq, dNext, dBreak, dCont, dDrop, dRet, dRetN, dIfS, dAsg, dgName, dgNil, dgsName, dgsPut, dgUn, dPar, dPar3, dVar, dC, dTake, dFrz, mkS, dBin, dBinO, dTest, dTru, dUn, dIsN, isNonB, dAnd, dOr, dNot, dAndV, dOrV, dNotV, asB, dIf, cnd, dNil, dCons, dTup, dLst, dNewD, dSub, dSl, dSlO, dNoPart, dPart, dIsi, dCallB, dCallO, wds, sds, wd, sd, rsv, Sl.dat, stv, notPar, Sl.with_, dCall, dCallK, argC, arC, useS, kindsB, Ar.sl, cond, ownL, ownD, upS, dLM, dLM0, isOwnL, isOwnD, dPop1, dPop2, dGet1, dGet2, isDct, dDput, dLput, dLput.known, dFld, dMth, dMth0, tyOk, dChain, dAugI, List.map_cons, List.map_nil, List.cons_append, List.nil_append, List.append_nil, List.length_cons, List.length_nil, List.replicate, List.getElem?_cons_zero, List.getElem?_cons_succ, List.getElem?_nil, List.set_cons_zero, List.set_cons_succ, Option.getD_some, Option.getD_none, Nat.reduceAdd, Nat.reduceSub, dNever, dYes, Nat.zero_le, dLc, dG, dSeqI, dOwnI, dLcD, dctS, dDc, dDcD, dFor, dForD, dRng1, dRng2, dEnum, noPar, wipeD, eqW, neW, D.key, itemsOf, keysOf, valsOf, gdT, isTy, tyD, notIns, List.any_cons, List.any_nil, Bool.or_false, Bool.or_true, Bool.true_or, Bool.false_or, Bool.not_true, Bool.not_false, String.reduceBEq, beq_self_eq_true, true_and, and_true, selN, sel, List.filterMap_cons, List.filterMap_nil, backR, back1, cleanR, clean1, clnR, List.tail_cons, List.head?_cons, List.not_mem_nil, false_implies, implies_true, List.nodup_nil, List.nodup_cons, not_false_eq_true, Ev.len_lst, Ev.len_tup, Ev.len_dct, Ev.len_set, Ev.len_str, Ev.add_int, Ev.add_str, Ev.add_tup, Ev.add_lst, Ev.mul_int, Ev.mul_lst, Ev.sub_lst, Ev.sub_tup, Ev.sub_str, Ev.sub_dctI, Ev.sub_dctS, Ev.cut_lst, Ev.cut_tup, Ev.cutL_lst, Ev.in_lst, Ev.in_tup, Ev.in_dctI, Ev.in_dctS, Ev.wI0_int, Ev.wII_int, Ev.neg_int, Ev.index_lst, Ev.set_lst, Ev.set_tup, Ev.all_lst, Ev.any_lst, Ev.list_lst, Ev.list_tup, Ev.list_dct, Ev.repr_one, Ev.dict_lst, Ev.tup_lst, Ev.tup_tup, Ev.append_one, Ev.pop_none, Ev.popAt_one, Ev.clear_none, Ev.extend_one, Ev.remove_one, Ev.seq_lst, Ev.seq_tup, Ev.enum_lst, Ev.enum_tup, Ev.int1_int, Ev.int2_int, Ev.int_int, Ev.max_int, Ev.min_int, Ev.opt_some, Ev.tru_lst, Ev.tru_tup, Ev.tru_int, Ev.par_imm, Ev.par_own, Ev.par_no, Ev.par_drw]
    rw [List.length_map, List.length_range] at lj
    exact k l _ good sm lj
end
end Bm
set_option maxRecDepth 100000
set_option maxHeartbeats 4000000
/-! dates: what the running transfers date -/
namespace Bm
open PySem L2 Dl
abbrev Mp := Int → Option Int
abbrev Eds := List (Int × Int)
inductive Rch (E : Eds) (m : Mp) : Int → Prop where
  | start {s t : Int} (h : (s, t) ∈ E) (k : (m s).isSome = true) : Rch E m t
  | step {s t : Int} (h : (s, t) ∈ E) (k : Rch E m s) : Rch E m t
open Classical in
noncomputable def led (m : Mp) (E : Eds) (v : Int) : Mp := fun x => if Rch E m x then some v else m x
def Sound (E : Eds) (m : Mp) (v : Int) (m' : Mp) : Prop := ∀ x, (Rch E m x ∧ m' x = some v) ∨ m' x = m x
def Closed (E : Eds) (v : Int) (m' : Mp) : Prop := ∀ s t, (s, t) ∈ E → (m' s).isSome = true → m' t = some v
theorem Sound.keys {E : Eds} {m m' : Mp} {v : Int} (h : Sound E m v m') {x : Int} (k : (m x).isSome = true) : (m' x).isSome = true := by
  rcases h x with ⟨_, e⟩ | e
  · rw [e]; rfl
  · rw [e]; exact k
theorem led_eq {E : Eds} {m m' : Mp} {v : Int} (h : Sound E m v m') (c : Closed E v m') : m' = led m E v := by
  have dated : ∀ x, Rch E m x → m' x = some v := by
    intro x r
    induction r with
    | start e k => exact c _ _ e (h.keys k)
    | step e _ ih => exact c _ _ e (by rw [ih]; rfl)
  funext x
  unfold led
  by_cases r : Rch E m x
  · rw [if_pos r]; exact dated x r
  · rw [if_neg r]
    rcases h x with ⟨z, _⟩ | e
    · exact (r z).elim
    · exact e
theorem Sound.refl {E : Eds} {m : Mp} {v : Int} : Sound E m v m := fun _ => .inr rfl
def setM (m : Mp) (k : Int) (v : Int) : Mp := fun x => if x = k then some v else m x
def delM (m : Mp) (k : Int) : Mp := fun x => if x = k then none else m x
/-- dating the head of an edge whose tail is dated, or stands -/
theorem Sound.date {E : Eds} {m m' : Mp} {v s t : Int} (h : Sound E m v m') (e : (s, t) ∈ E) (k : (m' s).isSome = true) : Sound E m v (setM m' t v) := by
  have rt : Rch E m t := by
    rcases h s with ⟨r, _⟩ | z
    · exact .step e r
    · exact .start e (by rw [← z]; exact k)
  intro x
  unfold setM
  by_cases z : x = t
  · subst z
    rw [if_pos rfl]
    exact .inl ⟨rt, rfl⟩
  · rw [if_neg z]
    exact h x
/-! rounds over all edges -/
def relax (v : Int) (m : Mp) (e : Int × Int) : Mp := if (m e.1).isSome = true then setM m e.2 v else m
theorem relax_keep {v : Int} {m : Mp} {e : Int × Int} {x : Int} (h : (m x).isSome = true) : (relax v m e x).isSome = true := by
  unfold relax
  split
  · unfold setM
    split
    · rfl
    · exact h
  · exact h
theorem relax_val {v : Int} {m : Mp} {e : Int × Int} {x : Int} (h : m x = some v) : relax v m e x = some v := by
  unfold relax
  split
  · unfold setM
    split
    · rfl
    · exact h
  · exact h
theorem round_keep {v : Int} {x : Int} : ∀ {E : Eds} {m : Mp}, (m x).isSome = true → (E.foldl (relax v) m x).isSome = true
  | [], _, h => h
  | e :: E, m, h => round_keep (E := E) (relax_keep h)
theorem round_val {v : Int} {x : Int} : ∀ {E : Eds} {m : Mp}, m x = some v → E.foldl (relax v) m x = some v
  | [], _, h => h
  | e :: E, m, h => round_val (E := E) (relax_val h)
theorem round_sound {E0 : Eds} {m0 : Mp} {v : Int} : ∀ {E : Eds} {m : Mp}, (∀ e ∈ E, e ∈ E0) → Sound E0 m0 v m → Sound E0 m0 v (E.foldl (relax v) m)
  | [], _, _, h => h
  | e :: E, m, s, h => by
    refine round_sound (E := E) (fun x hx => s x (List.mem_cons_of_mem _ hx)) ?_
    unfold relax
    split
    · rename_i k
      exact h.date (s e List.mem_cons_self) k
    · exact h
/-- a round that finds no new key leaves all dated -/
theorem round_closed {v : Int} : ∀ {E : Eds} {m : Mp}, (∀ x, (E.foldl (relax v) m x).isSome = true → (m x).isSome = true) → Closed E v (E.foldl (relax v) m)
  | [], _, _ => fun s t h _ => absurd h List.not_mem_nil
  | e :: E, m, nk => by
    intro s t h k
    have ks : (m s).isSome = true := nk s k
    have nk' : ∀ x, (E.foldl (relax v) (relax v m e) x).isSome = true → (relax v m e x).isSome = true := fun x hx => relax_keep (nk x hx)
    rcases List.mem_cons.mp h with z | h
    · subst z
      refine round_val (E := E) ?_
      unfold relax
      rw [if_pos ks]
      exact if_pos rfl
    · exact round_closed (E := E) nk' s t h k
theorem round_same {v : Int} : ∀ {E E0 : Eds} {m : Mp}, (∀ e ∈ E, e ∈ E0) → Closed E0 v m → E.foldl (relax v) m = m
  | [], _, _, _, _ => rfl
  | e :: E, E0, m, s, c => by
    have : relax v m e = m := by
      unfold relax
      split
      · rename_i k
        funext x
        unfold setM
        split
        · rename_i z; rw [z]; exact (c e.1 e.2 (s e List.mem_cons_self) k).symm
        · rfl
      · rfl
    show E.foldl (relax v) (relax v m e) = m
    rw [this]
    exact round_same (E := E) (fun x hx => s x (List.mem_cons_of_mem _ hx)) c
/-- how many edges have a head that stands -/
def cnt (E : Eds) (m : Mp) : Nat := (E.filter fun e => (m e.2).isSome).length
theorem cnt_le (E : Eds) (m : Mp) : cnt E m ≤ E.length := List.length_filter_le _ _
theorem cnt_mono {m m' : Mp} (h : ∀ x, (m x).isSome = true → (m' x).isSome = true) : ∀ E : Eds, cnt E m ≤ cnt E m'
  | [] => Nat.le_refl _
  | e :: E => by
    have ih := cnt_mono h E
    unfold cnt at ih ⊢
    rw [List.filter_cons, List.filter_cons]
    by_cases a : (m e.2).isSome = true
    · rw [if_pos a, if_pos (h _ a)]
      simp only [List.length_cons]
      omega
    · rw [if_neg a]
      split
      · simp only [List.length_cons]; omega
      · exact ih
theorem cnt_lt {m m' : Mp} (h : ∀ x, (m x).isSome = true → (m' x).isSome = true) {x : Int} (n : ¬ (m x).isSome = true) (y : (m' x).isSome = true) : ∀ {E : Eds}, (∃ s, (s, x) ∈ E) → cnt E m < cnt E m'
  | [], ⟨s, q⟩ => absurd q List.not_mem_nil
  | e :: E, ⟨s, q⟩ => by
    unfold cnt
    rw [List.filter_cons, List.filter_cons]
    have mono := cnt_mono h E
    unfold cnt at mono
    rcases List.mem_cons.mp q with z | q
    · rw [← z]
      rw [if_neg n, if_pos y]
      simp only [List.length_cons]
      omega
    · have ih := cnt_lt h n y ⟨s, q⟩
      unfold cnt at ih
      by_cases a : (m e.2).isSome = true
      · rw [if_pos a, if_pos (h _ a)]
        simp only [List.length_cons]
        omega
      · rw [if_neg a]
        split
        · simp only [List.length_cons]; omega
        · exact ih
theorem round_new {v : Int} {x : Int} : ∀ {E : Eds} {m : Mp}, (E.foldl (relax v) m x).isSome = true → ¬ (m x).isSome = true → ∃ s, (s, x) ∈ E
  | [], _, h, n => (n h).elim
  | e :: E, m, h, n => by
    by_cases k : (relax v m e x).isSome = true
    · have : x = e.2 := by
        refine Classical.byContradiction fun ne => n ?_
        unfold relax at k
        split at k
        · unfold setM at k
          rw [if_neg ne] at k
          exact k
        · exact k
      exact ⟨e.1, by rw [this]; exact List.mem_cons_self⟩
    · obtain ⟨s, hs⟩ := round_new (E := E) h k
      exact ⟨s, List.mem_cons_of_mem _ hs⟩
/-- what holds behind j rounds -/
def Rounds (E : Eds) (m : Mp) (v : Int) (j : Nat) (m' : Mp) : Prop := Sound E m v m' ∧ (Closed E v m' ∨ j ≤ cnt E m')
theorem Rounds.zero {E : Eds} {m : Mp} {v : Int} : Rounds E m v 0 m := ⟨.refl, .inr (Nat.zero_le _)⟩
theorem Rounds.next {E : Eds} {m m' : Mp} {v : Int} {j : Nat} (h : Rounds E m v j m') : Rounds E m v (j + 1) (E.foldl (relax v) m') := by
  refine ⟨round_sound (fun _ h => h) h.1, ?_⟩
  rcases h.2 with c | c
  · left
    rw [round_same (fun _ h => h) c]
    exact c
  · by_cases nk : ∀ x, (E.foldl (relax v) m' x).isSome = true → (m' x).isSome = true
    · exact .inl (round_closed nk)
    · right
      have ⟨x, hx⟩ := Classical.not_forall.mp nk
      have ⟨h1, h2⟩ := Classical.not_imp.mp hx
      have := cnt_lt (m := m') (m' := E.foldl (relax v) m') (fun _ k => round_keep k) h2 h1 (round_new h1 h2)
      omega
theorem Rounds.led {E : Eds} {m m' : Mp} {v : Int} (h : Rounds E m v (E.length + 1) m') : m' = led m E v := by
  refine led_eq h.1 ?_
  rcases h.2 with c | c
  · exact c
  · have := cnt_le E m'
    omega
/-! dicts of ints -/
def IsD (U : List Int) (ps : List (Key × D)) (m : Mp) : Prop := (ps.map (·.1)).Nodup ∧ (∀ p ∈ ps, ∃ k v : Int, p = (.inl k, .int v) ∧ k ∈ U) ∧ ∀ k, lkD ps (.inl k) = (m k).map D.int
theorem nodup_le {α : Type} [DecidableEq α] : ∀ {xs ys : List α}, xs.Nodup → (∀ x ∈ xs, x ∈ ys) → xs.length ≤ ys.length
  | [], _, _, _ => Nat.zero_le _
  | x :: xs, ys, nd, s => by
    have nd' := List.nodup_cons.mp nd
    have hx := s x List.mem_cons_self
    have ih := nodup_le (xs := xs) (ys := ys.erase x) nd'.2 fun z hz => by
      have ne : z ≠ x := fun e => nd'.1 (e ▸ hz)
      exact (List.mem_erase_of_ne ne).mpr (s z (List.mem_cons_of_mem _ hz))
    rw [List.length_erase_of_mem hx] at ih
    have := List.length_pos_of_mem hx
    rw [List.length_cons]
    omega
theorem IsD.len {U : List Int} {ps : List (Key × D)} {m : Mp} (h : IsD U ps m) : ps.length ≤ U.length := by
  have := nodup_le (ys := U.map fun k => (Sum.inl k : Key)) h.1 fun x hx => by
    obtain ⟨p, hp, rfl⟩ := List.mem_map.mp hx
    obtain ⟨k, v, rfl, hk⟩ := h.2.1 p hp
    exact List.mem_map.mpr ⟨k, hk, rfl⟩
  rwa [List.length_map, List.length_map] at this
theorem lkD_cons (k j : Key) (d : D) (ps : List (Key × D)) : lkD ((k, d) :: ps) j = if k = j then some d else lkD ps j := by
  unfold lkD
  by_cases z : k = j
  · rw [List.find?_cons_of_pos (by simp [z]), if_pos z]; rfl
  · rw [List.find?_cons_of_neg (by simp [z]), if_neg z]
theorem lkD_mem {ps : List (Key × D)} {k : Key} {d : D} (h : lkD ps k = some d) : (k, d) ∈ ps := by
  induction ps with
  | nil => cases h
  | cons p ps ih =>
    obtain ⟨a, b⟩ := p
    rw [lkD_cons] at h
    by_cases z : a = k
    · rw [if_pos z] at h; cases h; rw [z]; exact List.mem_cons_self
    · rw [if_neg z] at h; exact List.mem_cons_of_mem _ (ih h)
theorem lkD_puD (ps : List (Key × D)) (k j : Key) (d : D) : lkD (puD ps k d) j = if k = j then some d else lkD ps j := by
  unfold puD
  by_cases a : (ps.any fun p => decide (p.1 = k)) = true
  · rw [if_pos a]
    induction ps with
    | nil => simp at a
    | cons p ps ih =>
      obtain ⟨x, y⟩ := p
      rw [List.map_cons]
      by_cases z : x = k
      · subst z
        rw [if_pos rfl, lkD_cons, lkD_cons]
        by_cases e : x = j
        · rw [if_pos e, if_pos e]
        · rw [if_neg e, if_neg e, if_neg e]
          have mp : ∀ ps : List (Key × D), lkD (ps.map fun p => if p.1 = x then (p.1, d) else p) j = lkD ps j := by
            intro ps
            induction ps with
            | nil => rfl
            | cons q ps ih2 =>
              obtain ⟨q1, q2⟩ := q
              rw [List.map_cons]
              by_cases w : q1 = x
              · subst w; rw [if_pos rfl, lkD_cons, lkD_cons, if_neg e, if_neg e, ih2]
              · rw [if_neg w, lkD_cons, lkD_cons, ih2]
          exact mp ps
      · rw [if_neg z, lkD_cons, lkD_cons]
        have a' : (ps.any fun p => decide (p.1 = k)) = true := by
          rw [List.any_cons] at a
          simpa [z] using a
        rw [ih a']
        by_cases e : x = j
        · rw [if_pos e, if_pos e, if_neg (fun w => z (e.trans w.symm))]
        · rw [if_neg e, if_neg e]
  · rw [if_neg a]
    have off : ∀ p ∈ ps, p.1 ≠ k := fun p hp z => a (List.any_eq_true.mpr ⟨p, hp, by simp [z]⟩)
    clear a
    induction ps with
    | nil => rw [List.nil_append, lkD_cons]
    | cons p ps ih =>
      obtain ⟨x, y⟩ := p
      rw [List.cons_append, lkD_cons, lkD_cons, ih fun p hp => off p (List.mem_cons_of_mem _ hp)]
      have nx : x ≠ k := off (x, y) List.mem_cons_self
      by_cases e : x = j
      · rw [if_pos e, if_pos e, if_neg (fun w => nx (e.trans w.symm))]
      · rw [if_neg e, if_neg e]
theorem puD_keys (ps : List (Key × D)) (k : Key) (d : D) : (puD ps k d).map (·.1) = ps.map (·.1) ∧ k ∈ ps.map (·.1) ∨ (puD ps k d).map (·.1) = ps.map (·.1) ++ [k] ∧ k ∉ ps.map (·.1) := by
  unfold puD
  by_cases a : (ps.any fun p => decide (p.1 = k)) = true
  · left
    rw [if_pos a]
    refine ⟨?_, ?_⟩
    · rw [List.map_map]
      refine List.map_congr_left fun p _ => ?_
      show (if p.1 = k then (p.1, d) else p).1 = p.1
      split <;> rfl
    · obtain ⟨p, hp, e⟩ := List.any_eq_true.mp a
      exact List.mem_map.mpr ⟨p, hp, by simpa using e⟩
  · right
    rw [if_neg a]
    refine ⟨by rw [List.map_append]; rfl, fun m => ?_⟩
    obtain ⟨p, hp, e⟩ := List.mem_map.mp m
    exact a (List.any_eq_true.mpr ⟨p, hp, by simp [e]⟩)
theorem puD_mem {ps : List (Key × D)} {k : Key} {d : D} {p : Key × D} (h : p ∈ puD ps k d) : p = (k, d) ∨ p ∈ ps := by
  unfold puD at h
  split at h
  · obtain ⟨q, hq, rfl⟩ := List.mem_map.mp h
    by_cases z : q.1 = k
    · rw [if_pos z, z]; exact .inl rfl
    · rw [if_neg z]; exact .inr hq
  · rcases List.mem_append.mp h with h | h
    · exact .inr h
    · exact .inl (List.mem_singleton.mp h)
theorem IsD.nil {U : List Int} : IsD U [] fun _ => none := ⟨.nil, fun p h => absurd h List.not_mem_nil, fun _ => rfl⟩
theorem IsD.put {U : List Int} {ps : List (Key × D)} {m : Mp} {k v : Int} (h : IsD U ps m) (hk : k ∈ U) : IsD U (puD ps (.inl k) (.int v)) (setM m k v) := by
  refine ⟨?_, fun p hp => ?_, fun j => ?_⟩
  · rcases puD_keys ps (.inl k) (.int v) with ⟨e, _⟩ | ⟨e, n⟩
    · rw [e]; exact h.1
    · rw [e]
      exact List.nodup_append.mpr ⟨h.1, by simp, fun a ha b hb z => n (by rw [List.mem_singleton.mp hb] at z; exact z ▸ ha)⟩
  · rcases puD_mem hp with rfl | hp
    · exact ⟨k, v, rfl, hk⟩
    · exact h.2.1 p hp
  · rw [lkD_puD]
    unfold setM
    by_cases z : j = k
    · subst z; rw [if_pos rfl, if_pos rfl]; rfl
    · rw [if_neg (fun w => z (Sum.inl.inj w).symm), if_neg z]; exact h.2.2 j
theorem lkD_drD (ps : List (Key × D)) (k j : Key) : lkD (drD ps k) j = if k = j then none else lkD ps j := by
  unfold drD
  induction ps with
  | nil => simp [lkD]
  | cons p ps ih =>
    obtain ⟨x, y⟩ := p
    by_cases z : x = k
    · subst z
      rw [List.filter_cons_of_neg (by simp), ih, lkD_cons]
      by_cases e : x = j
      · rw [if_pos e, if_pos e]
      · rw [if_neg e, if_neg e, if_neg e]
    · rw [List.filter_cons_of_pos (by simpa using z), lkD_cons, lkD_cons, ih]
      by_cases e : x = j
      · rw [if_pos e, if_pos e, if_neg (fun w => z (e.trans w.symm))]
      · rw [if_neg e, if_neg e]
theorem IsD.drop {U : List Int} {ps : List (Key × D)} {m : Mp} {k : Int} (h : IsD U ps m) : IsD U (drD ps (.inl k)) (delM m k) := by
  refine ⟨h.1.sublist (List.Sublist.map _ List.filter_sublist), fun p hp => h.2.1 p (List.mem_filter.mp hp).1, fun j => ?_⟩
  rw [lkD_drD]
  unfold delM
  by_cases z : j = k
  · subst z; rw [if_pos rfl, if_pos rfl]; rfl
  · rw [if_neg (fun w => z (Sum.inl.inj w).symm), if_neg z]; exact h.2.2 j
/-- the keys, sorted, are told by what stands -/
theorem IsD.keys {U U' : List Int} {ps ps' : List (Key × D)} {m : Mp} (h : IsD U ps m) (h' : IsD U' ps' m) : ∃ ns ns' : List Int, ps.map (·.1) = ns.map Sum.inl ∧ ps'.map (·.1) = ns'.map Sum.inl ∧ srt ns = srt ns' := by
  have of : ∀ {U : List Int} {ps : List (Key × D)}, IsD U ps m → ∃ ns : List Int, ps.map (·.1) = ns.map Sum.inl ∧ ns.Nodup ∧ ∀ k, k ∈ ns ↔ (m k).isSome = true := by
    intro U ps h
    have intk : ∀ ps : List (Key × D), (∀ p ∈ ps, ∃ k v : Int, p = (.inl k, .int v) ∧ k ∈ U) → ∃ ns : List Int, ps.map (·.1) = ns.map Sum.inl := by
      intro ps
      induction ps with
      | nil => exact fun _ => ⟨[], rfl⟩
      | cons p ps ih =>
        intro hp
        obtain ⟨ns, e⟩ := ih fun q hq => hp q (List.mem_cons_of_mem _ hq)
        obtain ⟨k, v, rfl, _⟩ := hp p List.mem_cons_self
        exact ⟨k :: ns, by rw [List.map_cons, List.map_cons, e]⟩
    obtain ⟨ns, e⟩ := intk ps h.2.1
    have nd : ns.Nodup := by
      have := h.1
      rw [e] at this
      exact (List.pairwise_map.mp this).imp fun z w => z (by rw [w])
    refine ⟨ns, e, nd, fun k => ⟨fun hk => ?_, fun hk => ?_⟩⟩
    · have : (Sum.inl k : Key) ∈ ps.map (·.1) := by rw [e]; exact List.mem_map_of_mem hk
      have ex : (lkD ps (.inl k)).isSome = true := by
        obtain ⟨p, hp, ep⟩ := List.mem_map.mp this
        unfold lkD
        rw [Option.isSome_map]
        exact List.find?_isSome.mpr ⟨p, hp, by simp [ep]⟩
      rw [h.2.2 k, Option.isSome_map] at ex
      exact ex
    · obtain ⟨v, ev⟩ := Option.isSome_iff_exists.mp hk
      have l := h.2.2 k
      rw [ev] at l
      have := List.mem_map_of_mem (f := (·.1)) (lkD_mem l)
      rw [e] at this
      obtain ⟨k', hk', z⟩ := List.mem_map.mp this
      cases z
      exact hk'
  obtain ⟨ns, e, nd, hm⟩ := of h
  obtain ⟨ns', e', nd', hm'⟩ := of h'
  refine ⟨ns, ns', e, e', ?_⟩
  have pm : ns.Perm ns' := (List.perm_ext_iff_of_nodup nd nd').mpr fun k => by rw [hm k, hm' k]
  exact srt_one ((srt_perm ns).trans pm) (srt_le ns)
end Bm
set_option maxRecDepth 100000
set_option maxHeartbeats 4000000
/-! the law's own rule -/
namespace Bm
open PySem PySem.Spec L2 L3 LamX Dl PyProof.Rows
theorem relax_t {v a b : Int} {m : Mp} (h : (m a).isSome = true) : relax v m (a, b) = setM m b v := if_pos h
theorem relax_f {v a b : Int} {m : Mp} (h : (m a).isSome = false) : relax v m (a, b) = m := if_neg (by show ¬ (m a).isSome = true; rw [h]; simp)
section
variable {P : Program} {w : World} {K : PySem.W.Frag} {mg : Str → Option Value} {base : Heap}
def pairD (e : Int × Int) : D := .tup [.int e.1, .int e.2]
def t_led : TF := fun args er q => ∃ (ps rp : List (Key × D)) (v : Int) (U : List Int) (m : Mp) (E : Eds), args = [.par (.dct ps), .imm (.dct rp), .imm (.int v)] ∧ IsD U ps m ∧ valsOf rp = E.map pairD ∧ (∀ e ∈ E, e.2 ∈ U) ∧ U.length ≤ 100 ∧ E.length ≤ 100 ∧
  ∀ (ps' : List (Key × D)) (ρ' : Rho), IsD U ps' (led m E v) → ρ'.head? = some (.par (.dct ps')) → q (.imm .non) ρ'
theorem len_led : ∀ as er q, t_led as er q → as.length = 3 := fun as er q h => by
  obtain ⟨_, _, _, _, _, _, rfl, _⟩ := h
  rfl
theorem sc_led : FnScope ["_law_dates", "_law_running", "_law_date", "_law_turn", "_law_tail", "_law_head"] ["_law_dates", "_law_running", "_law_date"] (defScope s__law_led) := ⟨rfl, rfl, rfl, by decide +kernel, rfl, by decide +kernel, by decide +kernel⟩
theorem ok_led {f : Addr} {fd : FuncData} (F : Fun K "_law_led" "_law_led" s__law_led f fd) (T : T0 mg) : FnG P w K mg base CX0 2 f fd ["_law_dates", "_law_running", "_law_date"] (spD K 3 t_led) := by
  refine fun_d F sc_led (fun cdv A outer s H E gd hr => ⟨_, have hu := hu_of hr; (dss_one (ds_for PassesOwn.never rfl (di_range1 (by rfl) T.range_ (da_cons (de_bin (od_add (K := K)) (de_callB (cd_len (K := K)) (by rfl) T.len_ (by decide +kernel) (da_cons (dv 1) da_nil)) de_int) da_nil)) (dg_name (i := 3) sc_led.nd rfl (Or.inl rfl))
        (dss_one (ds_forD PassesOwn.never rfl (pi_values (pv 1)) dm_vals (dg_un (K := K) (by rfl) (dgs_name (i := 4) sc_led.nd rfl (Or.inl rfl) (dgs_name (i := 5) sc_led.nd rfl (Or.inl rfl) dgs_nil)) (dgsName_len (dgsName_len dgNil_len)))
            (dss_one (ds_if (dt_cmp (od_in (K := K) hr) (dv 4) (dv 0) (by rfl))
                (dss_one (ds_dput hu (pv 0) (dv 5) (dv 2) rfl))
                dss_nil))))))⟩) fun args er q hl h => ?_

  obtain ⟨ps, rp, v, U, m, E, rfl, hD, hE, hU, u100, e100, k⟩ := h
  have lr : rp.length = E.length := by have := congrArg List.length hE; simpa [valsOf] using this
  simp only [dBody, dSeq, dNext, dBreak, dCont, dDrop, dRet, dRetN, dIfS, dAsg, dgName, dgNil, dgsName, dgsPut, dgUn, dPar, dPar3, dVar, dC, dTake, dFrz, mkS, dBin, dBinO, dTest, dTru, dUn, dIsN, isNonB, dAnd, dOr, dNot, dAndV, dOrV, dNotV, asB, dIf, cnd, dNil, dCons, dTup, dLst, dNewD, dSub, dSl, dSlO, dNoPart, dPart, dIsi, dCallB, dCallO, wds, sds, wd, sd, rsv, Sl.dat, stv, notPar, Sl.with_, dCall, dCallK, argC, arC, useS, kindsB, Ar.sl, cond, ownL, ownD, upS, dLM, dLM0, isOwnL, isOwnD, dPop1, dPop2, dGet1, dGet2, isDct, dDput, dLput, dLput.known, dFld, dMth, dMth0, tyOk, dChain, dAugI, List.map_cons, List.map_nil, List.cons_append, List.nil_append, List.append_nil, List.length_cons, List.length_nil, List.replicate, List.getElem?_cons_zero, List.getElem?_cons_succ, List.getElem?_nil, List.set_cons_zero, List.set_cons_succ, Option.getD_some, Option.getD_none, Nat.reduceAdd, Nat.reduceSub, dNever, dYes, Nat.zero_le, dLc, dG, dSeqI, dOwnI, dLcD, dctS, dDc, dDcD, dFor, dForD, dRng1, dRng2, dEnum, noPar, wipeD, eqW, neW, D.key, itemsOf, keysOf, valsOf, gdT, isTy, tyD, notIns, List.any_cons, List.any_nil, Bool.or_false, Bool.or_true, Bool.true_or, Bool.false_or, Bool.not_true, Bool.not_false, String.reduceBEq, beq_self_eq_true, true_and, and_true, selN, sel, List.filterMap_cons, List.filterMap_nil, backR, back1, cleanR, clean1, clnR, List.tail_cons, List.head?_cons, List.not_mem_nil, false_implies, implies_true, List.nodup_nil, List.nodup_cons, not_false_eq_true, Ev.len_lst, Ev.len_tup, Ev.len_dct, Ev.len_set, Ev.len_str, Ev.add_int, Ev.add_str, Ev.add_tup, Ev.add_lst, Ev.mul_int, Ev.mul_lst, Ev.sub_lst, Ev.sub_tup, Ev.sub_str, Ev.sub_dctI, Ev.sub_dctS, Ev.cut_lst, Ev.cut_tup, Ev.cutL_lst, Ev.in_lst, Ev.in_tup, Ev.in_dctI, Ev.in_dctS, Ev.wI0_int, Ev.wII_int, Ev.neg_int, Ev.index_lst, Ev.set_lst, Ev.set_tup, Ev.all_lst, Ev.any_lst, Ev.list_lst, Ev.list_tup, Ev.list_dct, Ev.repr_one, Ev.dict_lst, Ev.tup_lst, Ev.tup_tup, Ev.append_one, Ev.pop_none, Ev.popAt_one, Ev.clear_none, Ev.extend_one, Ev.remove_one, Ev.seq_lst, Ev.seq_tup, Ev.enum_lst, Ev.enum_tup, Ev.int1_int, Ev.int2_int, Ev.int_int, Ev.max_int, Ev.min_int, Ev.opt_some, Ev.tru_lst, Ev.tru_tup, Ev.tru_int, Ev.par_imm, Ev.par_own, Ev.par_no, Ev.par_drw]
  refine ⟨by omega, by omega, ?_⟩
  refine for_ind (fun j ρ => ∃ (ps' : List (Key × D)) (m' : Mp) (x3 x4 x5 : Sl), ρ = [.par (.dct ps'), .imm (.dct rp), .imm (.int v), x3, x4, x5] ∧ (x3.isPar = false ∧ x4.isPar = false ∧ x5.isPar = false) ∧ IsD U ps' m' ∧ Rounds E m v j m') ⟨ps, m, _, _, _, rfl, ⟨rfl, rfl, rfl⟩, hD, .zero⟩ ?_ ?_
  · rintro j d ρ N ed ⟨ps', m', x3, x4, x5, rfl, ⟨p3, p4, p5⟩, hD', hR⟩ hN
    simp only [dBody, dSeq, dNext, dBreak, dCont, dDrop, dRet, dRetN, dIfS, dAsg, dgName, dgNil, dgsName, dgsPut, dgUn, dPar, dPar3, dVar, dC, dTake, dFrz, mkS, dBin, dBinO, dTest, dTru, dUn, dIsN, isNonB, dAnd, dOr, dNot, dAndV, dOrV, dNotV, asB, dIf, cnd, dNil, dCons, dTup, dLst, dNewD, dSub, dSl, dSlO, dNoPart, dPart, dIsi, dCallB, dCallO, wds, sds, wd, sd, rsv, Sl.dat, stv, notPar, Sl.with_, dCall, dCallK, argC, arC, useS, kindsB, Ar.sl, cond, ownL, ownD, upS, dLM, dLM0, isOwnL, isOwnD, dPop1, dPop2, dGet1, dGet2, isDct, dDput, dLput, dLput.known, dFld, dMth, dMth0, tyOk, dChain, dAugI, List.map_cons, List.map_nil, List.cons_append, List.nil_append, List.append_nil, List.length_cons, List.length_nil, List.replicate, List.getElem?_cons_zero, List.getElem?_cons_succ, List.getElem?_nil, List.set_cons_zero, List.set_cons_succ, Option.getD_some, Option.getD_none, Nat.reduceAdd, Nat.reduceSub, dNever, dYes, Nat.zero_le, dLc, dG, dSeqI, dOwnI, dLcD, dctS, dDc, dDcD, dFor, dForD, dRng1, dRng2, dEnum, noPar, wipeD, eqW, neW, D.key, itemsOf, keysOf, valsOf, gdT, isTy, tyD, notIns, List.any_cons, List.any_nil, Bool.or_false, Bool.or_true, Bool.true_or, Bool.false_or, Bool.not_true, Bool.not_false, String.reduceBEq, beq_self_eq_true, true_and, and_true, selN, sel, List.filterMap_cons, List.filterMap_nil, backR, back1, cleanR, clean1, clnR, List.tail_cons, List.head?_cons, List.not_mem_nil, false_implies, implies_true, List.nodup_nil, List.nodup_cons, not_false_eq_true, Ev.len_lst, Ev.len_tup, Ev.len_dct, Ev.len_set, Ev.len_str, Ev.add_int, Ev.add_str, Ev.add_tup, Ev.add_lst, Ev.mul_int, Ev.mul_lst, Ev.sub_lst, Ev.sub_tup, Ev.sub_str, Ev.sub_dctI, Ev.sub_dctS, Ev.cut_lst, Ev.cut_tup, Ev.cutL_lst, Ev.in_lst, Ev.in_tup, Ev.in_dctI, Ev.in_dctS, Ev.wI0_int, Ev.wII_int, Ev.neg_int, Ev.index_lst, Ev.set_lst, Ev.set_tup, Ev.all_lst, Ev.any_lst, Ev.list_lst, Ev.list_tup, Ev.list_dct, Ev.repr_one, Ev.dict_lst, Ev.tup_lst, Ev.tup_tup, Ev.append_one, Ev.pop_none, Ev.popAt_one, Ev.clear_none, Ev.extend_one, Ev.remove_one, Ev.seq_lst, Ev.seq_tup, Ev.enum_lst, Ev.enum_tup, Ev.int1_int, Ev.int2_int, Ev.int_int, Ev.max_int, Ev.min_int, Ev.opt_some, Ev.tru_lst, Ev.tru_tup, Ev.tru_int, Ev.par_imm, Ev.par_own, Ev.par_no, Ev.par_drw]
    refine ⟨p3, ?_⟩
    have eqv : (rp.map (·.2)) = E.map pairD := hE
    rw [eqv]
    refine for_ind (fun i ρ => ∃ (ps2 : List (Key × D)) (x4 x5 : Sl), ρ = [.par (.dct ps2), .imm (.dct rp), .imm (.int v), .imm d, x4, x5] ∧ (x4.isPar = false ∧ x5.isPar = false) ∧ IsD U ps2 ((E.take i).foldl (relax v) m')) ⟨ps', _, _, rfl, ⟨p4, p5⟩, hD'⟩ ?_ ?_
    · rintro i e ρ N2 ee ⟨ps2, y4, y5, rfl, ⟨q4, q5⟩, hD2⟩ hN2
      rw [List.getElem?_map] at ee
      obtain ⟨⟨a, b⟩, e1, rfl⟩ := Option.map_eq_some_iff.mp ee
      have hb := hU (a, b) (List.mem_of_getElem? e1)
      have fold : (E.take (i + 1)).foldl (relax v) m' = relax v ((E.take i).foldl (relax v) m') (a, b) := by rw [take_snoc e1, List.foldl_append]; rfl
      simp only [dBody, dSeq, dNext, dBreak, dCont, dDrop, dRet, dRetN, dIfS, dAsg, dgName, dgNil, dgsName, dgsPut, dgUn, dPar, dPar3, dVar, dC, dTake, dFrz, mkS, dBin, dBinO, dTest, dTru, dUn, dIsN, isNonB, dAnd, dOr, dNot, dAndV, dOrV, dNotV, asB, dIf, cnd, dNil, dCons, dTup, dLst, dNewD, dSub, dSl, dSlO, dNoPart, dPart, dIsi, dCallB, dCallO, wds, sds, wd, sd, rsv, Sl.dat, stv, notPar, Sl.with_, dCall, dCallK, argC, arC, useS, kindsB, Ar.sl, cond, ownL, ownD, upS, dLM, dLM0, isOwnL, isOwnD, dPop1, dPop2, dGet1, dGet2, isDct, dDput, dLput, dLput.known, dFld, dMth, dMth0, tyOk, dChain, dAugI, List.map_cons, List.map_nil, List.cons_append, List.nil_append, List.append_nil, List.length_cons, List.length_nil, List.replicate, List.getElem?_cons_zero, List.getElem?_cons_succ, List.getElem?_nil, List.set_cons_zero, List.set_cons_succ, Option.getD_some, Option.getD_none, Nat.reduceAdd, Nat.reduceSub, dNever, dYes, Nat.zero_le, dLc, dG, dSeqI, dOwnI, dLcD, dctS, dDc, dDcD, dFor, dForD, dRng1, dRng2, dEnum, noPar, wipeD, eqW, neW, D.key, itemsOf, keysOf, valsOf, gdT, isTy, tyD, notIns, List.any_cons, List.any_nil, Bool.or_false, Bool.or_true, Bool.true_or, Bool.false_or, Bool.not_true, Bool.not_false, String.reduceBEq, beq_self_eq_true, true_and, and_true, selN, sel, List.filterMap_cons, List.filterMap_nil, backR, back1, cleanR, clean1, clnR, List.tail_cons, List.head?_cons, List.not_mem_nil, false_implies, implies_true, List.nodup_nil, List.nodup_cons, not_false_eq_true, Ev.len_lst, Ev.len_tup, Ev.len_dct, Ev.len_set, Ev.len_str, Ev.add_int, Ev.add_str, Ev.add_tup, Ev.add_lst, Ev.mul_int, Ev.mul_lst, Ev.sub_lst, Ev.sub_tup, Ev.sub_str, Ev.sub_dctI, Ev.sub_dctS, Ev.cut_lst, Ev.cut_tup, Ev.cutL_lst, Ev.in_lst, Ev.in_tup, Ev.in_dctI, Ev.in_dctS, Ev.wI0_int, Ev.wII_int, Ev.neg_int, Ev.index_lst, Ev.set_lst, Ev.set_tup, Ev.all_lst, Ev.any_lst, Ev.list_lst, Ev.list_tup, Ev.list_dct, Ev.repr_one, Ev.dict_lst, Ev.tup_lst, Ev.tup_tup, Ev.append_one, Ev.pop_none, Ev.popAt_one, Ev.clear_none, Ev.extend_one, Ev.remove_one, Ev.seq_lst, Ev.seq_tup, Ev.enum_lst, Ev.enum_tup, Ev.int1_int, Ev.int2_int, Ev.int_int, Ev.max_int, Ev.min_int, Ev.opt_some, Ev.tru_lst, Ev.tru_tup, Ev.tru_int, Ev.par_imm, Ev.par_own, Ev.par_no, Ev.par_drw, pairD]
      refine ⟨q4, q5, ?_⟩
      have lk := hD2.2.2 a
      rw [lk, Option.isSome_map]
      have few : ps2.length < sizeLine := Nat.lt_of_le_of_lt hD2.len (small1000 (by omega))
      cases c : ((E.take i).foldl (relax v) m' a).isSome with
      | true =>
        refine ⟨few, hN2 _ ⟨_, _, _, rfl, ⟨rfl, rfl⟩, ?_⟩⟩
        rw [fold, relax_t c]
        exact hD2.put hb
      | false =>
        refine hN2 _ ⟨_, _, _, rfl, ⟨rfl, rfl⟩, ?_⟩
        rw [fold, relax_f c]
        exact hD2
    · rintro ρ ⟨ps2, y4, y5, rfl, ⟨q4, q5⟩, hD2⟩
      rw [List.length_map, List.take_length] at hD2
      exact hN _ ⟨ps2, _, _, _, _, rfl, ⟨rfl, q4, q5⟩, hD2, hR.next⟩
  · rintro ρ ⟨ps', m', x3, x4, x5, rfl, _, hD', hR⟩
    rw [List.length_map, List.length_range, lr] at hR
    have e : ((E.length : Int) + 1).toNat = E.length + 1 := by omega
    rw [e] at hR
    exact k ps' _ (by rw [← hR.led]; exact hD') rfl
/-! the model of the dates along the line -/
/-- where a transfer began, how, from where, to where -/
def begOf : List Ev → Nat → Int → Option (Nat × Bool × Int × Int)
  | [], _, _ => none
  | .beg n mv s t :: l, i, x => if n = x then some (i, mv, s, t) else begOf l (i + 1) x
  | .fin _ :: l, i, x => begOf l (i + 1) x
  | .vis _ :: l, i, x => begOf l (i + 1) x
def runL (l : List Ev) : List (Int × Int × Int) := l.filterMap fun e => match e with
  | .beg n _ s t => if n ∈ ended l then none else some (n, s, t)
  | _ => none
def edges (l : List Ev) : Eds := (runL l).map fun x => (x.2.1, x.2.2)
def leNow (m : Mp) (s : Int) (at_ : Int) : Bool := match m s with
  | some d => decide (d ≤ at_)
  | none => false
def pre (m : Mp) (l : List Ev) : Ev → Mp
  | .vis a => delM m a
  | .beg _ _ _ _ => m
  | .fin n => match begOf l 0 n with
    | some (i, mv, s, _) => if mv = true ∧ leNow m s i = true then delM m s else m
    | none => m
noncomputable def dts (m0 : Mp) (l : List Ev) : Nat → Mp
  | 0 => m0
  | k + 1 => match l[k]? with
    | some e => led (pre (dts m0 l k) (l.take k) e) (edges (l.take (k + 1))) ((k + 1 : Nat) : Int)
    | none => dts m0 l k
def m0 (o : List Int) : Mp := fun x => if x ∈ o then some (-1) else none
def outL (U : List Int) (m : Mp) : List Int := srt ((ddp U).filter fun k => (m k).isSome)
end
end Bm
set_option maxRecDepth 100000
set_option maxHeartbeats 4000000
/-! the law's own rule, along the line -/
namespace Bm
open PySem PySem.Spec L2 L3 LamX Dl PyProof.Rows
theorem ok_str' {s : Str} (h : PyData.strOk s = true) : okD (.str s) := ⟨rfl, by simp [SeqAt.shaped, D.py, PyData.canLay0, PyData.depth, h]⟩
theorem deq_str (a b : Str) : deq (.str a) (.str b) = (a == b) := by simp [deq, D.py, PyData.eqv]
def rpD (R : List (Int × Int × Int)) : List (Key × D) := R.map fun x => (.inl x.1, pairD x.2)
theorem lkD_rp (R : List (Int × Int × Int)) (n : Int) : (∃ x ∈ R, x.1 = n) → (lkD (rpD R) (.inl n)).isSome = true := by
  rintro ⟨x, hx, rfl⟩
  unfold lkD
  rw [Option.isSome_map]
  exact List.find?_isSome.mpr ⟨_, List.mem_map_of_mem hx, by simp⟩
theorem runL_beg {l : List Ev} {n s t : Int} {mv : Bool} (g : Good l) (h : n ∉ begun l) : runL (l ++ [.beg n mv s t]) = runL l ++ [(n, s, t)] := by
  have ne : n ∉ ended l := fun z => h (ended_begun g n z)
  have ee : ended (l ++ [.beg n mv s t]) = ended l := by rw [ended_snoc]; simp [ended]
  unfold runL
  rw [List.filterMap_append, ee]
  simp [ne]
def runF (S : List Int) (e : Ev) : Option (Int × Int × Int) := match e with
  | .beg n _ s t => if n ∈ S then none else some (n, s, t)
  | _ => none
theorem runF_fin (S : List Int) (n : Int) : ∀ l : List Ev, l.filterMap (runF (S ++ [n])) = (l.filterMap (runF S)).filter fun x => decide (x.1 ≠ n)
  | [] => rfl
  | .fin m :: l => runF_fin S n l
  | .vis m :: l => runF_fin S n l
  | .beg m mv s t :: l => by
    have ih := runF_fin S n l
    rw [List.filterMap_cons, List.filterMap_cons]
    by_cases z : m ∈ S
    · rw [show runF (S ++ [n]) (.beg m mv s t) = none from if_pos (List.mem_append_left _ z), show runF S (.beg m mv s t) = none from if_pos z]
      exact ih
    · rw [show runF S (.beg m mv s t) = some (m, s, t) from if_neg z]
      by_cases y : m = n
      · rw [show runF (S ++ [n]) (.beg m mv s t) = none from if_pos (List.mem_append_right _ (by rw [y]; exact List.mem_singleton.mpr rfl))]
        show _ = ((m, s, t) :: l.filterMap (runF S)).filter fun x => decide (x.1 ≠ n)
        rw [List.filter_cons_of_neg (by simp [y])]
        exact ih
      · rw [show runF (S ++ [n]) (.beg m mv s t) = some (m, s, t) from if_neg (fun w => (List.mem_append.mp w).elim z fun w => y (List.mem_singleton.mp w))]
        show (m, s, t) :: l.filterMap (runF (S ++ [n])) = ((m, s, t) :: l.filterMap (runF S)).filter fun x => decide (x.1 ≠ n)
        rw [List.filter_cons_of_pos (by simpa using y), ih]
theorem runL_F (l : List Ev) : runL l = l.filterMap (runF (ended l)) := rfl
theorem runL_fin {l : List Ev} {n : Int} : runL (l ++ [.fin n]) = (runL l).filter fun x => decide (x.1 ≠ n) := by
  have ee : ended (l ++ [.fin n]) = ended l ++ [n] := by rw [ended_snoc]; rfl
  rw [runL_F, runL_F, List.filterMap_append, ee, runF_fin]
  show _ ++ [] = _
  rw [List.append_nil]
theorem runL_vis {l : List Ev} {a : Int} : runL (l ++ [.vis a]) = runL l := by
  have ee : ended (l ++ [.vis a]) = ended l := by rw [ended_snoc]; simp [ended]
  unfold runL
  rw [List.filterMap_append, ee]
  simp
theorem mem_runL {l : List Ev} {n : Int} (h : n ∈ begun l) (h2 : n ∉ ended l) : ∃ x ∈ runL l, x.1 = n := by
  unfold begun at h
  obtain ⟨e, he, ee⟩ := List.mem_filterMap.mp h
  cases e with
  | beg m mv s t =>
    cases ee
    refine ⟨(n, s, t), List.mem_filterMap.mpr ⟨_, he, ?_⟩, rfl⟩
    simp [h2]
  | _ => cases ee
theorem runL_key {l : List Ev} {x : Int × Int × Int} (h : x ∈ runL l) : x.1 ∈ begun l ∧ x.1 ∉ ended l := by
  obtain ⟨e, he, ee⟩ := List.mem_filterMap.mp h
  cases e with
  | beg m mv s t =>
    by_cases z : m ∈ ended l
    · simp [z] at ee
    · simp [z] at ee
      subst ee
      exact ⟨List.mem_filterMap.mpr ⟨_, he, rfl⟩, z⟩
  | _ => cases ee
theorem rpD_drop (R : List (Int × Int × Int)) (n : Int) : drD (rpD R) (.inl n) = rpD (R.filter fun x => decide (x.1 ≠ n)) := by
  unfold drD rpD
  rw [List.filter_map]
  congr 1
  refine List.filter_congr fun x _ => ?_
  simp
theorem rpD_put {R : List (Int × Int × Int)} {n s t : Int} (h : ∀ x ∈ R, x.1 ≠ n) : puD (rpD R) (.inl n) (pairD (s, t)) = rpD (R ++ [(n, s, t)]) := by
  unfold puD
  rw [if_neg]
  · unfold rpD; rw [List.map_append]; rfl
  · intro z
    obtain ⟨p, hp, e⟩ := List.any_eq_true.mp z
    obtain ⟨x, hx, rfl⟩ := List.mem_map.mp hp
    exact h x hx (by simpa using e)
theorem begOf_none {x : Int} : ∀ {l : List Ev} {i : Nat}, x ∉ begun l → begOf l i x = none
  | [], _, _ => rfl
  | .beg n mv s t :: l, i, h => by
    have h1 : n ≠ x := fun z => h (by simp [begun, z])
    have h2 : x ∉ begun l := fun z => h (by simp only [begun, List.filterMap_cons]; exact List.mem_cons_of_mem _ z)
    show (if n = x then _ else begOf l (i + 1) x) = none
    rw [if_neg h1]; exact begOf_none h2
  | .fin n :: l, i, h => begOf_none (l := l) (i := i + 1) (fun z => h (by simpa [begun] using z))
  | .vis n :: l, i, h => begOf_none (l := l) (i := i + 1) (fun z => h (by simpa [begun] using z))
theorem begOf_snoc {x : Int} {e : Ev} : ∀ {l : List Ev} {i : Nat}, begOf (l ++ [e]) i x = match begOf l i x with | some r => some r | none => begOf [e] (i + l.length) x
  | [], i => by simp [begOf]
  | .beg n mv s t :: l, i => by
    show (if n = x then some (i, mv, s, t) else begOf (l ++ [e]) (i + 1) x) = _
    rw [begOf_snoc (l := l) (i := i + 1)]
    show _ = match (if n = x then some (i, mv, s, t) else begOf l (i + 1) x) with | some r => some r | none => begOf [e] (i + (l.length + 1)) x
    by_cases z : n = x
    · rw [if_pos z, if_pos z]
    · rw [if_neg z, if_neg z, show i + 1 + l.length = i + (l.length + 1) by omega]
  | .fin n :: l, i => by
    show begOf (l ++ [e]) (i + 1) x = _
    rw [begOf_snoc (l := l) (i := i + 1)]
    show _ = match begOf l (i + 1) x with | some r => some r | none => begOf [e] (i + (l.length + 1)) x
    rw [show i + 1 + l.length = i + (l.length + 1) by omega]
  | .vis n :: l, i => by
    show begOf (l ++ [e]) (i + 1) x = _
    rw [begOf_snoc (l := l) (i := i + 1)]
    show _ = match begOf l (i + 1) x with | some r => some r | none => begOf [e] (i + (l.length + 1)) x
    rw [show i + 1 + l.length = i + (l.length + 1) by omega]
theorem begOf_some {x : Int} : ∀ {l : List Ev} {i : Nat}, x ∈ begun l → ∃ r, begOf l i x = some r
  | [], _, h => absurd h List.not_mem_nil
  | .beg n mv s t :: l, i, h => by
    show ∃ r, (if n = x then some (i, mv, s, t) else begOf l (i + 1) x) = some r
    by_cases z : n = x
    · rw [if_pos z]; exact ⟨_, rfl⟩
    · rw [if_neg z]
      have h : x ∈ n :: begun l := h
      rcases List.mem_cons.mp h with e | h
      · exact (z e.symm).elim
      · exact begOf_some h
  | .fin n :: l, i, h => begOf_some (l := l) (i := i + 1) (by simpa [begun] using h)
  | .vis n :: l, i, h => begOf_some (l := l) (i := i + 1) (by simpa [begun] using h)
def begD (r : Nat × Bool × Int × Int) : D := .tup [.int (r.1 : Nat), .bl r.2.1, .int r.2.2.1]
def IsB (l : List Ev) (bp : List (Key × D)) : Prop := bp.length ≤ l.length ∧ ∀ n, lkD bp (.inl n) = (begOf l 0 n).map begD
theorem good_take {l : List Ev} (g : Good l) : ∀ k, Good (l.take k) := by
  induction g with
  | nil => intro k; rw [List.take_nil]; exact .nil
  | @snoc l e g o ih =>
    intro k
    by_cases h : k ≤ l.length
    · rw [List.take_append_of_le_length h]; exact ih k
    · rw [List.take_of_length_le (by rw [List.length_append]; simp; omega)]
      exact g.snoc o
theorem good_at {l : List Ev} (g : Good l) : ∀ {k : Nat} {e : Ev}, l[k]? = some e → okEv (l.take k) e := by
  induction g with
  | nil => intro k e h; simp at h
  | @snoc l e' g o ih =>
    intro k e h
    by_cases hk : k < l.length
    · rw [List.getElem?_append_left hk] at h
      rw [List.take_append_of_le_length (by omega)]
      exact ih h
    · have hk' : k = l.length := by
        have := (List.getElem?_eq_some_iff.mp h).1
        rw [List.length_append] at this
        simp at this
        omega
      subst hk'
      rw [List.getElem?_append_right (Nat.le_refl _), Nat.sub_self] at h
      simp at h
      subst h
      rw [List.take_append_of_le_length (Nat.le_refl _), List.take_length]
      exact o
theorem isD_mrg {U : List Int} {v : Int} : ∀ {o : List Int} {ps : List (Key × D)} {m : Mp}, IsD U ps m → (∀ x ∈ o, x ∈ U) → IsD U (mrgD ps (o.map fun x => ((.inl x : Key), D.int v))) (fun x => if x ∈ o then some v else m x)
  | [], ps, m, h, _ => by simpa [mrgD] using h
  | a :: o, ps, m, h, s => by
    have := isD_mrg (v := v) (o := o) (h.put (v := v) (s a List.mem_cons_self)) fun x hx => s x (List.mem_cons_of_mem _ hx)
    have e : (fun x => if x ∈ o then some v else setM m a v x) = fun x => if x ∈ a :: o then some v else m x := by
      funext x
      unfold setM
      by_cases z : x ∈ o
      · rw [if_pos z, if_pos (List.mem_cons_of_mem _ z)]
      · by_cases y : x = a
        · rw [if_neg z, if_pos y, if_pos (by rw [y]; exact List.mem_cons_self)]
        · rw [if_neg z, if_neg y, if_neg (fun w => (List.mem_cons.mp w).elim y z)]
    rw [e] at this
    exact this
theorem outL_keys {U : List Int} {ps : List (Key × D)} {m : Mp} (h : IsD U ps m) : ∃ ns : List Int, ps.map (·.1) = ns.map Sum.inl ∧ srt ns = outL U m := by
  obtain ⟨ns, _, e, _, _⟩ := h.keys h
  refine ⟨ns, e, ?_⟩
  have nd : ns.Nodup := by
    have := h.1
    rw [e] at this
    exact (List.pairwise_map.mp this).imp fun z w => z (by rw [w])
  have hm : ∀ k, k ∈ ns ↔ (m k).isSome = true := fun k => by
    have l := h.2.2 k
    constructor
    · intro hk
      have : (Sum.inl k : Key) ∈ ps.map (·.1) := by rw [e]; exact List.mem_map_of_mem hk
      obtain ⟨p, hp, ep⟩ := List.mem_map.mp this
      have : (lkD ps (.inl k)).isSome = true := by
        unfold lkD
        rw [Option.isSome_map]
        exact List.find?_isSome.mpr ⟨p, hp, by simp [ep]⟩
      rw [l, Option.isSome_map] at this
      exact this
    · intro hk
      obtain ⟨v, ev⟩ := Option.isSome_iff_exists.mp hk
      rw [ev] at l
      have := List.mem_map_of_mem (f := (·.1)) (lkD_mem l)
      rw [e] at this
      obtain ⟨k', hk', z⟩ := List.mem_map.mp this
      cases z
      exact hk'
  have pm : ns.Perm ((ddp U).filter fun k => (m k).isSome) := (List.perm_ext_iff_of_nodup nd ((ddp_ok U).1.sublist List.filter_sublist)).mpr fun k => by
    rw [hm k, List.mem_filter, (ddp_ok U).2 k]
    refine ⟨fun hk => ⟨?_, hk⟩, fun hk => hk.2⟩
    obtain ⟨v, ev⟩ := Option.isSome_iff_exists.mp hk
    have l := h.2.2 k
    rw [ev] at l
    obtain ⟨k', v', z, hk'⟩ := h.2.1 _ (lkD_mem l)
    cases z
    exact hk'
  exact srt_one ((srt_perm ns).trans pm) (srt_le ns)
end Bm
set_option maxRecDepth 100000
set_option maxHeartbeats 4000000
/-! the law's own rule: the walk -/
namespace Bm
open PySem PySem.Spec L2 L3 LamX Dl PyProof.Rows
theorem at0 (a : D) (r : List D) : atI (a :: r) 0 = some a := by
  unfold atI ixN
  rw [if_pos (by decide), if_pos (by rw [List.length_cons]; omega)]
  rfl
theorem at1 (a b : D) (r : List D) : atI (a :: b :: r) 1 = some b := by
  unfold atI ixN
  rw [if_pos (by decide), if_pos (by rw [List.length_cons, List.length_cons]; omega)]
  rfl
theorem at2 (a b c : D) (r : List D) : atI (a :: b :: c :: r) 2 = some c := by
  unfold atI ixN
  rw [if_pos (by decide), if_pos (by rw [List.length_cons, List.length_cons, List.length_cons]; omega)]
  rfl
theorem at3 (a b c d : D) (r : List D) : atI (a :: b :: c :: d :: r) 3 = some d := by
  unfold atI ixN
  rw [if_pos (by decide), if_pos (by rw [List.length_cons, List.length_cons, List.length_cons, List.length_cons]; omega)]
  rfl
theorem at4 (a b c d e : D) (r : List D) : atI (a :: b :: c :: d :: e :: r) 4 = some e := by
  unfold atI ixN
  rw [if_pos (by decide), if_pos (by rw [List.length_cons, List.length_cons, List.length_cons, List.length_cons, List.length_cons]; omega)]
  rfl
theorem cut35 (a b c d e : D) : Dl.cutD [a, b, c, d, e] (some 3) none = [d, e] := rfl
theorem ok_b : okD (.str (Str.ofString "begin")) ↔ True := iff_of_true (ok_str' (by decide +kernel)) trivial
theorem ok_e : okD (.str (Str.ofString "end")) ↔ True := iff_of_true (ok_str' (by decide +kernel)) trivial
theorem ok_v : okD (.str (Str.ofString "visit")) ↔ True := iff_of_true (ok_str' (by decide +kernel)) trivial
theorem ok_m : okD (.str (Str.ofString "move")) ↔ True := iff_of_true (ok_str' (by decide +kernel)) trivial
theorem ok_k (mv : Bool) : okD (.str (kdS mv)) ↔ True := by
  cases mv <;> exact iff_of_true (ok_str' (by decide +kernel)) trivial
theorem dq_bb : deq (.str (Str.ofString "begin")) (.str (Str.ofString "begin")) = true := by rw [deq_str]; decide +kernel
theorem dq_eb : deq (.str (Str.ofString "end")) (.str (Str.ofString "begin")) = false := by rw [deq_str]; decide +kernel
theorem dq_ee : deq (.str (Str.ofString "end")) (.str (Str.ofString "end")) = true := by rw [deq_str]; decide +kernel
theorem dq_vb : deq (.str (Str.ofString "visit")) (.str (Str.ofString "begin")) = false := by rw [deq_str]; decide +kernel
theorem dq_ve : deq (.str (Str.ofString "visit")) (.str (Str.ofString "end")) = false := by rw [deq_str]; decide +kernel
theorem dq_k (mv : Bool) : deq (.str (kdS mv)) (.str (Str.ofString "move")) = mv := by
  cases mv <;> (rw [deq_str]; decide +kernel)
theorem noNp_isD {U : List Int} {ps : List (Key × D)} {m : Mp} (h : IsD U ps m) (n : Nat) : D.noNp n ps = true := by
  have : ∀ ps : List (Key × D), (∀ p ∈ ps, ∃ k v : Int, p = (.inl k, .int v) ∧ k ∈ U) → D.noNp n ps = true := by
    intro ps
    induction ps with
    | nil => exact fun _ => rfl
    | cons p ps ih =>
      intro hp
      obtain ⟨k, v, rfl, _⟩ := hp p List.mem_cons_self
      show (D.noN n (.int v) && D.noNp n ps) = true
      rw [ih fun q hq => hp q (List.mem_cons_of_mem _ hq)]
      rfl
  exact this ps h.2.1
theorem vals_rp (R : List (Int × Int × Int)) : valsOf (rpD R) = (R.map fun x => (x.2.1, x.2.2)).map pairD := by
  unfold valsOf rpD
  rw [List.map_map, List.map_map]
  rfl
section
variable {P : Program} {w : World} {K : PySem.W.Frag} {mg : Str → Option Value} {base : Heap}
def t_ruled : TF := fun args er q => ∃ (o U : List Int) (l : List Ev), args = [.imm (.lst (o.map D.int)), .imm (.lst (l.map Ev.d))] ∧ Good l ∧ (∀ e ∈ l, smEv U e) ∧ (∀ x ∈ o, x ∈ U) ∧ U.length ≤ 100 ∧ l.length ≤ 100 ∧ o.length ≤ 100 ∧
  ∀ ρ', q (.imm (.lst ((outL U (dts (m0 o) l l.length)).map D.int))) ρ'
theorem len_ruled : ∀ as er q, t_ruled as er q → as.length = 2 := fun as er q h => by
  obtain ⟨_, _, _, rfl, _⟩ := h
  rfl
theorem sc_ruled : FnScope ["_law_origin", "_law_line_here", "_law_dates", "_law_running", "_law_begun_here", "_law_node", "_law_at", "_law_row", "_law_since", "_law_is_move", "_law_tail"] ["_law_origin", "_law_line_here"] (defScope s__law_ruled) := ⟨rfl, rfl, rfl, by decide +kernel, rfl, by decide +kernel, by decide +kernel⟩
theorem ok_ruled {f : Addr} {fd : FuncData} (F : Fun K "_law_ruled" "_law_ruled" s__law_ruled f fd) (T : T0 mg) (HL : HasD P w K mg base CX0 2 "_law_led" ["_law_dates", "_law_running", "_law_date"] 3 t_led) : FnG P w K mg base CX0 3 f fd ["_law_origin", "_law_line_here"] (spD K 2 t_ruled) := by
  refine fun_d F sc_ruled (fun cdv A outer s H E gd hr => ⟨_, have hu := hu_of hr; (dss_cons (ds_par3 (i := 2) (j := 3) (l := 4) (by rfl) sc_ruled.nd rfl rfl rfl (by decide) (by decide) (by decide) rfl rfl rfl (da_cons (de_callTO true (co_dict (K := K) rfl) (by rfl) T.dict_ (by decide +kernel) (da_cons (de_lc (own := [("_law_node", 5)]) false rfl sc_ruled.nd (di_g (di_seq (K := K) (dv 0))) (blkOk_by (own := [("_law_node", 5)]) (N := ["_law_origin", "_law_line_here", "_law_dates", "_law_running", "_law_begun_here", "_law_node", "_law_at", "_law_row", "_law_since", "_law_is_move", "_law_tail"]) (sc := defScope s__law_ruled) (by decide +kernel)) (fun _ _ _ _ _ => (dg_name (i := 5) sc_ruled.nd rfl (Or.inl rfl))) (fun _ _ _ _ _ => dts_nil) (fun _ _ _ _ _ => (de_tup (da_cons (dv 5) (da_cons (de_un un_negD de_int) da_nil))))) da_nil)) (da_cons (de_newD true) (da_cons (de_newD true) da_nil))) (by rfl))
      (dss_cons (ds_for PassesOwn.never rfl (di_enum (K := K) (by rfl) T.enumerate_ (dv 1)) (dg_un (K := K) (by rfl) (dgs_name (i := 6) sc_ruled.nd rfl (Or.inl rfl) (dgs_name (i := 7) sc_ruled.nd rfl (Or.inl rfl) dgs_nil)) (dgsName_len (dgsName_len dgNil_len)))
        (dss_cons (ds_if (dt_cmp (od_eq (K := K) hr) (de_sub (K := K) hu (dv 7) de_int (fun _ _ => rfl)) de_str (nomark _))
            (dss_one (ds_asg (de_tup (da_cons (de_slice (K := K) (dv 7) (do_some de_int) do_none) (da_cons (de_tup (da_cons (dv 6) (da_cons (de_cmp (od_eq (K := K) hr) (de_sub (K := K) hu (dv 7) de_int (fun _ _ => rfl)) de_str (nomark _)) (da_cons (de_sub (K := K) hu (dv 7) de_int (fun _ _ => rfl)) da_nil)))) da_nil))) (dg_un (K := K) (by rfl) (dgs_put hu (pv 3) (de_sub (K := K) hu (dv 7) de_int (fun _ _ => rfl)) (dgs_put hu (pv 4) (de_sub (K := K) hu (dv 7) de_int (fun _ _ => rfl)) dgs_nil)) (dgsPut_len (dgsPut_len dgNil_len (ex_sub (ex_var _) (ex_c _))) (ex_sub (ex_var _) (ex_c _))))))
            (dss_one (ds_if (dt_cmp (od_eq (K := K) hr) (de_sub (K := K) hu (dv 7) de_int (fun _ _ => rfl)) de_str (nomark _))
                (dss_cons (ds_expr (de_pop1 (pv 3) (de_sub (K := K) hu (dv 7) de_int (fun _ _ => rfl)) ⟨by rfl, by rfl, by rfl, by rfl⟩))
                  (dss_cons (ds_asg (de_sub (K := K) hu (dv 4) (de_sub (K := K) hu (dv 7) de_int (fun _ _ => rfl)) (fun _ _ => rfl)) (dg_un (K := K) (by rfl) (dgs_name (i := 8) sc_ruled.nd rfl (Or.inl rfl) (dgs_name (i := 9) sc_ruled.nd rfl (Or.inl rfl) (dgs_name (i := 10) sc_ruled.nd rfl (Or.inl rfl) dgs_nil))) (dgsName_len (dgsName_len (dgsName_len dgNil_len)))))
                  (dss_one (ds_if (dt_w (dw_and (dt_val (dv 9)) (dw_and (dt_cmp (od_in (K := K) hr) (dv 10) (dv 2) (by rfl)) (dw_and1 (dt_cmp od_le (de_sub (K := K) hu (dv 2) (dv 10) (fun _ _ => rfl)) (dv 8) (nomark _))))))
                    (dss_one (ds_expr (de_pop1 (pv 2) (dv 10) ⟨by rfl, by rfl, by rfl, by rfl⟩)))
                    dss_nil))))
                (dss_one (ds_if (dt_cmp (od_in (K := K) hr) (de_sub (K := K) hu (dv 7) de_int (fun _ _ => rfl)) (dv 2) (by rfl))
                    (dss_one (ds_expr (de_pop1 (pv 2) (de_sub (K := K) hu (dv 7) de_int (fun _ _ => rfl)) ⟨by rfl, by rfl, by rfl, by rfl⟩)))
                    dss_nil)))))
          (dss_one (ds_expr (de_callH [true, false, false] HL gd hr (by decide) (by rfl) pass0 (da_cons (dv 2) (da_cons (dv 3) (da_cons (de_bin (od_add (K := K)) (dv 6) de_int) da_nil))))))))
      (dss_one (ds_ret (de_callBO false (co_sorted (K := K) rfl) (by rfl) T.sorted_ (by decide +kernel) (da_cons (dv 2) da_nil))))))⟩) fun args er q hl h => ?_

  obtain ⟨o, U, l, rfl, g, sm, oU, u100, l100, o100, k⟩ := h
  simp only [dBody, dSeq, dNext, dBreak, dCont, dDrop, dRet, dRetN, dIfS, dAsg, dgName, dgNil, dgsName, dgsPut, dgUn, dPar, dPar3, dVar, dC, dTake, dFrz, mkS, dBin, dBinO, dTest, dTru, dUn, dIsN, isNonB, dAnd, dOr, dNot, dAndV, dOrV, dNotV, asB, dIf, cnd, dNil, dCons, dTup, dLst, dNewD, dSub, dSl, dSlO, dNoPart, dPart, dIsi, dCallB, dCallO, wds, sds, wd, sd, rsv, Sl.dat, stv, notPar, Sl.with_, dCall, dCallK, argC, arC, useS, kindsB, Ar.sl, cond, ownL, ownD, upS, dLM, dLM0, isOwnL, isOwnD, dPop1, dPop2, dGet1, dGet2, isDct, dDput, dLput, dLput.known, dFld, dMth, dMth0, tyOk, dChain, dAugI, List.map_cons, List.map_nil, List.cons_append, List.nil_append, List.append_nil, List.length_cons, List.length_nil, List.replicate, List.getElem?_cons_zero, List.getElem?_cons_succ, List.getElem?_nil, List.set_cons_zero, List.set_cons_succ, Option.getD_some, Option.getD_none, Nat.reduceAdd, Nat.reduceSub, dNever, dYes, Nat.zero_le, dLc, dG, dSeqI, dOwnI, dLcD, dctS, dDc, dDcD, dFor, dForD, dRng1, dRng2, dEnum, noPar, wipeD, eqW, neW, D.key, itemsOf, keysOf, valsOf, gdT, isTy, tyD, notIns, List.any_cons, List.any_nil, Bool.or_false, Bool.or_true, Bool.true_or, Bool.false_or, Bool.not_true, Bool.not_false, String.reduceBEq, beq_self_eq_true, true_and, and_true, selN, sel, List.filterMap_cons, List.filterMap_nil, backR, back1, cleanR, clean1, clnR, List.tail_cons, List.head?_cons, List.not_mem_nil, false_implies, implies_true, List.nodup_nil, List.nodup_cons, not_false_eq_true, Ev.len_lst, Ev.len_tup, Ev.len_dct, Ev.len_set, Ev.len_str, Ev.add_int, Ev.add_str, Ev.add_tup, Ev.add_lst, Ev.mul_int, Ev.mul_lst, Ev.sub_lst, Ev.sub_tup, Ev.sub_str, Ev.sub_dctI, Ev.sub_dctS, Ev.cut_lst, Ev.cut_tup, Ev.cutL_lst, Ev.in_lst, Ev.in_tup, Ev.in_dctI, Ev.in_dctS, Ev.wI0_int, Ev.wII_int, Ev.neg_int, Ev.index_lst, Ev.set_lst, Ev.set_tup, Ev.all_lst, Ev.any_lst, Ev.list_lst, Ev.list_tup, Ev.list_dct, Ev.repr_one, Ev.dict_lst, Ev.tup_lst, Ev.tup_tup, Ev.append_one, Ev.pop_none, Ev.popAt_one, Ev.clear_none, Ev.extend_one, Ev.remove_one, Ev.seq_lst, Ev.seq_tup, Ev.enum_lst, Ev.enum_tup, Ev.int1_int, Ev.int2_int, Ev.int_int, Ev.max_int, Ev.min_int, Ev.opt_some, Ev.tru_lst, Ev.tru_tup, Ev.tru_int, Ev.par_imm, Ev.par_own, Ev.par_no, Ev.par_drw]
  refine lc_map (fun d => .tup [d, .int (-1)]) rfl (by rw [List.length_map]; exact sizeLine_big (by omega)) True.intro (fun d acc N hd ha hN => ?_) ?_
  · simp only [dBody, dSeq, dNext, dBreak, dCont, dDrop, dRet, dRetN, dIfS, dAsg, dgName, dgNil, dgsName, dgsPut, dgUn, dPar, dPar3, dVar, dC, dTake, dFrz, mkS, dBin, dBinO, dTest, dTru, dUn, dIsN, isNonB, dAnd, dOr, dNot, dAndV, dOrV, dNotV, asB, dIf, cnd, dNil, dCons, dTup, dLst, dNewD, dSub, dSl, dSlO, dNoPart, dPart, dIsi, dCallB, dCallO, wds, sds, wd, sd, rsv, Sl.dat, stv, notPar, Sl.with_, dCall, dCallK, argC, arC, useS, kindsB, Ar.sl, cond, ownL, ownD, upS, dLM, dLM0, isOwnL, isOwnD, dPop1, dPop2, dGet1, dGet2, isDct, dDput, dLput, dLput.known, dFld, dMth, dMth0, tyOk, dChain, dAugI, List.map_cons, List.map_nil, List.cons_append, List.nil_append, List.append_nil, List.length_cons, List.length_nil, List.replicate, List.getElem?_cons_zero, List.getElem?_cons_succ, List.getElem?_nil, List.set_cons_zero, List.set_cons_succ, Option.getD_some, Option.getD_none, Nat.reduceAdd, Nat.reduceSub, dNever, dYes, Nat.zero_le, dLc, dG, dSeqI, dOwnI, dLcD, dctS, dDc, dDcD, dFor, dForD, dRng1, dRng2, dEnum, noPar, wipeD, eqW, neW, D.key, itemsOf, keysOf, valsOf, gdT, isTy, tyD, notIns, List.any_cons, List.any_nil, Bool.or_false, Bool.or_true, Bool.true_or, Bool.false_or, Bool.not_true, Bool.not_false, String.reduceBEq, beq_self_eq_true, true_and, and_true, selN, sel, List.filterMap_cons, List.filterMap_nil, backR, back1, cleanR, clean1, clnR, List.tail_cons, List.head?_cons, List.not_mem_nil, false_implies, implies_true, List.nodup_nil, List.nodup_cons, not_false_eq_true, Ev.len_lst, Ev.len_tup, Ev.len_dct, Ev.len_set, Ev.len_str, Ev.add_int, Ev.add_str, Ev.add_tup, Ev.add_lst, Ev.mul_int, Ev.mul_lst, Ev.sub_lst, Ev.sub_tup, Ev.sub_str, Ev.sub_dctI, Ev.sub_dctS, Ev.cut_lst, Ev.cut_tup, Ev.cutL_lst, Ev.in_lst, Ev.in_tup, Ev.in_dctI, Ev.in_dctS, Ev.wI0_int, Ev.wII_int, Ev.neg_int, Ev.index_lst, Ev.set_lst, Ev.set_tup, Ev.all_lst, Ev.any_lst, Ev.list_lst, Ev.list_tup, Ev.list_dct, Ev.repr_one, Ev.dict_lst, Ev.tup_lst, Ev.tup_tup, Ev.append_one, Ev.pop_none, Ev.popAt_one, Ev.clear_none, Ev.extend_one, Ev.remove_one, Ev.seq_lst, Ev.seq_tup, Ev.enum_lst, Ev.enum_tup, Ev.int1_int, Ev.int2_int, Ev.int_int, Ev.max_int, Ev.min_int, Ev.opt_some, Ev.tru_lst, Ev.tru_tup, Ev.tru_int, Ev.par_imm, Ev.par_own, Ev.par_no, Ev.par_drw]
    exact ⟨by decide, ha, hN⟩
  simp only [dBody, dSeq, dNext, dBreak, dCont, dDrop, dRet, dRetN, dIfS, dAsg, dgName, dgNil, dgsName, dgsPut, dgUn, dPar, dPar3, dVar, dC, dTake, dFrz, mkS, dBin, dBinO, dTest, dTru, dUn, dIsN, isNonB, dAnd, dOr, dNot, dAndV, dOrV, dNotV, asB, dIf, cnd, dNil, dCons, dTup, dLst, dNewD, dSub, dSl, dSlO, dNoPart, dPart, dIsi, dCallB, dCallO, wds, sds, wd, sd, rsv, Sl.dat, stv, notPar, Sl.with_, dCall, dCallK, argC, arC, useS, kindsB, Ar.sl, cond, ownL, ownD, upS, dLM, dLM0, isOwnL, isOwnD, dPop1, dPop2, dGet1, dGet2, isDct, dDput, dLput, dLput.known, dFld, dMth, dMth0, tyOk, dChain, dAugI, List.map_cons, List.map_nil, List.cons_append, List.nil_append, List.append_nil, List.length_cons, List.length_nil, List.replicate, List.getElem?_cons_zero, List.getElem?_cons_succ, List.getElem?_nil, List.set_cons_zero, List.set_cons_succ, Option.getD_some, Option.getD_none, Nat.reduceAdd, Nat.reduceSub, dNever, dYes, Nat.zero_le, dLc, dG, dSeqI, dOwnI, dLcD, dctS, dDc, dDcD, dFor, dForD, dRng1, dRng2, dEnum, noPar, wipeD, eqW, neW, D.key, itemsOf, keysOf, valsOf, gdT, isTy, tyD, notIns, List.any_cons, List.any_nil, Bool.or_false, Bool.or_true, Bool.true_or, Bool.false_or, Bool.not_true, Bool.not_false, String.reduceBEq, beq_self_eq_true, true_and, and_true, selN, sel, List.filterMap_cons, List.filterMap_nil, backR, back1, cleanR, clean1, clnR, List.tail_cons, List.head?_cons, List.not_mem_nil, false_implies, implies_true, List.nodup_nil, List.nodup_cons, not_false_eq_true, Ev.len_lst, Ev.len_tup, Ev.len_dct, Ev.len_set, Ev.len_str, Ev.add_int, Ev.add_str, Ev.add_tup, Ev.add_lst, Ev.mul_int, Ev.mul_lst, Ev.sub_lst, Ev.sub_tup, Ev.sub_str, Ev.sub_dctI, Ev.sub_dctS, Ev.cut_lst, Ev.cut_tup, Ev.cutL_lst, Ev.in_lst, Ev.in_tup, Ev.in_dctI, Ev.in_dctS, Ev.wI0_int, Ev.wII_int, Ev.neg_int, Ev.index_lst, Ev.set_lst, Ev.set_tup, Ev.all_lst, Ev.any_lst, Ev.list_lst, Ev.list_tup, Ev.list_dct, Ev.repr_one, Ev.dict_lst, Ev.tup_lst, Ev.tup_tup, Ev.append_one, Ev.pop_none, Ev.popAt_one, Ev.clear_none, Ev.extend_one, Ev.remove_one, Ev.seq_lst, Ev.seq_tup, Ev.enum_lst, Ev.enum_tup, Ev.int1_int, Ev.int2_int, Ev.int_int, Ev.max_int, Ev.min_int, Ev.opt_some, Ev.tru_lst, Ev.tru_tup, Ev.tru_int, Ev.par_imm, Ev.par_own, Ev.par_no, Ev.par_drw]
  have pd : pairsD ((o.map D.int).map fun d => D.tup [d, .int (-1)]) = some (o.map fun x => ((.inl x : Key), D.int (-1))) := by
    clear oU o100 k hl
    induction o with
    | nil => rfl
    | cons a o ih =>
      rw [List.map_cons, List.map_cons, List.map_cons]
      show ((D.int a).key.bind fun j => (pairsD _).map fun ps => (j, D.int (-1)) :: ps) = _
      rw [ih]
      rfl
  rw [pd]
  simp only [Ev.opt_some]
  have hD0 := isD_mrg (U := U) (v := -1) .nil oU
  have em : (fun x => if x ∈ o then some (-1 : Int) else (fun _ : Int => (none : Option Int)) x) = m0 o := rfl
  rw [em] at hD0
  refine for_ind (fun j ρ => ∃ (ps bp : List (Key × D)) (x5 x6 x7 x8 x9 : Sl), ρ = [.imm (.lst (o.map D.int)), .imm (.lst (l.map Ev.d)), .own (.dct ps), .own (.dct (rpD (runL (l.take j)))), .own (.dct bp), .no, x5, x6, x7, x8, x9] ∧ (x5.isPar = false ∧ x6.isPar = false ∧ x7.isPar = false ∧ x8.isPar = false ∧ x9.isPar = false) ∧ IsD U ps (dts (m0 o) l j) ∧ IsB (l.take j) bp) ?_ ?_ ?_
  · exact ⟨_, [], _, _, _, _, _, rfl, ⟨rfl, rfl, rfl, rfl, rfl⟩, hD0, Nat.zero_le _, fun n => rfl⟩
  · rintro j d ρ N ed ⟨ps, bp, x5, x6, x7, x8, x9, rfl, ⟨p5, p6, p7, p8, p9⟩, hD, hB⟩ hN
    obtain ⟨d', ed', rfl⟩ := enumD_at ed
    rw [List.getElem?_map] at ed'
    obtain ⟨e, ee, rfl⟩ := Option.map_eq_some_iff.mp ed'
    have lj := (List.getElem?_eq_some_iff.mp ee).1
    have tk : l.take (j + 1) = l.take j ++ [e] := take_snoc ee
    have oke := good_at g ee
    have gj := good_take g j
    have step : dts (m0 o) l (j + 1) = led (pre (dts (m0 o) l j) (l.take j) e) (edges (l.take (j + 1))) ((j : Int) + 1) := by
      show (match l[j]? with | some e => led (pre (dts (m0 o) l j) (l.take j) e) (edges (l.take (j + 1))) ((j + 1 : Nat) : Int) | none => dts (m0 o) l j) = _
      rw [ee]
      rfl
    have hEU : ∀ x ∈ edges (l.take (j + 1)), x.2 ∈ U := by
      intro x hx
      obtain ⟨y, hy, rfl⟩ := List.mem_map.mp hx
      obtain ⟨z, hz, ez⟩ := List.mem_filterMap.mp hy
      have hs := sm z (List.mem_of_mem_take hz)
      cases z with
      | beg n mv s t =>
        by_cases w : n ∈ ended (l.take (j + 1))
        · simp [w] at ez
        · simp [w] at ez
          subst ez
          exact hs.2.2
      | _ => cases ez
    have lenR : ∀ i, (runL (l.take i)).length ≤ 100 := fun i => Nat.le_trans (List.length_filterMap_le _ _) (by rw [List.length_take]; omega)
    have e100 : (edges (l.take (j + 1))).length ≤ 100 := by unfold edges; rw [List.length_map]; exact lenR _
    have fewR : (rpD (runL (l.take j))).length < sizeLine := by unfold rpD; rw [List.length_map]; exact small1000 (by have := lenR j; omega)
    have fewB : bp.length < sizeLine := by have := hB.1; rw [List.length_take] at this; exact small1000 (by omega)
    have val := vals_rp (runL (l.take (j + 1)))
    simp only [dBody, dSeq, dNext, dBreak, dCont, dDrop, dRet, dRetN, dIfS, dAsg, dgName, dgNil, dgsName, dgsPut, dgUn, dPar, dPar3, dVar, dC, dTake, dFrz, mkS, dBin, dBinO, dTest, dTru, dUn, dIsN, isNonB, dAnd, dOr, dNot, dAndV, dOrV, dNotV, asB, dIf, cnd, dNil, dCons, dTup, dLst, dNewD, dSub, dSl, dSlO, dNoPart, dPart, dIsi, dCallB, dCallO, wds, sds, wd, sd, rsv, Sl.dat, stv, notPar, Sl.with_, dCall, dCallK, argC, arC, useS, kindsB, Ar.sl, cond, ownL, ownD, upS, dLM, dLM0, isOwnL, isOwnD, dPop1, dPop2, dGet1, dGet2, isDct, dDput, dLput, dLput.known, dFld, dMth, dMth0, tyOk, dChain, dAugI, List.map_cons, List.map_nil, List.cons_append, List.nil_append, List.append_nil, List.length_cons, List.length_nil, List.replicate, List.getElem?_cons_zero, List.getElem?_cons_succ, List.getElem?_nil, List.set_cons_zero, List.set_cons_succ, Option.getD_some, Option.getD_none, Nat.reduceAdd, Nat.reduceSub, dNever, dYes, Nat.zero_le, dLc, dG, dSeqI, dOwnI, dLcD, dctS, dDc, dDcD, dFor, dForD, dRng1, dRng2, dEnum, noPar, wipeD, eqW, neW, D.key, itemsOf, keysOf, valsOf, gdT, isTy, tyD, notIns, List.any_cons, List.any_nil, Bool.or_false, Bool.or_true, Bool.true_or, Bool.false_or, Bool.not_true, Bool.not_false, String.reduceBEq, beq_self_eq_true, true_and, and_true, selN, sel, List.filterMap_cons, List.filterMap_nil, backR, back1, cleanR, clean1, clnR, List.tail_cons, List.head?_cons, List.not_mem_nil, false_implies, implies_true, List.nodup_nil, List.nodup_cons, not_false_eq_true, Ev.len_lst, Ev.len_tup, Ev.len_dct, Ev.len_set, Ev.len_str, Ev.add_int, Ev.add_str, Ev.add_tup, Ev.add_lst, Ev.mul_int, Ev.mul_lst, Ev.sub_lst, Ev.sub_tup, Ev.sub_str, Ev.sub_dctI, Ev.sub_dctS, Ev.cut_lst, Ev.cut_tup, Ev.cutL_lst, Ev.in_lst, Ev.in_tup, Ev.in_dctI, Ev.in_dctS, Ev.wI0_int, Ev.wII_int, Ev.neg_int, Ev.index_lst, Ev.set_lst, Ev.set_tup, Ev.all_lst, Ev.any_lst, Ev.list_lst, Ev.list_tup, Ev.list_dct, Ev.repr_one, Ev.dict_lst, Ev.tup_lst, Ev.tup_tup, Ev.append_one, Ev.pop_none, Ev.popAt_one, Ev.clear_none, Ev.extend_one, Ev.remove_one, Ev.seq_lst, Ev.seq_tup, Ev.enum_lst, Ev.enum_tup, Ev.int1_int, Ev.int2_int, Ev.int_int, Ev.max_int, Ev.min_int, Ev.opt_some, Ev.tru_lst, Ev.tru_tup, Ev.tru_int, Ev.par_imm, Ev.par_own, Ev.par_no, Ev.par_drw]
    refine ⟨p5, p6, ?_⟩
    cases e with
    | beg n mv s t =>
      simp only [Ev.d, dBody, dSeq, dNext, dBreak, dCont, dDrop, dRet, dRetN, dIfS, dAsg, dgName, dgNil, dgsName, dgsPut, dgUn, dPar, dPar3, dVar, dC, dTake, dFrz, mkS, dBin, dBinO, dTest, dTru, dUn, dIsN, isNonB, dAnd, dOr, dNot, dAndV, dOrV, dNotV, asB, dIf, cnd, dNil, dCons, dTup, dLst, dNewD, dSub, dSl, dSlO, dNoPart, dPart, dIsi, dCallB, dCallO, wds, sds, wd, sd, rsv, Sl.dat, stv, notPar, Sl.with_, dCall, dCallK, argC, arC, useS, kindsB, Ar.sl, cond, ownL, ownD, upS, dLM, dLM0, isOwnL, isOwnD, dPop1, dPop2, dGet1, dGet2, isDct, dDput, dLput, dLput.known, dFld, dMth, dMth0, tyOk, dChain, dAugI, List.map_cons, List.map_nil, List.cons_append, List.nil_append, List.append_nil, List.length_cons, List.length_nil, List.replicate, List.getElem?_cons_zero, List.getElem?_cons_succ, List.getElem?_nil, List.set_cons_zero, List.set_cons_succ, Option.getD_some, Option.getD_none, Nat.reduceAdd, Nat.reduceSub, dNever, dYes, Nat.zero_le, dLc, dG, dSeqI, dOwnI, dLcD, dctS, dDc, dDcD, dFor, dForD, dRng1, dRng2, dEnum, noPar, wipeD, eqW, neW, D.key, itemsOf, keysOf, valsOf, gdT, isTy, tyD, notIns, List.any_cons, List.any_nil, Bool.or_false, Bool.or_true, Bool.true_or, Bool.false_or, Bool.not_true, Bool.not_false, String.reduceBEq, beq_self_eq_true, true_and, and_true, selN, sel, List.filterMap_cons, List.filterMap_nil, backR, back1, cleanR, clean1, clnR, List.tail_cons, List.head?_cons, List.not_mem_nil, false_implies, implies_true, List.nodup_nil, List.nodup_cons, not_false_eq_true, Ev.len_lst, Ev.len_tup, Ev.len_dct, Ev.len_set, Ev.len_str, Ev.add_int, Ev.add_str, Ev.add_tup, Ev.add_lst, Ev.mul_int, Ev.mul_lst, Ev.sub_lst, Ev.sub_tup, Ev.sub_str, Ev.sub_dctI, Ev.sub_dctS, Ev.cut_lst, Ev.cut_tup, Ev.cutL_lst, Ev.in_lst, Ev.in_tup, Ev.in_dctI, Ev.in_dctS, Ev.wI0_int, Ev.wII_int, Ev.neg_int, Ev.index_lst, Ev.set_lst, Ev.set_tup, Ev.all_lst, Ev.any_lst, Ev.list_lst, Ev.list_tup, Ev.list_dct, Ev.repr_one, Ev.dict_lst, Ev.tup_lst, Ev.tup_tup, Ev.append_one, Ev.pop_none, Ev.popAt_one, Ev.clear_none, Ev.extend_one, Ev.remove_one, Ev.seq_lst, Ev.seq_tup, Ev.enum_lst, Ev.enum_tup, Ev.int1_int, Ev.int2_int, Ev.int_int, Ev.max_int, Ev.min_int, Ev.opt_some, Ev.tru_lst, Ev.tru_tup, Ev.tru_int, Ev.par_imm, Ev.par_own, Ev.par_no, Ev.par_drw, at0, at1, at2, at3, at4, cut35, ok_b, ok_k, ok_m, dq_bb, dq_k]
      have rpe : puD (rpD (runL (l.take j))) (.inl n) (.tup [.int s, .int t]) = rpD (runL (l.take (j + 1))) := by
        rw [tk, runL_beg gj oke.1]
        exact rpD_put fun x hx z => oke.1 (z ▸ (runL_key hx).1)
      rw [rpe]
      refine ⟨by decide, by decide, fewR, fewB, by decide, ?_⟩
      refine ⟨_, _, _, U, dts (m0 o) l j, edges (l.take (j + 1)), rfl, hD, val, hEU, u100, e100, fun ps' ρ' hD' hh => ?_⟩
      simp only [hh]
      refine ⟨fun n _ => rfl, fun n _ => noNp_isD hD' n, hN _ ⟨ps', _, _, _, _, _, _, rfl, ⟨rfl, rfl, p7, p8, p9⟩, by rw [step]; exact hD', ?_⟩⟩
      rw [tk]
      refine ⟨?_, fun x => ?_⟩
      · have h1 := hB.1
        have h2 : (puD bp (.inl n) (.tup [.int j, .bl mv, .int s])).length ≤ bp.length + 1 := by
          have := (puD_keys bp (.inl n) (.tup [.int j, .bl mv, .int s]))
          rcases this with ⟨e, _⟩ | ⟨e, _⟩
          · have := congrArg List.length e
            simp only [List.length_map] at this
            omega
          · have := congrArg List.length e
            simp only [List.length_map, List.length_append, List.length_singleton] at this
            omega
        rw [List.length_append, List.length_singleton]
        omega
      · rw [lkD_puD, begOf_snoc, hB.2 x]
        have ln : 0 + (l.take j).length = j := by rw [List.length_take]; omega
        rw [ln]
        by_cases z : n = x
        · subst z
          rw [if_pos rfl, begOf_none oke.1]
          show _ = Option.map begD (if n = n then some (j, mv, s, t) else none)
          rw [if_pos rfl]
          rfl
        · rw [if_neg (fun w => z (Sum.inl.inj w))]
          cases begOf (l.take j) 0 x with
          | some r => rfl
          | none =>
            show none = Option.map begD (if n = x then some (j, mv, s, t) else none)
            rw [if_neg z]
            rfl
    | fin n =>
      simp only [Ev.d, dBody, dSeq, dNext, dBreak, dCont, dDrop, dRet, dRetN, dIfS, dAsg, dgName, dgNil, dgsName, dgsPut, dgUn, dPar, dPar3, dVar, dC, dTake, dFrz, mkS, dBin, dBinO, dTest, dTru, dUn, dIsN, isNonB, dAnd, dOr, dNot, dAndV, dOrV, dNotV, asB, dIf, cnd, dNil, dCons, dTup, dLst, dNewD, dSub, dSl, dSlO, dNoPart, dPart, dIsi, dCallB, dCallO, wds, sds, wd, sd, rsv, Sl.dat, stv, notPar, Sl.with_, dCall, dCallK, argC, arC, useS, kindsB, Ar.sl, cond, ownL, ownD, upS, dLM, dLM0, isOwnL, isOwnD, dPop1, dPop2, dGet1, dGet2, isDct, dDput, dLput, dLput.known, dFld, dMth, dMth0, tyOk, dChain, dAugI, List.map_cons, List.map_nil, List.cons_append, List.nil_append, List.append_nil, List.length_cons, List.length_nil, List.replicate, List.getElem?_cons_zero, List.getElem?_cons_succ, List.getElem?_nil, List.set_cons_zero, List.set_cons_succ, Option.getD_some, Option.getD_none, Nat.reduceAdd, Nat.reduceSub, dNever, dYes, Nat.zero_le, dLc, dG, dSeqI, dOwnI, dLcD, dctS, dDc, dDcD, dFor, dForD, dRng1, dRng2, dEnum, noPar, wipeD, eqW, neW, D.key, itemsOf, keysOf, valsOf, gdT, isTy, tyD, notIns, List.any_cons, List.any_nil, Bool.or_false, Bool.or_true, Bool.true_or, Bool.false_or, Bool.not_true, Bool.not_false, String.reduceBEq, beq_self_eq_true, true_and, and_true, selN, sel, List.filterMap_cons, List.filterMap_nil, backR, back1, cleanR, clean1, clnR, List.tail_cons, List.head?_cons, List.not_mem_nil, false_implies, implies_true, List.nodup_nil, List.nodup_cons, not_false_eq_true, Ev.len_lst, Ev.len_tup, Ev.len_dct, Ev.len_set, Ev.len_str, Ev.add_int, Ev.add_str, Ev.add_tup, Ev.add_lst, Ev.mul_int, Ev.mul_lst, Ev.sub_lst, Ev.sub_tup, Ev.sub_str, Ev.sub_dctI, Ev.sub_dctS, Ev.cut_lst, Ev.cut_tup, Ev.cutL_lst, Ev.in_lst, Ev.in_tup, Ev.in_dctI, Ev.in_dctS, Ev.wI0_int, Ev.wII_int, Ev.neg_int, Ev.index_lst, Ev.set_lst, Ev.set_tup, Ev.all_lst, Ev.any_lst, Ev.list_lst, Ev.list_tup, Ev.list_dct, Ev.repr_one, Ev.dict_lst, Ev.tup_lst, Ev.tup_tup, Ev.append_one, Ev.pop_none, Ev.popAt_one, Ev.clear_none, Ev.extend_one, Ev.remove_one, Ev.seq_lst, Ev.seq_tup, Ev.enum_lst, Ev.enum_tup, Ev.int1_int, Ev.int2_int, Ev.int_int, Ev.max_int, Ev.min_int, Ev.opt_some, Ev.tru_lst, Ev.tru_tup, Ev.tru_int, Ev.par_imm, Ev.par_own, Ev.par_no, Ev.par_drw, at0, at1, at2, at3, at4, ok_b, ok_e, dq_eb, dq_ee]
      obtain ⟨⟨i, mv, s, t⟩, er⟩ := begOf_some (i := 0) oke.1
      have lb := hB.2 n
      rw [er] at lb
      obtain ⟨d0, ed0⟩ := Option.isSome_iff_exists.mp (lkD_rp (runL (l.take j)) n (mem_runL oke.1 oke.2))
      rw [ed0, lb]
      simp only [Option.map_some, begD, dBody, dSeq, dNext, dBreak, dCont, dDrop, dRet, dRetN, dIfS, dAsg, dgName, dgNil, dgsName, dgsPut, dgUn, dPar, dPar3, dVar, dC, dTake, dFrz, mkS, dBin, dBinO, dTest, dTru, dUn, dIsN, isNonB, dAnd, dOr, dNot, dAndV, dOrV, dNotV, asB, dIf, cnd, dNil, dCons, dTup, dLst, dNewD, dSub, dSl, dSlO, dNoPart, dPart, dIsi, dCallB, dCallO, wds, sds, wd, sd, rsv, Sl.dat, stv, notPar, Sl.with_, dCall, dCallK, argC, arC, useS, kindsB, Ar.sl, cond, ownL, ownD, upS, dLM, dLM0, isOwnL, isOwnD, dPop1, dPop2, dGet1, dGet2, isDct, dDput, dLput, dLput.known, dFld, dMth, dMth0, tyOk, dChain, dAugI, List.map_cons, List.map_nil, List.cons_append, List.nil_append, List.append_nil, List.length_cons, List.length_nil, List.replicate, List.getElem?_cons_zero, List.getElem?_cons_succ, List.getElem?_nil, List.set_cons_zero, List.set_cons_succ, Option.getD_some, Option.getD_none, Nat.reduceAdd, Nat.reduceSub, dNever, dYes, Nat.zero_le, dLc, dG, dSeqI, dOwnI, dLcD, dctS, dDc, dDcD, dFor, dForD, dRng1, dRng2, dEnum, noPar, wipeD, eqW, neW, D.key, itemsOf, keysOf, valsOf, gdT, isTy, tyD, notIns, List.any_cons, List.any_nil, Bool.or_false, Bool.or_true, Bool.true_or, Bool.false_or, Bool.not_true, Bool.not_false, String.reduceBEq, beq_self_eq_true, true_and, and_true, selN, sel, List.filterMap_cons, List.filterMap_nil, backR, back1, cleanR, clean1, clnR, List.tail_cons, List.head?_cons, List.not_mem_nil, false_implies, implies_true, List.nodup_nil, List.nodup_cons, not_false_eq_true, Ev.len_lst, Ev.len_tup, Ev.len_dct, Ev.len_set, Ev.len_str, Ev.add_int, Ev.add_str, Ev.add_tup, Ev.add_lst, Ev.mul_int, Ev.mul_lst, Ev.sub_lst, Ev.sub_tup, Ev.sub_str, Ev.sub_dctI, Ev.sub_dctS, Ev.cut_lst, Ev.cut_tup, Ev.cutL_lst, Ev.in_lst, Ev.in_tup, Ev.in_dctI, Ev.in_dctS, Ev.wI0_int, Ev.wII_int, Ev.neg_int, Ev.index_lst, Ev.set_lst, Ev.set_tup, Ev.all_lst, Ev.any_lst, Ev.list_lst, Ev.list_tup, Ev.list_dct, Ev.repr_one, Ev.dict_lst, Ev.tup_lst, Ev.tup_tup, Ev.append_one, Ev.pop_none, Ev.popAt_one, Ev.clear_none, Ev.extend_one, Ev.remove_one, Ev.seq_lst, Ev.seq_tup, Ev.enum_lst, Ev.enum_tup, Ev.int1_int, Ev.int2_int, Ev.int_int, Ev.max_int, Ev.min_int, Ev.opt_some, Ev.tru_lst, Ev.tru_tup, Ev.tru_int, Ev.par_imm, Ev.par_own, Ev.par_no, Ev.par_drw]
      refine ⟨p7, p8, p9, ?_⟩
      have rpe : drD (rpD (runL (l.take j))) (.inl n) = rpD (runL (l.take (j + 1))) := by rw [tk, runL_fin, rpD_drop]
      rw [rpe]
      have pe : pre (dts (m0 o) l j) (l.take j) (.fin n) = if mv = true ∧ leNow (dts (m0 o) l j) s i = true then delM (dts (m0 o) l j) s else dts (m0 o) l j := by
        show (match begOf (l.take j) 0 n with | some (i, mv, s, _) => if mv = true ∧ leNow (dts (m0 o) l j) s i = true then delM (dts (m0 o) l j) s else dts (m0 o) l j | none => dts (m0 o) l j) = _
        rw [er]
      have ib : IsB (l.take (j + 1)) bp := by
        rw [tk]
        refine ⟨by rw [List.length_append]; exact Nat.le_add_right_of_le hB.1, fun x => ?_⟩
        rw [begOf_snoc, hB.2 x]
        cases begOf (l.take j) 0 x <;> rfl
      have lk := hD.2.2 s
      cases mv with
      | false =>
        simp only
        rw [if_neg (by simp)] at pe
        refine ⟨by decide, _, _, _, U, dts (m0 o) l j, edges (l.take (j + 1)), rfl, hD, val, hEU, u100, e100, fun ps' ρ' hD' hh => ?_⟩
        simp only [hh]
        exact ⟨fun n _ => rfl, fun n _ => noNp_isD hD' n, hN _ ⟨ps', _, _, _, _, _, _, rfl, ⟨rfl, rfl, rfl, rfl, rfl⟩, by rw [step, pe]; exact hD', ib⟩⟩
      | true =>
        simp only
        rw [lk]
        cases ms : dts (m0 o) l j s with
        | none =>
          simp only [Option.map_none, Option.isSome_none, Bool.false_eq_true, if_false]
          rw [if_neg (by simp [leNow, ms])] at pe
          refine ⟨by decide, _, _, _, U, dts (m0 o) l j, edges (l.take (j + 1)), rfl, hD, val, hEU, u100, e100, fun ps' ρ' hD' hh => ?_⟩
          simp only [hh]
          exact ⟨fun n _ => rfl, fun n _ => noNp_isD hD' n, hN _ ⟨ps', _, _, _, _, _, _, rfl, ⟨rfl, rfl, rfl, rfl, rfl⟩, by rw [step, pe]; exact hD', ib⟩⟩
        | some dv =>
          simp only [Option.map_some, Option.isSome_some, Bool.false_eq_true, if_false, dBody, dSeq, dNext, dBreak, dCont, dDrop, dRet, dRetN, dIfS, dAsg, dgName, dgNil, dgsName, dgsPut, dgUn, dPar, dPar3, dVar, dC, dTake, dFrz, mkS, dBin, dBinO, dTest, dTru, dUn, dIsN, isNonB, dAnd, dOr, dNot, dAndV, dOrV, dNotV, asB, dIf, cnd, dNil, dCons, dTup, dLst, dNewD, dSub, dSl, dSlO, dNoPart, dPart, dIsi, dCallB, dCallO, wds, sds, wd, sd, rsv, Sl.dat, stv, notPar, Sl.with_, dCall, dCallK, argC, arC, useS, kindsB, Ar.sl, cond, ownL, ownD, upS, dLM, dLM0, isOwnL, isOwnD, dPop1, dPop2, dGet1, dGet2, isDct, dDput, dLput, dLput.known, dFld, dMth, dMth0, tyOk, dChain, dAugI, List.map_cons, List.map_nil, List.cons_append, List.nil_append, List.append_nil, List.length_cons, List.length_nil, List.replicate, List.getElem?_cons_zero, List.getElem?_cons_succ, List.getElem?_nil, List.set_cons_zero, List.set_cons_succ, Option.getD_some, Option.getD_none, Nat.reduceAdd, Nat.reduceSub, dNever, dYes, Nat.zero_le, dLc, dG, dSeqI, dOwnI, dLcD, dctS, dDc, dDcD, dFor, dForD, dRng1, dRng2, dEnum, noPar, wipeD, eqW, neW, D.key, itemsOf, keysOf, valsOf, gdT, isTy, tyD, notIns, List.any_cons, List.any_nil, Bool.or_false, Bool.or_true, Bool.true_or, Bool.false_or, Bool.not_true, Bool.not_false, String.reduceBEq, beq_self_eq_true, true_and, and_true, selN, sel, List.filterMap_cons, List.filterMap_nil, backR, back1, cleanR, clean1, clnR, List.tail_cons, List.head?_cons, List.not_mem_nil, false_implies, implies_true, List.nodup_nil, List.nodup_cons, not_false_eq_true, Ev.len_lst, Ev.len_tup, Ev.len_dct, Ev.len_set, Ev.len_str, Ev.add_int, Ev.add_str, Ev.add_tup, Ev.add_lst, Ev.mul_int, Ev.mul_lst, Ev.sub_lst, Ev.sub_tup, Ev.sub_str, Ev.sub_dctI, Ev.sub_dctS, Ev.cut_lst, Ev.cut_tup, Ev.cutL_lst, Ev.in_lst, Ev.in_tup, Ev.in_dctI, Ev.in_dctS, Ev.wI0_int, Ev.wII_int, Ev.neg_int, Ev.index_lst, Ev.set_lst, Ev.set_tup, Ev.all_lst, Ev.any_lst, Ev.list_lst, Ev.list_tup, Ev.list_dct, Ev.repr_one, Ev.dict_lst, Ev.tup_lst, Ev.tup_tup, Ev.append_one, Ev.pop_none, Ev.popAt_one, Ev.clear_none, Ev.extend_one, Ev.remove_one, Ev.seq_lst, Ev.seq_tup, Ev.enum_lst, Ev.enum_tup, Ev.int1_int, Ev.int2_int, Ev.int_int, Ev.max_int, Ev.min_int, Ev.opt_some, Ev.tru_lst, Ev.tru_tup, Ev.tru_int, Ev.par_imm, Ev.par_own, Ev.par_no, Ev.par_drw]
          by_cases le : dv ≤ (i : Int)
          · rw [decide_eq_true le]
            simp only
            rw [if_pos ⟨rfl, by simp [leNow, ms, le]⟩] at pe
            refine ⟨by decide, _, _, _, U, delM (dts (m0 o) l j) s, edges (l.take (j + 1)), rfl, hD.drop, val, hEU, u100, e100, fun ps' ρ' hD' hh => ?_⟩
            simp only [hh]
            exact ⟨fun n _ => rfl, fun n _ => noNp_isD hD' n, hN _ ⟨ps', _, _, _, _, _, _, rfl, ⟨rfl, rfl, rfl, rfl, rfl⟩, by rw [step, pe]; exact hD', ib⟩⟩
          · rw [decide_eq_false le]
            simp only
            rw [if_neg (by simp [leNow, ms, le])] at pe
            refine ⟨by decide, _, _, _, U, dts (m0 o) l j, edges (l.take (j + 1)), rfl, hD, val, hEU, u100, e100, fun ps' ρ' hD' hh => ?_⟩
            simp only [hh]
            exact ⟨fun n _ => rfl, fun n _ => noNp_isD hD' n, hN _ ⟨ps', _, _, _, _, _, _, rfl, ⟨rfl, rfl, rfl, rfl, rfl⟩, by rw [step, pe]; exact hD', ib⟩⟩
    | vis a =>
      simp only [Ev.d, dBody, dSeq, dNext, dBreak, dCont, dDrop, dRet, dRetN, dIfS, dAsg, dgName, dgNil, dgsName, dgsPut, dgUn, dPar, dPar3, dVar, dC, dTake, dFrz, mkS, dBin, dBinO, dTest, dTru, dUn, dIsN, isNonB, dAnd, dOr, dNot, dAndV, dOrV, dNotV, asB, dIf, cnd, dNil, dCons, dTup, dLst, dNewD, dSub, dSl, dSlO, dNoPart, dPart, dIsi, dCallB, dCallO, wds, sds, wd, sd, rsv, Sl.dat, stv, notPar, Sl.with_, dCall, dCallK, argC, arC, useS, kindsB, Ar.sl, cond, ownL, ownD, upS, dLM, dLM0, isOwnL, isOwnD, dPop1, dPop2, dGet1, dGet2, isDct, dDput, dLput, dLput.known, dFld, dMth, dMth0, tyOk, dChain, dAugI, List.map_cons, List.map_nil, List.cons_append, List.nil_append, List.append_nil, List.length_cons, List.length_nil, List.replicate, List.getElem?_cons_zero, List.getElem?_cons_succ, List.getElem?_nil, List.set_cons_zero, List.set_cons_succ, Option.getD_some, Option.getD_none, Nat.reduceAdd, Nat.reduceSub, dNever, dYes, Nat.zero_le, dLc, dG, dSeqI, dOwnI, dLcD, dctS, dDc, dDcD, dFor, dForD, dRng1, dRng2, dEnum, noPar, wipeD, eqW, neW, D.key, itemsOf, keysOf, valsOf, gdT, isTy, tyD, notIns, List.any_cons, List.any_nil, Bool.or_false, Bool.or_true, Bool.true_or, Bool.false_or, Bool.not_true, Bool.not_false, String.reduceBEq, beq_self_eq_true, true_and, and_true, selN, sel, List.filterMap_cons, List.filterMap_nil, backR, back1, cleanR, clean1, clnR, List.tail_cons, List.head?_cons, List.not_mem_nil, false_implies, implies_true, List.nodup_nil, List.nodup_cons, not_false_eq_true, Ev.len_lst, Ev.len_tup, Ev.len_dct, Ev.len_set, Ev.len_str, Ev.add_int, Ev.add_str, Ev.add_tup, Ev.add_lst, Ev.mul_int, Ev.mul_lst, Ev.sub_lst, Ev.sub_tup, Ev.sub_str, Ev.sub_dctI, Ev.sub_dctS, Ev.cut_lst, Ev.cut_tup, Ev.cutL_lst, Ev.in_lst, Ev.in_tup, Ev.in_dctI, Ev.in_dctS, Ev.wI0_int, Ev.wII_int, Ev.neg_int, Ev.index_lst, Ev.set_lst, Ev.set_tup, Ev.all_lst, Ev.any_lst, Ev.list_lst, Ev.list_tup, Ev.list_dct, Ev.repr_one, Ev.dict_lst, Ev.tup_lst, Ev.tup_tup, Ev.append_one, Ev.pop_none, Ev.popAt_one, Ev.clear_none, Ev.extend_one, Ev.remove_one, Ev.seq_lst, Ev.seq_tup, Ev.enum_lst, Ev.enum_tup, Ev.int1_int, Ev.int2_int, Ev.int_int, Ev.max_int, Ev.min_int, Ev.opt_some, Ev.tru_lst, Ev.tru_tup, Ev.tru_int, Ev.par_imm, Ev.par_own, Ev.par_no, Ev.par_drw, at0, at1, at2, at3, at4, ok_b, ok_e, ok_v, dq_vb, dq_ve]
      have rpe : rpD (runL (l.take j)) = rpD (runL (l.take (j + 1))) := by rw [tk, runL_vis]
      rw [rpe]
      have ib : IsB (l.take (j + 1)) bp := by
        rw [tk]
        refine ⟨by rw [List.length_append]; exact Nat.le_add_right_of_le hB.1, fun x => ?_⟩
        rw [begOf_snoc, hB.2 x]
        cases begOf (l.take j) 0 x <;> rfl
      have lk := hD.2.2 a
      have pe : pre (dts (m0 o) l j) (l.take j) (.vis a) = delM (dts (m0 o) l j) a := rfl
      rw [lk]
      cases ms : dts (m0 o) l j a with
      | none =>
        simp only [Option.map_none, Option.isSome_none, Bool.false_eq_true, if_false]
        have dm : delM (dts (m0 o) l j) a = dts (m0 o) l j := by
          funext x
          unfold delM
          split
          · rename_i z; rw [z, ms]
          · rfl
        refine ⟨by decide, _, _, _, U, dts (m0 o) l j, edges (l.take (j + 1)), rfl, hD, val, hEU, u100, e100, fun ps' ρ' hD' hh => ?_⟩
        simp only [hh]
        exact ⟨fun n _ => rfl, fun n _ => noNp_isD hD' n, hN _ ⟨ps', _, _, _, _, _, _, rfl, ⟨rfl, rfl, p7, p8, p9⟩, by rw [step, pe, dm]; exact hD', ib⟩⟩
      | some dv =>
        simp only [Option.map_some, Option.isSome_some, Bool.false_eq_true, if_false, dBody, dSeq, dNext, dBreak, dCont, dDrop, dRet, dRetN, dIfS, dAsg, dgName, dgNil, dgsName, dgsPut, dgUn, dPar, dPar3, dVar, dC, dTake, dFrz, mkS, dBin, dBinO, dTest, dTru, dUn, dIsN, isNonB, dAnd, dOr, dNot, dAndV, dOrV, dNotV, asB, dIf, cnd, dNil, dCons, dTup, dLst, dNewD, dSub, dSl, dSlO, dNoPart, dPart, dIsi, dCallB, dCallO, wds, sds, wd, sd, rsv, Sl.dat, stv, notPar, Sl.with_, dCall, dCallK, argC, arC, useS, kindsB, Ar.sl, cond, ownL, ownD, upS, dLM, dLM0, isOwnL, isOwnD, dPop1, dPop2, dGet1, dGet2, isDct, dDput, dLput, dLput.known, dFld, dMth, dMth0, tyOk, dChain, dAugI, List.map_cons, List.map_nil, List.cons_append, List.nil_append, List.append_nil, List.length_cons, List.length_nil, List.replicate, List.getElem?_cons_zero, List.getElem?_cons_succ, List.getElem?_nil, List.set_cons_zero, List.set_cons_succ, Option.getD_some, Option.getD_none, Nat.reduceAdd, Nat.reduceSub, dNever, dYes, Nat.zero_le, dLc, dG, dSeqI, dOwnI, dLcD, dctS, dDc, dDcD, dFor, dForD, dRng1, dRng2, dEnum, noPar, wipeD, eqW, neW, D.key, itemsOf, keysOf, valsOf, gdT, isTy, tyD, notIns, List.any_cons, List.any_nil, Bool.or_false, Bool.or_true, Bool.true_or, Bool.false_or, Bool.not_true, Bool.not_false, String.reduceBEq, beq_self_eq_true, true_and, and_true, selN, sel, List.filterMap_cons, List.filterMap_nil, backR, back1, cleanR, clean1, clnR, List.tail_cons, List.head?_cons, List.not_mem_nil, false_implies, implies_true, List.nodup_nil, List.nodup_cons, not_false_eq_true, Ev.len_lst, Ev.len_tup, Ev.len_dct, Ev.len_set, Ev.len_str, Ev.add_int, Ev.add_str, Ev.add_tup, Ev.add_lst, Ev.mul_int, Ev.mul_lst, Ev.sub_lst, Ev.sub_tup, Ev.sub_str, Ev.sub_dctI, Ev.sub_dctS, Ev.cut_lst, Ev.cut_tup, Ev.cutL_lst, Ev.in_lst, Ev.in_tup, Ev.in_dctI, Ev.in_dctS, Ev.wI0_int, Ev.wII_int, Ev.neg_int, Ev.index_lst, Ev.set_lst, Ev.set_tup, Ev.all_lst, Ev.any_lst, Ev.list_lst, Ev.list_tup, Ev.list_dct, Ev.repr_one, Ev.dict_lst, Ev.tup_lst, Ev.tup_tup, Ev.append_one, Ev.pop_none, Ev.popAt_one, Ev.clear_none, Ev.extend_one, Ev.remove_one, Ev.seq_lst, Ev.seq_tup, Ev.enum_lst, Ev.enum_tup, Ev.int1_int, Ev.int2_int, Ev.int_int, Ev.max_int, Ev.min_int, Ev.opt_some, Ev.tru_lst, Ev.tru_tup, Ev.tru_int, Ev.par_imm, Ev.par_own, Ev.par_no, Ev.par_drw]
        refine ⟨by decide, _, _, _, U, delM (dts (m0 o) l j) a, edges (l.take (j + 1)), rfl, hD.drop, val, hEU, u100, e100, fun ps' ρ' hD' hh => ?_⟩
        simp only [hh]
        exact ⟨fun n _ => rfl, fun n _ => noNp_isD hD' n, hN _ ⟨ps', _, _, _, _, _, _, rfl, ⟨rfl, rfl, p7, p8, p9⟩, by rw [step, pe]; exact hD', ib⟩⟩
  · rintro ρ ⟨ps, bp, x5, x6, x7, x8, x9, rfl, _, hD, hB⟩
    simp only [dBody, dSeq, dNext, dBreak, dCont, dDrop, dRet, dRetN, dIfS, dAsg, dgName, dgNil, dgsName, dgsPut, dgUn, dPar, dPar3, dVar, dC, dTake, dFrz, mkS, dBin, dBinO, dTest, dTru, dUn, dIsN, isNonB, dAnd, dOr, dNot, dAndV, dOrV, dNotV, asB, dIf, cnd, dNil, dCons, dTup, dLst, dNewD, dSub, dSl, dSlO, dNoPart, dPart, dIsi, dCallB, dCallO, wds, sds, wd, sd, rsv, Sl.dat, stv, notPar, Sl.with_, dCall, dCallK, argC, arC, useS, kindsB, Ar.sl, cond, ownL, ownD, upS, dLM, dLM0, isOwnL, isOwnD, dPop1, dPop2, dGet1, dGet2, isDct, dDput, dLput, dLput.known, dFld, dMth, dMth0, tyOk, dChain, dAugI, List.map_cons, List.map_nil, List.cons_append, List.nil_append, List.append_nil, List.length_cons, List.length_nil, List.replicate, List.getElem?_cons_zero, List.getElem?_cons_succ, List.getElem?_nil, List.set_cons_zero, List.set_cons_succ, Option.getD_some, Option.getD_none, Nat.reduceAdd, Nat.reduceSub, dNever, dYes, Nat.zero_le, dLc, dG, dSeqI, dOwnI, dLcD, dctS, dDc, dDcD, dFor, dForD, dRng1, dRng2, dEnum, noPar, wipeD, eqW, neW, D.key, itemsOf, keysOf, valsOf, gdT, isTy, tyD, notIns, List.any_cons, List.any_nil, Bool.or_false, Bool.or_true, Bool.true_or, Bool.false_or, Bool.not_true, Bool.not_false, String.reduceBEq, beq_self_eq_true, true_and, and_true, selN, sel, List.filterMap_cons, List.filterMap_nil, backR, back1, cleanR, clean1, clnR, List.tail_cons, List.head?_cons, List.not_mem_nil, false_implies, implies_true, List.nodup_nil, List.nodup_cons, not_false_eq_true, Ev.len_lst, Ev.len_tup, Ev.len_dct, Ev.len_set, Ev.len_str, Ev.add_int, Ev.add_str, Ev.add_tup, Ev.add_lst, Ev.mul_int, Ev.mul_lst, Ev.sub_lst, Ev.sub_tup, Ev.sub_str, Ev.sub_dctI, Ev.sub_dctS, Ev.cut_lst, Ev.cut_tup, Ev.cutL_lst, Ev.in_lst, Ev.in_tup, Ev.in_dctI, Ev.in_dctS, Ev.wI0_int, Ev.wII_int, Ev.neg_int, Ev.index_lst, Ev.set_lst, Ev.set_tup, Ev.all_lst, Ev.any_lst, Ev.list_lst, Ev.list_tup, Ev.list_dct, Ev.repr_one, Ev.dict_lst, Ev.tup_lst, Ev.tup_tup, Ev.append_one, Ev.pop_none, Ev.popAt_one, Ev.clear_none, Ev.extend_one, Ev.remove_one, Ev.seq_lst, Ev.seq_tup, Ev.enum_lst, Ev.enum_tup, Ev.int1_int, Ev.int2_int, Ev.int_int, Ev.max_int, Ev.min_int, Ev.opt_some, Ev.tru_lst, Ev.tru_tup, Ev.tru_int, Ev.par_imm, Ev.par_own, Ev.par_no, Ev.par_drw]
    rw [enumD_len, List.length_map] at hD
    obtain ⟨ns, e1, e2⟩ := outL_keys hD
    refine ⟨ns, e1, ?_⟩
    rw [e2]
    exact k _
end
end Bm
set_option maxRecDepth 100000
set_option maxHeartbeats 4000000
/-! transfers: what a begin is; those under way; what they date -/
namespace Bm
open PySem PySem.Spec L2 L3 LamX Dl PyProof.Rows
section
variable {P : Program} {w : World} {K : PySem.W.Frag} {mg : Str → Option Value} {base : Heap}
def kindsD : D := .tup [.str "copy", .str "move"]
def t_is_begin : TF := fun args er q => ∃ (n : Int) (mv : Bool) (s t : Int), args = [.imm (Ev.d (.beg n mv s t))] ∧ s ≠ t ∧ ∀ ρ', q (.imm (.bl true)) ρ'
theorem len_is_begin : ∀ as er q, t_is_begin as er q → as.length = 1 := fun as er q h => by
  obtain ⟨_, _, _, _, rfl, _⟩ := h
  rfl
theorem sc_is_begin : FnScope ["event", "at"] ["event"] (defScope s_is_begin) := ⟨rfl, rfl, rfl, by decide +kernel, rfl, by decide +kernel, by decide +kernel⟩
theorem ok_is_begin {f aK : Addr} {fd : FuncData} (F : Fun K "is_begin" "is_begin" s_is_begin f fd) (T : T0 mg) (KN : mg "KINDS" = some (.ref aK) ∧ ∀ G, Da K G (.ref aK) kindsD) (HI : HasD P w K mg base CX0 2 "is_integer" ["value"] 1 t_is_integer) : FnG P w K mg base CX0 3 f fd ["event"] (spD K 1 t_is_begin) := by
  refine fun_d F sc_is_begin (fun cdv A outer s H E gd hr => ⟨_, have hu := hu_of hr; (dss_cons (ds_if (dt_w (dw_or (dt_not (dt_val (de_isi (K := K) (T := "tuple") (by decide) (dv 0) T.isinstance_ (by rfl) (by rfl) T.tuple_ (by decide +kernel)))) (dw_or (dt_cmp (od_ne (K := K) hr) (de_callB (cd_len (K := K)) (by rfl) T.len_ (by decide +kernel) (da_cons (dv 0) da_nil)) de_int (nomark _)) (dw_or (dt_not (dt_val (de_isi (K := K) (T := "str") (by decide) (de_sub (K := K) hu (dv 0) de_int (fun _ _ => rfl)) T.isinstance_ (by rfl) (by rfl) T.str_ (by decide +kernel)))) (dw_or1 (dt_cmp (od_notIn (K := K) hr) (de_sub (K := K) hu (dv 0) de_int (fun _ _ => rfl)) (de_glob (v := .ref aK) (d := kindsD) (by rfl) KN.1 rfl KN.2) (by rfl)))))))
        (dss_one (ds_ret de_bl))
        dss_nil)
      (dss_one (ds_ret (de_and (de_callB (cd_all (K := K) rfl) (by rfl) T.all_ (by decide +kernel) (da_cons (de_lc (own := [("at", 1)]) false rfl sc_is_begin.nd (di_g (di_seq (K := K) (de_tup (da_cons de_int (da_cons de_int (da_cons de_int da_nil)))))) (blkOk_by (own := [("at", 1)]) (N := ["event", "at"]) (sc := defScope s_is_begin) (by decide +kernel)) (fun _ _ _ _ _ => (dg_name (i := 1) sc_is_begin.nd rfl (Or.inl rfl))) (fun _ _ _ _ _ => dts_nil) (fun _ _ _ _ _ => (de_callH [false] HI gd hr (by decide) (by rfl) pass0 (da_cons (de_sub (K := K) hu (dv 0) (dv 1) (fun _ _ => rfl)) da_nil)))) da_nil)) (de_one (de_cmp (od_ne (K := K) hr) (de_sub (K := K) hu (dv 0) de_int (fun _ _ => rfl)) (de_sub (K := K) hu (dv 0) de_int (fun _ _ => rfl)) (nomark _)))))))⟩) fun args er q hl h => ?_

  obtain ⟨n, mv, s, t, rfl, ne, k⟩ := h
  simp only [Ev.d, dBody, dSeq, dNext, dBreak, dCont, dDrop, dRet, dRetN, dIfS, dAsg, dgName, dgNil, dgsName, dgsPut, dgUn, dPar, dPar3, dVar, dC, dTake, dFrz, mkS, dBin, dBinO, dTest, dTru, dUn, dIsN, isNonB, dAnd, dOr, dNot, dAndV, dOrV, dNotV, asB, dIf, cnd, dNil, dCons, dTup, dLst, dNewD, dSub, dSl, dSlO, dNoPart, dPart, dIsi, dCallB, dCallO, wds, sds, wd, sd, rsv, Sl.dat, stv, notPar, Sl.with_, dCall, dCallK, argC, arC, useS, kindsB, Ar.sl, cond, ownL, ownD, upS, dLM, dLM0, isOwnL, isOwnD, dPop1, dPop2, dGet1, dGet2, isDct, dDput, dLput, dLput.known, dFld, dMth, dMth0, tyOk, dChain, dAugI, List.map_cons, List.map_nil, List.cons_append, List.nil_append, List.append_nil, List.length_cons, List.length_nil, List.replicate, List.getElem?_cons_zero, List.getElem?_cons_succ, List.getElem?_nil, List.set_cons_zero, List.set_cons_succ, Option.getD_some, Option.getD_none, Nat.reduceAdd, Nat.reduceSub, dNever, dYes, Nat.zero_le, dLc, dG, dSeqI, dOwnI, dLcD, dctS, dDc, dDcD, dFor, dForD, dRng1, dRng2, dEnum, noPar, wipeD, eqW, neW, D.key, itemsOf, keysOf, valsOf, gdT, isTy, tyD, notIns, List.any_cons, List.any_nil, Bool.or_false, Bool.or_true, Bool.true_or, Bool.false_or, Bool.not_true, Bool.not_false, String.reduceBEq, beq_self_eq_true, true_and, and_true, selN, sel, List.filterMap_cons, List.filterMap_nil, backR, back1, cleanR, clean1, clnR, List.tail_cons, List.head?_cons, List.not_mem_nil, false_implies, implies_true, List.nodup_nil, List.nodup_cons, not_false_eq_true, Ev.len_lst, Ev.len_tup, Ev.len_dct, Ev.len_set, Ev.len_str, Ev.add_int, Ev.add_str, Ev.add_tup, Ev.add_lst, Ev.mul_int, Ev.mul_lst, Ev.sub_lst, Ev.sub_tup, Ev.sub_str, Ev.sub_dctI, Ev.sub_dctS, Ev.cut_lst, Ev.cut_tup, Ev.cutL_lst, Ev.in_lst, Ev.in_tup, Ev.in_dctI, Ev.in_dctS, Ev.wI0_int, Ev.wII_int, Ev.neg_int, Ev.index_lst, Ev.set_lst, Ev.set_tup, Ev.all_lst, Ev.any_lst, Ev.list_lst, Ev.list_tup, Ev.list_dct, Ev.repr_one, Ev.dict_lst, Ev.tup_lst, Ev.tup_tup, Ev.append_one, Ev.pop_none, Ev.popAt_one, Ev.clear_none, Ev.extend_one, Ev.remove_one, Ev.seq_lst, Ev.seq_tup, Ev.enum_lst, Ev.enum_tup, Ev.int1_int, Ev.int2_int, Ev.int_int, Ev.max_int, Ev.min_int, Ev.opt_some, Ev.tru_lst, Ev.tru_tup, Ev.tru_int, Ev.par_imm, Ev.par_own, Ev.par_no, Ev.par_drw, at0, at1, at2, at3, at4, ok_b, ok_k, ok_m]
  refine ⟨ok_int _, ok_int _, ?_⟩
  rw [deq_int, show decide (((5 : Nat) : Int) = 5) = true from by decide]
  simp only [Bool.not_true]
  have kin : inW true (D.str (kdS mv)) kindsD = fun q => q (.bl false) := by
    funext q
    cases mv <;> (unfold kindsD; rw [Ev.in_tup]; simp [flatD, kdS, deq_str])
  rw [kin]
  simp only
  refine ⟨by decide, lc_map (fun _ => .bl true) rfl (by decide) True.intro (fun d acc N hd ha hN => ?_) ?_⟩
  · simp only [List.mem_cons, List.not_mem_nil, or_false] at hd
    rcases hd with rfl | rfl | rfl
    · simp only [dBody, dSeq, dNext, dBreak, dCont, dDrop, dRet, dRetN, dIfS, dAsg, dgName, dgNil, dgsName, dgsPut, dgUn, dPar, dPar3, dVar, dC, dTake, dFrz, mkS, dBin, dBinO, dTest, dTru, dUn, dIsN, isNonB, dAnd, dOr, dNot, dAndV, dOrV, dNotV, asB, dIf, cnd, dNil, dCons, dTup, dLst, dNewD, dSub, dSl, dSlO, dNoPart, dPart, dIsi, dCallB, dCallO, wds, sds, wd, sd, rsv, Sl.dat, stv, notPar, Sl.with_, dCall, dCallK, argC, arC, useS, kindsB, Ar.sl, cond, ownL, ownD, upS, dLM, dLM0, isOwnL, isOwnD, dPop1, dPop2, dGet1, dGet2, isDct, dDput, dLput, dLput.known, dFld, dMth, dMth0, tyOk, dChain, dAugI, List.map_cons, List.map_nil, List.cons_append, List.nil_append, List.append_nil, List.length_cons, List.length_nil, List.replicate, List.getElem?_cons_zero, List.getElem?_cons_succ, List.getElem?_nil, List.set_cons_zero, List.set_cons_succ, Option.getD_some, Option.getD_none, Nat.reduceAdd, Nat.reduceSub, dNever, dYes, Nat.zero_le, dLc, dG, dSeqI, dOwnI, dLcD, dctS, dDc, dDcD, dFor, dForD, dRng1, dRng2, dEnum, noPar, wipeD, eqW, neW, D.key, itemsOf, keysOf, valsOf, gdT, isTy, tyD, notIns, List.any_cons, List.any_nil, Bool.or_false, Bool.or_true, Bool.true_or, Bool.false_or, Bool.not_true, Bool.not_false, String.reduceBEq, beq_self_eq_true, true_and, and_true, selN, sel, List.filterMap_cons, List.filterMap_nil, backR, back1, cleanR, clean1, clnR, List.tail_cons, List.head?_cons, List.not_mem_nil, false_implies, implies_true, List.nodup_nil, List.nodup_cons, not_false_eq_true, Ev.len_lst, Ev.len_tup, Ev.len_dct, Ev.len_set, Ev.len_str, Ev.add_int, Ev.add_str, Ev.add_tup, Ev.add_lst, Ev.mul_int, Ev.mul_lst, Ev.sub_lst, Ev.sub_tup, Ev.sub_str, Ev.sub_dctI, Ev.sub_dctS, Ev.cut_lst, Ev.cut_tup, Ev.cutL_lst, Ev.in_lst, Ev.in_tup, Ev.in_dctI, Ev.in_dctS, Ev.wI0_int, Ev.wII_int, Ev.neg_int, Ev.index_lst, Ev.set_lst, Ev.set_tup, Ev.all_lst, Ev.any_lst, Ev.list_lst, Ev.list_tup, Ev.list_dct, Ev.repr_one, Ev.dict_lst, Ev.tup_lst, Ev.tup_tup, Ev.append_one, Ev.pop_none, Ev.popAt_one, Ev.clear_none, Ev.extend_one, Ev.remove_one, Ev.seq_lst, Ev.seq_tup, Ev.enum_lst, Ev.enum_tup, Ev.int1_int, Ev.int2_int, Ev.int_int, Ev.max_int, Ev.min_int, Ev.opt_some, Ev.tru_lst, Ev.tru_tup, Ev.tru_int, Ev.par_imm, Ev.par_own, Ev.par_no, Ev.par_drw, at0, at1, at2, at3, at4]
      exact ⟨_, rfl, rfl, fun ρ' => by simp only [dBody, dSeq, dNext, dBreak, dCont, dDrop, dRet, dRetN, dIfS, dAsg, dgName, dgNil, dgsName, dgsPut, dgUn, dPar, dPar3, dVar, dC, dTake, dFrz, mkS, dBin, dBinO, dTest, dTru, dUn, dIsN, isNonB, dAnd, dOr, dNot, dAndV, dOrV, dNotV, asB, dIf, cnd, dNil, dCons, dTup, dLst, dNewD, dSub, dSl, dSlO, dNoPart, dPart, dIsi, dCallB, dCallO, wds, sds, wd, sd, rsv, Sl.dat, stv, notPar, Sl.with_, dCall, dCallK, argC, arC, useS, kindsB, Ar.sl, cond, ownL, ownD, upS, dLM, dLM0, isOwnL, isOwnD, dPop1, dPop2, dGet1, dGet2, isDct, dDput, dLput, dLput.known, dFld, dMth, dMth0, tyOk, dChain, dAugI, List.map_cons, List.map_nil, List.cons_append, List.nil_append, List.append_nil, List.length_cons, List.length_nil, List.replicate, List.getElem?_cons_zero, List.getElem?_cons_succ, List.getElem?_nil, List.set_cons_zero, List.set_cons_succ, Option.getD_some, Option.getD_none, Nat.reduceAdd, Nat.reduceSub, dNever, dYes, Nat.zero_le, dLc, dG, dSeqI, dOwnI, dLcD, dctS, dDc, dDcD, dFor, dForD, dRng1, dRng2, dEnum, noPar, wipeD, eqW, neW, D.key, itemsOf, keysOf, valsOf, gdT, isTy, tyD, notIns, List.any_cons, List.any_nil, Bool.or_false, Bool.or_true, Bool.true_or, Bool.false_or, Bool.not_true, Bool.not_false, String.reduceBEq, beq_self_eq_true, true_and, and_true, selN, sel, List.filterMap_cons, List.filterMap_nil, backR, back1, cleanR, clean1, clnR, List.tail_cons, List.head?_cons, List.not_mem_nil, false_implies, implies_true, List.nodup_nil, List.nodup_cons, not_false_eq_true, Ev.len_lst, Ev.len_tup, Ev.len_dct, Ev.len_set, Ev.len_str, Ev.add_int, Ev.add_str, Ev.add_tup, Ev.add_lst, Ev.mul_int, Ev.mul_lst, Ev.sub_lst, Ev.sub_tup, Ev.sub_str, Ev.sub_dctI, Ev.sub_dctS, Ev.cut_lst, Ev.cut_tup, Ev.cutL_lst, Ev.in_lst, Ev.in_tup, Ev.in_dctI, Ev.in_dctS, Ev.wI0_int, Ev.wII_int, Ev.neg_int, Ev.index_lst, Ev.set_lst, Ev.set_tup, Ev.all_lst, Ev.any_lst, Ev.list_lst, Ev.list_tup, Ev.list_dct, Ev.repr_one, Ev.dict_lst, Ev.tup_lst, Ev.tup_tup, Ev.append_one, Ev.pop_none, Ev.popAt_one, Ev.clear_none, Ev.extend_one, Ev.remove_one, Ev.seq_lst, Ev.seq_tup, Ev.enum_lst, Ev.enum_tup, Ev.int1_int, Ev.int2_int, Ev.int_int, Ev.max_int, Ev.min_int, Ev.opt_some, Ev.tru_lst, Ev.tru_tup, Ev.tru_int, Ev.par_imm, Ev.par_own, Ev.par_no, Ev.par_drw]; exact ⟨ha, hN⟩⟩
    · simp only [dBody, dSeq, dNext, dBreak, dCont, dDrop, dRet, dRetN, dIfS, dAsg, dgName, dgNil, dgsName, dgsPut, dgUn, dPar, dPar3, dVar, dC, dTake, dFrz, mkS, dBin, dBinO, dTest, dTru, dUn, dIsN, isNonB, dAnd, dOr, dNot, dAndV, dOrV, dNotV, asB, dIf, cnd, dNil, dCons, dTup, dLst, dNewD, dSub, dSl, dSlO, dNoPart, dPart, dIsi, dCallB, dCallO, wds, sds, wd, sd, rsv, Sl.dat, stv, notPar, Sl.with_, dCall, dCallK, argC, arC, useS, kindsB, Ar.sl, cond, ownL, ownD, upS, dLM, dLM0, isOwnL, isOwnD, dPop1, dPop2, dGet1, dGet2, isDct, dDput, dLput, dLput.known, dFld, dMth, dMth0, tyOk, dChain, dAugI, List.map_cons, List.map_nil, List.cons_append, List.nil_append, List.append_nil, List.length_cons, List.length_nil, List.replicate, List.getElem?_cons_zero, List.getElem?_cons_succ, List.getElem?_nil, List.set_cons_zero, List.set_cons_succ, Option.getD_some, Option.getD_none, Nat.reduceAdd, Nat.reduceSub, dNever, dYes, Nat.zero_le, dLc, dG, dSeqI, dOwnI, dLcD, dctS, dDc, dDcD, dFor, dForD, dRng1, dRng2, dEnum, noPar, wipeD, eqW, neW, D.key, itemsOf, keysOf, valsOf, gdT, isTy, tyD, notIns, List.any_cons, List.any_nil, Bool.or_false, Bool.or_true, Bool.true_or, Bool.false_or, Bool.not_true, Bool.not_false, String.reduceBEq, beq_self_eq_true, true_and, and_true, selN, sel, List.filterMap_cons, List.filterMap_nil, backR, back1, cleanR, clean1, clnR, List.tail_cons, List.head?_cons, List.not_mem_nil, false_implies, implies_true, List.nodup_nil, List.nodup_cons, not_false_eq_true, Ev.len_lst, Ev.len_tup, Ev.len_dct, Ev.len_set, Ev.len_str, Ev.add_int, Ev.add_str, Ev.add_tup, Ev.add_lst, Ev.mul_int, Ev.mul_lst, Ev.sub_lst, Ev.sub_tup, Ev.sub_str, Ev.sub_dctI, Ev.sub_dctS, Ev.cut_lst, Ev.cut_tup, Ev.cutL_lst, Ev.in_lst, Ev.in_tup, Ev.in_dctI, Ev.in_dctS, Ev.wI0_int, Ev.wII_int, Ev.neg_int, Ev.index_lst, Ev.set_lst, Ev.set_tup, Ev.all_lst, Ev.any_lst, Ev.list_lst, Ev.list_tup, Ev.list_dct, Ev.repr_one, Ev.dict_lst, Ev.tup_lst, Ev.tup_tup, Ev.append_one, Ev.pop_none, Ev.popAt_one, Ev.clear_none, Ev.extend_one, Ev.remove_one, Ev.seq_lst, Ev.seq_tup, Ev.enum_lst, Ev.enum_tup, Ev.int1_int, Ev.int2_int, Ev.int_int, Ev.max_int, Ev.min_int, Ev.opt_some, Ev.tru_lst, Ev.tru_tup, Ev.tru_int, Ev.par_imm, Ev.par_own, Ev.par_no, Ev.par_drw, at0, at1, at2, at3, at4]
      exact ⟨_, rfl, rfl, fun ρ' => by simp only [dBody, dSeq, dNext, dBreak, dCont, dDrop, dRet, dRetN, dIfS, dAsg, dgName, dgNil, dgsName, dgsPut, dgUn, dPar, dPar3, dVar, dC, dTake, dFrz, mkS, dBin, dBinO, dTest, dTru, dUn, dIsN, isNonB, dAnd, dOr, dNot, dAndV, dOrV, dNotV, asB, dIf, cnd, dNil, dCons, dTup, dLst, dNewD, dSub, dSl, dSlO, dNoPart, dPart, dIsi, dCallB, dCallO, wds, sds, wd, sd, rsv, Sl.dat, stv, notPar, Sl.with_, dCall, dCallK, argC, arC, useS, kindsB, Ar.sl, cond, ownL, ownD, upS, dLM, dLM0, isOwnL, isOwnD, dPop1, dPop2, dGet1, dGet2, isDct, dDput, dLput, dLput.known, dFld, dMth, dMth0, tyOk, dChain, dAugI, List.map_cons, List.map_nil, List.cons_append, List.nil_append, List.append_nil, List.length_cons, List.length_nil, List.replicate, List.getElem?_cons_zero, List.getElem?_cons_succ, List.getElem?_nil, List.set_cons_zero, List.set_cons_succ, Option.getD_some, Option.getD_none, Nat.reduceAdd, Nat.reduceSub, dNever, dYes, Nat.zero_le, dLc, dG, dSeqI, dOwnI, dLcD, dctS, dDc, dDcD, dFor, dForD, dRng1, dRng2, dEnum, noPar, wipeD, eqW, neW, D.key, itemsOf, keysOf, valsOf, gdT, isTy, tyD, notIns, List.any_cons, List.any_nil, Bool.or_false, Bool.or_true, Bool.true_or, Bool.false_or, Bool.not_true, Bool.not_false, String.reduceBEq, beq_self_eq_true, true_and, and_true, selN, sel, List.filterMap_cons, List.filterMap_nil, backR, back1, cleanR, clean1, clnR, List.tail_cons, List.head?_cons, List.not_mem_nil, false_implies, implies_true, List.nodup_nil, List.nodup_cons, not_false_eq_true, Ev.len_lst, Ev.len_tup, Ev.len_dct, Ev.len_set, Ev.len_str, Ev.add_int, Ev.add_str, Ev.add_tup, Ev.add_lst, Ev.mul_int, Ev.mul_lst, Ev.sub_lst, Ev.sub_tup, Ev.sub_str, Ev.sub_dctI, Ev.sub_dctS, Ev.cut_lst, Ev.cut_tup, Ev.cutL_lst, Ev.in_lst, Ev.in_tup, Ev.in_dctI, Ev.in_dctS, Ev.wI0_int, Ev.wII_int, Ev.neg_int, Ev.index_lst, Ev.set_lst, Ev.set_tup, Ev.all_lst, Ev.any_lst, Ev.list_lst, Ev.list_tup, Ev.list_dct, Ev.repr_one, Ev.dict_lst, Ev.tup_lst, Ev.tup_tup, Ev.append_one, Ev.pop_none, Ev.popAt_one, Ev.clear_none, Ev.extend_one, Ev.remove_one, Ev.seq_lst, Ev.seq_tup, Ev.enum_lst, Ev.enum_tup, Ev.int1_int, Ev.int2_int, Ev.int_int, Ev.max_int, Ev.min_int, Ev.opt_some, Ev.tru_lst, Ev.tru_tup, Ev.tru_int, Ev.par_imm, Ev.par_own, Ev.par_no, Ev.par_drw]; exact ⟨ha, hN⟩⟩
    · simp only [dBody, dSeq, dNext, dBreak, dCont, dDrop, dRet, dRetN, dIfS, dAsg, dgName, dgNil, dgsName, dgsPut, dgUn, dPar, dPar3, dVar, dC, dTake, dFrz, mkS, dBin, dBinO, dTest, dTru, dUn, dIsN, isNonB, dAnd, dOr, dNot, dAndV, dOrV, dNotV, asB, dIf, cnd, dNil, dCons, dTup, dLst, dNewD, dSub, dSl, dSlO, dNoPart, dPart, dIsi, dCallB, dCallO, wds, sds, wd, sd, rsv, Sl.dat, stv, notPar, Sl.with_, dCall, dCallK, argC, arC, useS, kindsB, Ar.sl, cond, ownL, ownD, upS, dLM, dLM0, isOwnL, isOwnD, dPop1, dPop2, dGet1, dGet2, isDct, dDput, dLput, dLput.known, dFld, dMth, dMth0, tyOk, dChain, dAugI, List.map_cons, List.map_nil, List.cons_append, List.nil_append, List.append_nil, List.length_cons, List.length_nil, List.replicate, List.getElem?_cons_zero, List.getElem?_cons_succ, List.getElem?_nil, List.set_cons_zero, List.set_cons_succ, Option.getD_some, Option.getD_none, Nat.reduceAdd, Nat.reduceSub, dNever, dYes, Nat.zero_le, dLc, dG, dSeqI, dOwnI, dLcD, dctS, dDc, dDcD, dFor, dForD, dRng1, dRng2, dEnum, noPar, wipeD, eqW, neW, D.key, itemsOf, keysOf, valsOf, gdT, isTy, tyD, notIns, List.any_cons, List.any_nil, Bool.or_false, Bool.or_true, Bool.true_or, Bool.false_or, Bool.not_true, Bool.not_false, String.reduceBEq, beq_self_eq_true, true_and, and_true, selN, sel, List.filterMap_cons, List.filterMap_nil, backR, back1, cleanR, clean1, clnR, List.tail_cons, List.head?_cons, List.not_mem_nil, false_implies, implies_true, List.nodup_nil, List.nodup_cons, not_false_eq_true, Ev.len_lst, Ev.len_tup, Ev.len_dct, Ev.len_set, Ev.len_str, Ev.add_int, Ev.add_str, Ev.add_tup, Ev.add_lst, Ev.mul_int, Ev.mul_lst, Ev.sub_lst, Ev.sub_tup, Ev.sub_str, Ev.sub_dctI, Ev.sub_dctS, Ev.cut_lst, Ev.cut_tup, Ev.cutL_lst, Ev.in_lst, Ev.in_tup, Ev.in_dctI, Ev.in_dctS, Ev.wI0_int, Ev.wII_int, Ev.neg_int, Ev.index_lst, Ev.set_lst, Ev.set_tup, Ev.all_lst, Ev.any_lst, Ev.list_lst, Ev.list_tup, Ev.list_dct, Ev.repr_one, Ev.dict_lst, Ev.tup_lst, Ev.tup_tup, Ev.append_one, Ev.pop_none, Ev.popAt_one, Ev.clear_none, Ev.extend_one, Ev.remove_one, Ev.seq_lst, Ev.seq_tup, Ev.enum_lst, Ev.enum_tup, Ev.int1_int, Ev.int2_int, Ev.int_int, Ev.max_int, Ev.min_int, Ev.opt_some, Ev.tru_lst, Ev.tru_tup, Ev.tru_int, Ev.par_imm, Ev.par_own, Ev.par_no, Ev.par_drw, at0, at1, at2, at3, at4]
      exact ⟨_, rfl, rfl, fun ρ' => by simp only [dBody, dSeq, dNext, dBreak, dCont, dDrop, dRet, dRetN, dIfS, dAsg, dgName, dgNil, dgsName, dgsPut, dgUn, dPar, dPar3, dVar, dC, dTake, dFrz, mkS, dBin, dBinO, dTest, dTru, dUn, dIsN, isNonB, dAnd, dOr, dNot, dAndV, dOrV, dNotV, asB, dIf, cnd, dNil, dCons, dTup, dLst, dNewD, dSub, dSl, dSlO, dNoPart, dPart, dIsi, dCallB, dCallO, wds, sds, wd, sd, rsv, Sl.dat, stv, notPar, Sl.with_, dCall, dCallK, argC, arC, useS, kindsB, Ar.sl, cond, ownL, ownD, upS, dLM, dLM0, isOwnL, isOwnD, dPop1, dPop2, dGet1, dGet2, isDct, dDput, dLput, dLput.known, dFld, dMth, dMth0, tyOk, dChain, dAugI, List.map_cons, List.map_nil, List.cons_append, List.nil_append, List.append_nil, List.length_cons, List.length_nil, List.replicate, List.getElem?_cons_zero, List.getElem?_cons_succ, List.getElem?_nil, List.set_cons_zero, List.set_cons_succ, Option.getD_some, Option.getD_none, Nat.reduceAdd, Nat.reduceSub, dNever, dYes, Nat.zero_le, dLc, dG, dSeqI, dOwnI, dLcD, dctS, dDc, dDcD, dFor, dForD, dRng1, dRng2, dEnum, noPar, wipeD, eqW, neW, D.key, itemsOf, keysOf, valsOf, gdT, isTy, tyD, notIns, List.any_cons, List.any_nil, Bool.or_false, Bool.or_true, Bool.true_or, Bool.false_or, Bool.not_true, Bool.not_false, String.reduceBEq, beq_self_eq_true, true_and, and_true, selN, sel, List.filterMap_cons, List.filterMap_nil, backR, back1, cleanR, clean1, clnR, List.tail_cons, List.head?_cons, List.not_mem_nil, false_implies, implies_true, List.nodup_nil, List.nodup_cons, not_false_eq_true, Ev.len_lst, Ev.len_tup, Ev.len_dct, Ev.len_set, Ev.len_str, Ev.add_int, Ev.add_str, Ev.add_tup, Ev.add_lst, Ev.mul_int, Ev.mul_lst, Ev.sub_lst, Ev.sub_tup, Ev.sub_str, Ev.sub_dctI, Ev.sub_dctS, Ev.cut_lst, Ev.cut_tup, Ev.cutL_lst, Ev.in_lst, Ev.in_tup, Ev.in_dctI, Ev.in_dctS, Ev.wI0_int, Ev.wII_int, Ev.neg_int, Ev.index_lst, Ev.set_lst, Ev.set_tup, Ev.all_lst, Ev.any_lst, Ev.list_lst, Ev.list_tup, Ev.list_dct, Ev.repr_one, Ev.dict_lst, Ev.tup_lst, Ev.tup_tup, Ev.append_one, Ev.pop_none, Ev.popAt_one, Ev.clear_none, Ev.extend_one, Ev.remove_one, Ev.seq_lst, Ev.seq_tup, Ev.enum_lst, Ev.enum_tup, Ev.int1_int, Ev.int2_int, Ev.int_int, Ev.max_int, Ev.min_int, Ev.opt_some, Ev.tru_lst, Ev.tru_tup, Ev.tru_int, Ev.par_imm, Ev.par_own, Ev.par_no, Ev.par_drw]; exact ⟨ha, hN⟩⟩
  · simp only [dBody, dSeq, dNext, dBreak, dCont, dDrop, dRet, dRetN, dIfS, dAsg, dgName, dgNil, dgsName, dgsPut, dgUn, dPar, dPar3, dVar, dC, dTake, dFrz, mkS, dBin, dBinO, dTest, dTru, dUn, dIsN, isNonB, dAnd, dOr, dNot, dAndV, dOrV, dNotV, asB, dIf, cnd, dNil, dCons, dTup, dLst, dNewD, dSub, dSl, dSlO, dNoPart, dPart, dIsi, dCallB, dCallO, wds, sds, wd, sd, rsv, Sl.dat, stv, notPar, Sl.with_, dCall, dCallK, argC, arC, useS, kindsB, Ar.sl, cond, ownL, ownD, upS, dLM, dLM0, isOwnL, isOwnD, dPop1, dPop2, dGet1, dGet2, isDct, dDput, dLput, dLput.known, dFld, dMth, dMth0, tyOk, dChain, dAugI, List.map_cons, List.map_nil, List.cons_append, List.nil_append, List.append_nil, List.length_cons, List.length_nil, List.replicate, List.getElem?_cons_zero, List.getElem?_cons_succ, List.getElem?_nil, List.set_cons_zero, List.set_cons_succ, Option.getD_some, Option.getD_none, Nat.reduceAdd, Nat.reduceSub, dNever, dYes, Nat.zero_le, dLc, dG, dSeqI, dOwnI, dLcD, dctS, dDc, dDcD, dFor, dForD, dRng1, dRng2, dEnum, noPar, wipeD, eqW, neW, D.key, itemsOf, keysOf, valsOf, gdT, isTy, tyD, notIns, List.any_cons, List.any_nil, Bool.or_false, Bool.or_true, Bool.true_or, Bool.false_or, Bool.not_true, Bool.not_false, String.reduceBEq, beq_self_eq_true, true_and, and_true, selN, sel, List.filterMap_cons, List.filterMap_nil, backR, back1, cleanR, clean1, clnR, List.tail_cons, List.head?_cons, List.not_mem_nil, false_implies, implies_true, List.nodup_nil, List.nodup_cons, not_false_eq_true, Ev.len_lst, Ev.len_tup, Ev.len_dct, Ev.len_set, Ev.len_str, Ev.add_int, Ev.add_str, Ev.add_tup, Ev.add_lst, Ev.mul_int, Ev.mul_lst, Ev.sub_lst, Ev.sub_tup, Ev.sub_str, Ev.sub_dctI, Ev.sub_dctS, Ev.cut_lst, Ev.cut_tup, Ev.cutL_lst, Ev.in_lst, Ev.in_tup, Ev.in_dctI, Ev.in_dctS, Ev.wI0_int, Ev.wII_int, Ev.neg_int, Ev.index_lst, Ev.set_lst, Ev.set_tup, Ev.all_lst, Ev.any_lst, Ev.list_lst, Ev.list_tup, Ev.list_dct, Ev.repr_one, Ev.dict_lst, Ev.tup_lst, Ev.tup_tup, Ev.append_one, Ev.pop_none, Ev.popAt_one, Ev.clear_none, Ev.extend_one, Ev.remove_one, Ev.seq_lst, Ev.seq_tup, Ev.enum_lst, Ev.enum_tup, Ev.int1_int, Ev.int2_int, Ev.int_int, Ev.max_int, Ev.min_int, Ev.opt_some, Ev.tru_lst, Ev.tru_tup, Ev.tru_int, Ev.par_imm, Ev.par_own, Ev.par_no, Ev.par_drw, at0, at1, at2, at3, at4]
    refine ⟨[true, true, true], rfl, ?_⟩
    simp only [List.all_cons, List.all_nil, id, Bool.and_true]
    refine ⟨ok_int _, ok_int _, ?_⟩
    rw [deq_int, decide_eq_false ne]
    exact k _
/-- the attributes of a transfer -/
structure TrT (K : PySem.W.Frag) (C : Addr) : Prop where
  cl : Cls K C
  n1 : NoAttr K C "kind"
  n2 : NoAttr K C "source"
  n3 : NoAttr K C "target"
  n4 : NoAttr K C "began"
  n5 : NoAttr K C "ended"
structure Tr where
  n : Int
  mv : Bool
  s : Int
  t : Int
  bg : Nat
  en : Option Nat
def enD (e : Option Nat) : D := match e with
  | none => .non
  | some e => .int e
def trD (C : Addr) (r : Tr) : D := .ins C [("kind", .str (kdS r.mv)), ("source", .int r.s), ("target", .int r.t), ("began", .int r.bg), ("ended", enD r.en)]
theorem ins_tr (C : Addr) (r : Tr) : isIns (trD C r) C ↔ True := iff_of_true rfl trivial
section
variable {C : Addr} {r : Tr} {q : D → Prop}
theorem f_kind : fldD (trD C r) (Str.ofString "kind") q = q (.str (kdS r.mv)) := rfl
theorem f_source : fldD (trD C r) (Str.ofString "source") q = q (.int r.s) := rfl
theorem f_target : fldD (trD C r) (Str.ofString "target") q = q (.int r.t) := rfl
theorem f_began : fldD (trD C r) (Str.ofString "began") q = q (.int r.bg) := rfl
theorem f_ended : fldD (trD C r) (Str.ofString "ended") q = q (enD r.en) := rfl
end
def trsD (C : Addr) (R : List Tr) : List (Key × D) := R.map fun r => (.inl r.n, trD C r)
/-- under way as many events are told -/
def und (many : Int) (r : Tr) : Bool := decide ((r.bg : Int) < many) && (match r.en with
  | none => true
  | some e => decide (many ≤ (e : Int)))
def nums (R : List Tr) (many : Int) : List Int := (R.filter (und many)).map (·.n)
def t_under_way (C : Addr) : TF := fun args er q => ∃ (R : List Tr) (many : Int), args = [.imm (.dct (trsD C R)), .imm (.int many)] ∧ (R.map (·.n)).Nodup ∧ R.length ≤ 100 ∧ ∀ ρ', q (.imm (.lst ((srt (nums R many)).map D.int))) ρ'
theorem len_under_way (C : Addr) : ∀ as er q, t_under_way C as er q → as.length = 2 := fun as er q h => by
  obtain ⟨_, _, rfl, _⟩ := h
  rfl
theorem lk_trs {C : Addr} {R : List Tr} {r : Tr} (nd : (R.map (·.n)).Nodup) (h : r ∈ R) : lkD (trsD C R) (.inl r.n) = some (trD C r) := by
  induction R with
  | nil => cases h
  | cons a R ih =>
    rw [List.map_cons] at nd
    have nd' := List.nodup_cons.mp nd
    show lkD ((.inl a.n, trD C a) :: trsD C R) _ = _
    rw [lkD_cons]
    rcases List.mem_cons.mp h with rfl | h
    · rw [if_pos rfl]
    · have ne : a.n ≠ r.n := fun z => nd'.1 (z ▸ List.mem_map_of_mem h)
      rw [if_neg (fun w => ne (Sum.inl.inj w))]
      exact ih nd'.2 h
theorem sc_under_way : FnScope ["transfers", "many", "some", "number", "one"] ["transfers", "many"] (defScope s_under_way) := ⟨rfl, rfl, rfl, by decide +kernel, rfl, by decide +kernel, by decide +kernel⟩
theorem ok_under_way {f C : Addr} {fd : FuncData} (F : Fun K "under_way" "under_way" s_under_way f fd) (T : T0 mg) (TT : TrT K C) : FnG P w K mg base CX0 2 f fd ["transfers", "many"] (spD K 2 (t_under_way C)) := by
  refine fun_d F sc_under_way (fun cdv A outer s H E gd hr => ⟨_, have hu := hu_of hr; (dss_cons (ds_setLcD (own := [("number", 3), ("one", 4)]) (i := 2) false rfl sc_under_way.nd rfl rfl (sw_true rfl rfl rfl (by decide +kernel)) (pi_items (pv 0)) dm_items (blkOk_by (own := [("number", 3), ("one", 4)]) (N := ["transfers", "many", "some", "number", "one"]) (sc := defScope s_under_way) (by decide +kernel)) (fun _ _ _ _ _ => (dg_un (K := K) (by rfl) (dgs_name (i := 3) sc_under_way.nd rfl (Or.inl rfl) (dgs_name (i := 4) sc_under_way.nd rfl (Or.inl rfl) dgs_nil)) (dgsName_len (dgsName_len dgNil_len)))) (fun _ _ _ _ _ => (dts_one (dt_cmp od_lt (de_fld TT.cl TT.n4 (dv 4) (by rfl)) (dv 1) (nomark _)))) (fun _ _ _ _ _ => (dv 3)))
      (dss_one (ds_ret (de_callBO false (co_sorted (K := K) rfl) (by rfl) T.sorted_ (by decide +kernel) (da_cons (de_lc (own := [("number", 3)]) false rfl sc_under_way.nd (di_g (di_seq (K := K) (dv 2))) (blkOk_by (own := [("number", 3)]) (N := ["transfers", "many", "some", "number", "one"]) (sc := defScope s_under_way) (by decide +kernel)) (fun _ _ _ _ _ => (dg_name (i := 3) sc_under_way.nd rfl (Or.inl rfl))) (fun _ _ _ _ _ => (dts_one (dt_w (dw_or (dt_isN (de_fld TT.cl TT.n5 (de_sub (K := K) hu (dv 0) (dv 3) (fun _ _ => rfl)) (by rfl))) (dw_or1 (dt_cmp od_ge (de_fld TT.cl TT.n5 (de_sub (K := K) hu (dv 0) (dv 3) (fun _ _ => rfl)) (by rfl)) (dv 1) (nomark _))))))) (fun _ _ _ _ _ => (dv 3))) da_nil)))))⟩) fun args er q hl h => ?_

  obtain ⟨R, many, rfl, nd, few, k⟩ := h
  simp only [dBody, dSeq, dNext, dBreak, dCont, dDrop, dRet, dRetN, dIfS, dAsg, dgName, dgNil, dgsName, dgsPut, dgUn, dPar, dPar3, dVar, dC, dTake, dFrz, mkS, dBin, dBinO, dTest, dTru, dUn, dIsN, isNonB, dAnd, dOr, dNot, dAndV, dOrV, dNotV, asB, dIf, cnd, dNil, dCons, dTup, dLst, dNewD, dSub, dSl, dSlO, dNoPart, dPart, dIsi, dCallB, dCallO, wds, sds, wd, sd, rsv, Sl.dat, stv, notPar, Sl.with_, dCall, dCallK, argC, arC, useS, kindsB, Ar.sl, cond, ownL, ownD, upS, dLM, dLM0, isOwnL, isOwnD, dPop1, dPop2, dGet1, dGet2, isDct, dDput, dLput, dLput.known, dFld, dMth, dMth0, tyOk, dChain, dAugI, List.map_cons, List.map_nil, List.cons_append, List.nil_append, List.append_nil, List.length_cons, List.length_nil, List.replicate, List.getElem?_cons_zero, List.getElem?_cons_succ, List.getElem?_nil, List.set_cons_zero, List.set_cons_succ, Option.getD_some, Option.getD_none, Nat.reduceAdd, Nat.reduceSub, dNever, dYes, Nat.zero_le, dLc, dG, dSeqI, dOwnI, dLcD, dctS, dDc, dDcD, dFor, dForD, dRng1, dRng2, dEnum, noPar, wipeD, eqW, neW, D.key, itemsOf, keysOf, valsOf, gdT, isTy, tyD, notIns, List.any_cons, List.any_nil, Bool.or_false, Bool.or_true, Bool.true_or, Bool.false_or, Bool.not_true, Bool.not_false, String.reduceBEq, beq_self_eq_true, true_and, and_true, selN, sel, List.filterMap_cons, List.filterMap_nil, backR, back1, cleanR, clean1, clnR, List.tail_cons, List.head?_cons, List.not_mem_nil, false_implies, implies_true, List.nodup_nil, List.nodup_cons, not_false_eq_true, Ev.len_lst, Ev.len_tup, Ev.len_dct, Ev.len_set, Ev.len_str, Ev.add_int, Ev.add_str, Ev.add_tup, Ev.add_lst, Ev.mul_int, Ev.mul_lst, Ev.sub_lst, Ev.sub_tup, Ev.sub_str, Ev.sub_dctI, Ev.sub_dctS, Ev.cut_lst, Ev.cut_tup, Ev.cutL_lst, Ev.in_lst, Ev.in_tup, Ev.in_dctI, Ev.in_dctS, Ev.wI0_int, Ev.wII_int, Ev.neg_int, Ev.index_lst, Ev.set_lst, Ev.set_tup, Ev.all_lst, Ev.any_lst, Ev.list_lst, Ev.list_tup, Ev.list_dct, Ev.repr_one, Ev.dict_lst, Ev.tup_lst, Ev.tup_tup, Ev.append_one, Ev.pop_none, Ev.popAt_one, Ev.clear_none, Ev.extend_one, Ev.remove_one, Ev.seq_lst, Ev.seq_tup, Ev.enum_lst, Ev.enum_tup, Ev.int1_int, Ev.int2_int, Ev.int_int, Ev.max_int, Ev.min_int, Ev.opt_some, Ev.tru_lst, Ev.tru_tup, Ev.tru_int, Ev.par_imm, Ev.par_own, Ev.par_no, Ev.par_drw]
  have few1 : R.length ≤ sizeLine := sizeLine_big (by omega)
  have it1 : (trsD C R).map (fun p => D.tup [keyD p.1, p.2]) = R.map fun r => .tup [.int r.n, trD C r] := by
    unfold trsD
    rw [List.map_map]
    rfl
  rw [it1]
  refine lc_typed (fun r => .tup [.int r.n, trD C r]) (fun r => decide ((r.bg : Int) < many)) (fun r => .int r.n) ?_ few1 ?_ (fun r acc N hr ha h1 h2 => ?_) ?_
  · rfl
  · exact True.intro
  · simp only [dBody, dSeq, dNext, dBreak, dCont, dDrop, dRet, dRetN, dIfS, dAsg, dgName, dgNil, dgsName, dgsPut, dgUn, dPar, dPar3, dVar, dC, dTake, dFrz, mkS, dBin, dBinO, dTest, dTru, dUn, dIsN, isNonB, dAnd, dOr, dNot, dAndV, dOrV, dNotV, asB, dIf, cnd, dNil, dCons, dTup, dLst, dNewD, dSub, dSl, dSlO, dNoPart, dPart, dIsi, dCallB, dCallO, wds, sds, wd, sd, rsv, Sl.dat, stv, notPar, Sl.with_, dCall, dCallK, argC, arC, useS, kindsB, Ar.sl, cond, ownL, ownD, upS, dLM, dLM0, isOwnL, isOwnD, dPop1, dPop2, dGet1, dGet2, isDct, dDput, dLput, dLput.known, dFld, dMth, dMth0, tyOk, dChain, dAugI, List.map_cons, List.map_nil, List.cons_append, List.nil_append, List.append_nil, List.length_cons, List.length_nil, List.replicate, List.getElem?_cons_zero, List.getElem?_cons_succ, List.getElem?_nil, List.set_cons_zero, List.set_cons_succ, Option.getD_some, Option.getD_none, Nat.reduceAdd, Nat.reduceSub, dNever, dYes, Nat.zero_le, dLc, dG, dSeqI, dOwnI, dLcD, dctS, dDc, dDcD, dFor, dForD, dRng1, dRng2, dEnum, noPar, wipeD, eqW, neW, D.key, itemsOf, keysOf, valsOf, gdT, isTy, tyD, notIns, List.any_cons, List.any_nil, Bool.or_false, Bool.or_true, Bool.true_or, Bool.false_or, Bool.not_true, Bool.not_false, String.reduceBEq, beq_self_eq_true, true_and, and_true, selN, sel, List.filterMap_cons, List.filterMap_nil, backR, back1, cleanR, clean1, clnR, List.tail_cons, List.head?_cons, List.not_mem_nil, false_implies, implies_true, List.nodup_nil, List.nodup_cons, not_false_eq_true, Ev.len_lst, Ev.len_tup, Ev.len_dct, Ev.len_set, Ev.len_str, Ev.add_int, Ev.add_str, Ev.add_tup, Ev.add_lst, Ev.mul_int, Ev.mul_lst, Ev.sub_lst, Ev.sub_tup, Ev.sub_str, Ev.sub_dctI, Ev.sub_dctS, Ev.cut_lst, Ev.cut_tup, Ev.cutL_lst, Ev.in_lst, Ev.in_tup, Ev.in_dctI, Ev.in_dctS, Ev.wI0_int, Ev.wII_int, Ev.neg_int, Ev.index_lst, Ev.set_lst, Ev.set_tup, Ev.all_lst, Ev.any_lst, Ev.list_lst, Ev.list_tup, Ev.list_dct, Ev.repr_one, Ev.dict_lst, Ev.tup_lst, Ev.tup_tup, Ev.append_one, Ev.pop_none, Ev.popAt_one, Ev.clear_none, Ev.extend_one, Ev.remove_one, Ev.seq_lst, Ev.seq_tup, Ev.enum_lst, Ev.enum_tup, Ev.int1_int, Ev.int2_int, Ev.int_int, Ev.max_int, Ev.min_int, Ev.opt_some, Ev.tru_lst, Ev.tru_tup, Ev.tru_int, Ev.par_imm, Ev.par_own, Ev.par_no, Ev.par_drw, ins_tr, f_began]
    cases hb : decide ((r.bg : Int) < many) with
    | true => exact ⟨ha, h1 hb⟩
    | false => exact h2 hb
  · simp only [dBody, dSeq, dNext, dBreak, dCont, dDrop, dRet, dRetN, dIfS, dAsg, dgName, dgNil, dgsName, dgsPut, dgUn, dPar, dPar3, dVar, dC, dTake, dFrz, mkS, dBin, dBinO, dTest, dTru, dUn, dIsN, isNonB, dAnd, dOr, dNot, dAndV, dOrV, dNotV, asB, dIf, cnd, dNil, dCons, dTup, dLst, dNewD, dSub, dSl, dSlO, dNoPart, dPart, dIsi, dCallB, dCallO, wds, sds, wd, sd, rsv, Sl.dat, stv, notPar, Sl.with_, dCall, dCallK, argC, arC, useS, kindsB, Ar.sl, cond, ownL, ownD, upS, dLM, dLM0, isOwnL, isOwnD, dPop1, dPop2, dGet1, dGet2, isDct, dDput, dLput, dLput.known, dFld, dMth, dMth0, tyOk, dChain, dAugI, List.map_cons, List.map_nil, List.cons_append, List.nil_append, List.append_nil, List.length_cons, List.length_nil, List.replicate, List.getElem?_cons_zero, List.getElem?_cons_succ, List.getElem?_nil, List.set_cons_zero, List.set_cons_succ, Option.getD_some, Option.getD_none, Nat.reduceAdd, Nat.reduceSub, dNever, dYes, Nat.zero_le, dLc, dG, dSeqI, dOwnI, dLcD, dctS, dDc, dDcD, dFor, dForD, dRng1, dRng2, dEnum, noPar, wipeD, eqW, neW, D.key, itemsOf, keysOf, valsOf, gdT, isTy, tyD, notIns, List.any_cons, List.any_nil, Bool.or_false, Bool.or_true, Bool.true_or, Bool.false_or, Bool.not_true, Bool.not_false, String.reduceBEq, beq_self_eq_true, true_and, and_true, selN, sel, List.filterMap_cons, List.filterMap_nil, backR, back1, cleanR, clean1, clnR, List.tail_cons, List.head?_cons, List.not_mem_nil, false_implies, implies_true, List.nodup_nil, List.nodup_cons, not_false_eq_true, Ev.len_lst, Ev.len_tup, Ev.len_dct, Ev.len_set, Ev.len_str, Ev.add_int, Ev.add_str, Ev.add_tup, Ev.add_lst, Ev.mul_int, Ev.mul_lst, Ev.sub_lst, Ev.sub_tup, Ev.sub_str, Ev.sub_dctI, Ev.sub_dctS, Ev.cut_lst, Ev.cut_tup, Ev.cutL_lst, Ev.in_lst, Ev.in_tup, Ev.in_dctI, Ev.in_dctS, Ev.wI0_int, Ev.wII_int, Ev.neg_int, Ev.index_lst, Ev.set_lst, Ev.set_tup, Ev.all_lst, Ev.any_lst, Ev.list_lst, Ev.list_tup, Ev.list_dct, Ev.repr_one, Ev.dict_lst, Ev.tup_lst, Ev.tup_tup, Ev.append_one, Ev.pop_none, Ev.popAt_one, Ev.clear_none, Ev.extend_one, Ev.remove_one, Ev.seq_lst, Ev.seq_tup, Ev.enum_lst, Ev.enum_tup, Ev.int1_int, Ev.int2_int, Ev.int_int, Ev.max_int, Ev.min_int, Ev.opt_some, Ev.tru_lst, Ev.tru_tup, Ev.tru_int, Ev.par_imm, Ev.par_own, Ev.par_no, Ev.par_drw]
    refine lc_typed (α := Tr) (fun r => .int r.n) (fun r => match r.en with | none => true | some e => decide (many ≤ (e : Int))) (fun r => .int r.n) ?_ (sizeLine_big (Nat.le_trans (List.length_filter_le _ _) (by omega))) ?_ (fun r acc N hr ha h1 h2 => ?_) ?_
    · rfl
    · exact True.intro
    · have hm : r ∈ R := (List.mem_filter.mp hr).1
      simp only [dBody, dSeq, dNext, dBreak, dCont, dDrop, dRet, dRetN, dIfS, dAsg, dgName, dgNil, dgsName, dgsPut, dgUn, dPar, dPar3, dVar, dC, dTake, dFrz, mkS, dBin, dBinO, dTest, dTru, dUn, dIsN, isNonB, dAnd, dOr, dNot, dAndV, dOrV, dNotV, asB, dIf, cnd, dNil, dCons, dTup, dLst, dNewD, dSub, dSl, dSlO, dNoPart, dPart, dIsi, dCallB, dCallO, wds, sds, wd, sd, rsv, Sl.dat, stv, notPar, Sl.with_, dCall, dCallK, argC, arC, useS, kindsB, Ar.sl, cond, ownL, ownD, upS, dLM, dLM0, isOwnL, isOwnD, dPop1, dPop2, dGet1, dGet2, isDct, dDput, dLput, dLput.known, dFld, dMth, dMth0, tyOk, dChain, dAugI, List.map_cons, List.map_nil, List.cons_append, List.nil_append, List.append_nil, List.length_cons, List.length_nil, List.replicate, List.getElem?_cons_zero, List.getElem?_cons_succ, List.getElem?_nil, List.set_cons_zero, List.set_cons_succ, Option.getD_some, Option.getD_none, Nat.reduceAdd, Nat.reduceSub, dNever, dYes, Nat.zero_le, dLc, dG, dSeqI, dOwnI, dLcD, dctS, dDc, dDcD, dFor, dForD, dRng1, dRng2, dEnum, noPar, wipeD, eqW, neW, D.key, itemsOf, keysOf, valsOf, gdT, isTy, tyD, notIns, List.any_cons, List.any_nil, Bool.or_false, Bool.or_true, Bool.true_or, Bool.false_or, Bool.not_true, Bool.not_false, String.reduceBEq, beq_self_eq_true, true_and, and_true, selN, sel, List.filterMap_cons, List.filterMap_nil, backR, back1, cleanR, clean1, clnR, List.tail_cons, List.head?_cons, List.not_mem_nil, false_implies, implies_true, List.nodup_nil, List.nodup_cons, not_false_eq_true, Ev.len_lst, Ev.len_tup, Ev.len_dct, Ev.len_set, Ev.len_str, Ev.add_int, Ev.add_str, Ev.add_tup, Ev.add_lst, Ev.mul_int, Ev.mul_lst, Ev.sub_lst, Ev.sub_tup, Ev.sub_str, Ev.sub_dctI, Ev.sub_dctS, Ev.cut_lst, Ev.cut_tup, Ev.cutL_lst, Ev.in_lst, Ev.in_tup, Ev.in_dctI, Ev.in_dctS, Ev.wI0_int, Ev.wII_int, Ev.neg_int, Ev.index_lst, Ev.set_lst, Ev.set_tup, Ev.all_lst, Ev.any_lst, Ev.list_lst, Ev.list_tup, Ev.list_dct, Ev.repr_one, Ev.dict_lst, Ev.tup_lst, Ev.tup_tup, Ev.append_one, Ev.pop_none, Ev.popAt_one, Ev.clear_none, Ev.extend_one, Ev.remove_one, Ev.seq_lst, Ev.seq_tup, Ev.enum_lst, Ev.enum_tup, Ev.int1_int, Ev.int2_int, Ev.int_int, Ev.max_int, Ev.min_int, Ev.opt_some, Ev.tru_lst, Ev.tru_tup, Ev.tru_int, Ev.par_imm, Ev.par_own, Ev.par_no, Ev.par_drw]
      rw [lk_trs nd hm]
      simp only [dBody, dSeq, dNext, dBreak, dCont, dDrop, dRet, dRetN, dIfS, dAsg, dgName, dgNil, dgsName, dgsPut, dgUn, dPar, dPar3, dVar, dC, dTake, dFrz, mkS, dBin, dBinO, dTest, dTru, dUn, dIsN, isNonB, dAnd, dOr, dNot, dAndV, dOrV, dNotV, asB, dIf, cnd, dNil, dCons, dTup, dLst, dNewD, dSub, dSl, dSlO, dNoPart, dPart, dIsi, dCallB, dCallO, wds, sds, wd, sd, rsv, Sl.dat, stv, notPar, Sl.with_, dCall, dCallK, argC, arC, useS, kindsB, Ar.sl, cond, ownL, ownD, upS, dLM, dLM0, isOwnL, isOwnD, dPop1, dPop2, dGet1, dGet2, isDct, dDput, dLput, dLput.known, dFld, dMth, dMth0, tyOk, dChain, dAugI, List.map_cons, List.map_nil, List.cons_append, List.nil_append, List.append_nil, List.length_cons, List.length_nil, List.replicate, List.getElem?_cons_zero, List.getElem?_cons_succ, List.getElem?_nil, List.set_cons_zero, List.set_cons_succ, Option.getD_some, Option.getD_none, Nat.reduceAdd, Nat.reduceSub, dNever, dYes, Nat.zero_le, dLc, dG, dSeqI, dOwnI, dLcD, dctS, dDc, dDcD, dFor, dForD, dRng1, dRng2, dEnum, noPar, wipeD, eqW, neW, D.key, itemsOf, keysOf, valsOf, gdT, isTy, tyD, notIns, List.any_cons, List.any_nil, Bool.or_false, Bool.or_true, Bool.true_or, Bool.false_or, Bool.not_true, Bool.not_false, String.reduceBEq, beq_self_eq_true, true_and, and_true, selN, sel, List.filterMap_cons, List.filterMap_nil, backR, back1, cleanR, clean1, clnR, List.tail_cons, List.head?_cons, List.not_mem_nil, false_implies, implies_true, List.nodup_nil, List.nodup_cons, not_false_eq_true, Ev.len_lst, Ev.len_tup, Ev.len_dct, Ev.len_set, Ev.len_str, Ev.add_int, Ev.add_str, Ev.add_tup, Ev.add_lst, Ev.mul_int, Ev.mul_lst, Ev.sub_lst, Ev.sub_tup, Ev.sub_str, Ev.sub_dctI, Ev.sub_dctS, Ev.cut_lst, Ev.cut_tup, Ev.cutL_lst, Ev.in_lst, Ev.in_tup, Ev.in_dctI, Ev.in_dctS, Ev.wI0_int, Ev.wII_int, Ev.neg_int, Ev.index_lst, Ev.set_lst, Ev.set_tup, Ev.all_lst, Ev.any_lst, Ev.list_lst, Ev.list_tup, Ev.list_dct, Ev.repr_one, Ev.dict_lst, Ev.tup_lst, Ev.tup_tup, Ev.append_one, Ev.pop_none, Ev.popAt_one, Ev.clear_none, Ev.extend_one, Ev.remove_one, Ev.seq_lst, Ev.seq_tup, Ev.enum_lst, Ev.enum_tup, Ev.int1_int, Ev.int2_int, Ev.int_int, Ev.max_int, Ev.min_int, Ev.opt_some, Ev.tru_lst, Ev.tru_tup, Ev.tru_int, Ev.par_imm, Ev.par_own, Ev.par_no, Ev.par_drw, ins_tr, f_ended]
      cases en : r.en with
      | none =>
        rw [en] at h1
        simp only [enD, dBody, dSeq, dNext, dBreak, dCont, dDrop, dRet, dRetN, dIfS, dAsg, dgName, dgNil, dgsName, dgsPut, dgUn, dPar, dPar3, dVar, dC, dTake, dFrz, mkS, dBin, dBinO, dTest, dTru, dUn, dIsN, isNonB, dAnd, dOr, dNot, dAndV, dOrV, dNotV, asB, dIf, cnd, dNil, dCons, dTup, dLst, dNewD, dSub, dSl, dSlO, dNoPart, dPart, dIsi, dCallB, dCallO, wds, sds, wd, sd, rsv, Sl.dat, stv, notPar, Sl.with_, dCall, dCallK, argC, arC, useS, kindsB, Ar.sl, cond, ownL, ownD, upS, dLM, dLM0, isOwnL, isOwnD, dPop1, dPop2, dGet1, dGet2, isDct, dDput, dLput, dLput.known, dFld, dMth, dMth0, tyOk, dChain, dAugI, List.map_cons, List.map_nil, List.cons_append, List.nil_append, List.append_nil, List.length_cons, List.length_nil, List.replicate, List.getElem?_cons_zero, List.getElem?_cons_succ, List.getElem?_nil, List.set_cons_zero, List.set_cons_succ, Option.getD_some, Option.getD_none, Nat.reduceAdd, Nat.reduceSub, dNever, dYes, Nat.zero_le, dLc, dG, dSeqI, dOwnI, dLcD, dctS, dDc, dDcD, dFor, dForD, dRng1, dRng2, dEnum, noPar, wipeD, eqW, neW, D.key, itemsOf, keysOf, valsOf, gdT, isTy, tyD, notIns, List.any_cons, List.any_nil, Bool.or_false, Bool.or_true, Bool.true_or, Bool.false_or, Bool.not_true, Bool.not_false, String.reduceBEq, beq_self_eq_true, true_and, and_true, selN, sel, List.filterMap_cons, List.filterMap_nil, backR, back1, cleanR, clean1, clnR, List.tail_cons, List.head?_cons, List.not_mem_nil, false_implies, implies_true, List.nodup_nil, List.nodup_cons, not_false_eq_true, Ev.len_lst, Ev.len_tup, Ev.len_dct, Ev.len_set, Ev.len_str, Ev.add_int, Ev.add_str, Ev.add_tup, Ev.add_lst, Ev.mul_int, Ev.mul_lst, Ev.sub_lst, Ev.sub_tup, Ev.sub_str, Ev.sub_dctI, Ev.sub_dctS, Ev.cut_lst, Ev.cut_tup, Ev.cutL_lst, Ev.in_lst, Ev.in_tup, Ev.in_dctI, Ev.in_dctS, Ev.wI0_int, Ev.wII_int, Ev.neg_int, Ev.index_lst, Ev.set_lst, Ev.set_tup, Ev.all_lst, Ev.any_lst, Ev.list_lst, Ev.list_tup, Ev.list_dct, Ev.repr_one, Ev.dict_lst, Ev.tup_lst, Ev.tup_tup, Ev.append_one, Ev.pop_none, Ev.popAt_one, Ev.clear_none, Ev.extend_one, Ev.remove_one, Ev.seq_lst, Ev.seq_tup, Ev.enum_lst, Ev.enum_tup, Ev.int1_int, Ev.int2_int, Ev.int_int, Ev.max_int, Ev.min_int, Ev.opt_some, Ev.tru_lst, Ev.tru_tup, Ev.tru_int, Ev.par_imm, Ev.par_own, Ev.par_no, Ev.par_drw]
        exact ⟨ha, h1 rfl⟩
      | some e =>
        rw [en] at h1 h2
        simp only [enD, dBody, dSeq, dNext, dBreak, dCont, dDrop, dRet, dRetN, dIfS, dAsg, dgName, dgNil, dgsName, dgsPut, dgUn, dPar, dPar3, dVar, dC, dTake, dFrz, mkS, dBin, dBinO, dTest, dTru, dUn, dIsN, isNonB, dAnd, dOr, dNot, dAndV, dOrV, dNotV, asB, dIf, cnd, dNil, dCons, dTup, dLst, dNewD, dSub, dSl, dSlO, dNoPart, dPart, dIsi, dCallB, dCallO, wds, sds, wd, sd, rsv, Sl.dat, stv, notPar, Sl.with_, dCall, dCallK, argC, arC, useS, kindsB, Ar.sl, cond, ownL, ownD, upS, dLM, dLM0, isOwnL, isOwnD, dPop1, dPop2, dGet1, dGet2, isDct, dDput, dLput, dLput.known, dFld, dMth, dMth0, tyOk, dChain, dAugI, List.map_cons, List.map_nil, List.cons_append, List.nil_append, List.append_nil, List.length_cons, List.length_nil, List.replicate, List.getElem?_cons_zero, List.getElem?_cons_succ, List.getElem?_nil, List.set_cons_zero, List.set_cons_succ, Option.getD_some, Option.getD_none, Nat.reduceAdd, Nat.reduceSub, dNever, dYes, Nat.zero_le, dLc, dG, dSeqI, dOwnI, dLcD, dctS, dDc, dDcD, dFor, dForD, dRng1, dRng2, dEnum, noPar, wipeD, eqW, neW, D.key, itemsOf, keysOf, valsOf, gdT, isTy, tyD, notIns, List.any_cons, List.any_nil, Bool.or_false, Bool.or_true, Bool.true_or, Bool.false_or, Bool.not_true, Bool.not_false, String.reduceBEq, beq_self_eq_true, true_and, and_true, selN, sel, List.filterMap_cons, List.filterMap_nil, backR, back1, cleanR, clean1, clnR, List.tail_cons, List.head?_cons, List.not_mem_nil, false_implies, implies_true, List.nodup_nil, List.nodup_cons, not_false_eq_true, Ev.len_lst, Ev.len_tup, Ev.len_dct, Ev.len_set, Ev.len_str, Ev.add_int, Ev.add_str, Ev.add_tup, Ev.add_lst, Ev.mul_int, Ev.mul_lst, Ev.sub_lst, Ev.sub_tup, Ev.sub_str, Ev.sub_dctI, Ev.sub_dctS, Ev.cut_lst, Ev.cut_tup, Ev.cutL_lst, Ev.in_lst, Ev.in_tup, Ev.in_dctI, Ev.in_dctS, Ev.wI0_int, Ev.wII_int, Ev.neg_int, Ev.index_lst, Ev.set_lst, Ev.set_tup, Ev.all_lst, Ev.any_lst, Ev.list_lst, Ev.list_tup, Ev.list_dct, Ev.repr_one, Ev.dict_lst, Ev.tup_lst, Ev.tup_tup, Ev.append_one, Ev.pop_none, Ev.popAt_one, Ev.clear_none, Ev.extend_one, Ev.remove_one, Ev.seq_lst, Ev.seq_tup, Ev.enum_lst, Ev.enum_tup, Ev.int1_int, Ev.int2_int, Ev.int_int, Ev.max_int, Ev.min_int, Ev.opt_some, Ev.tru_lst, Ev.tru_tup, Ev.tru_int, Ev.par_imm, Ev.par_own, Ev.par_no, Ev.par_drw]
        cases hb : decide (many ≤ (e : Int)) with
        | true => exact ⟨ha, h1 hb⟩
        | false => exact h2 hb
    · refine ⟨nums R many, ?_, k _⟩
      unfold nums und
      rw [List.filter_filter, List.map_map]
      congr 1
      refine List.filter_congr fun r _ => ?_
      rw [Bool.and_comm]
end
end Bm
set_option maxRecDepth 100000
set_option maxHeartbeats 4000000
/-! what the transfers under way date -/
namespace Bm
open PySem PySem.Spec L2 L3 LamX Dl PyProof.Rows
theorem perm_lift {α β : Type} {f : α → β} : ∀ {l' : List β} {l : List α}, l'.Perm (l.map f) → ∃ L : List α, L.Perm l ∧ L.map f = l'
  | [], l, h => by
    have := h.length_eq
    rw [List.length_map, List.length_nil] at this
    exact ⟨[], by rw [List.length_eq_zero_iff.mp this.symm], rfl⟩
  | b :: l', l, h => by
    obtain ⟨x, hx, rfl⟩ := List.mem_map.mp (h.subset List.mem_cons_self)
    obtain ⟨p, r, rfl⟩ := List.append_of_mem hx
    have h2 : (f x :: l').Perm (f x :: (p ++ r).map f) := h.trans (by
      rw [List.map_append, List.map_cons, List.map_append]
      exact List.perm_middle)
    obtain ⟨L, h3, h4⟩ := perm_lift (l' := l') (l := p ++ r) (List.Perm.cons_inv h2)
    exact ⟨x :: L, (h3.cons x).trans List.perm_middle.symm, by rw [List.map_cons, h4]⟩
def IsK (U : List Int) (mt : List (Key × D)) : Prop := (mt.map (·.1)).Nodup ∧ ∀ p ∈ mt, ∃ k : Int, p.1 = .inl k ∧ k ∈ U
theorem IsK.len {U : List Int} {mt : List (Key × D)} (h : IsK U mt) : mt.length ≤ U.length := by
  have := nodup_le (ys := U.map fun k => (Sum.inl k : Key)) h.1 fun x hx => by
    obtain ⟨p, hp, rfl⟩ := List.mem_map.mp hx
    obtain ⟨k, e, hk⟩ := h.2 p hp
    exact List.mem_map.mpr ⟨k, hk, e.symm⟩
  rwa [List.length_map, List.length_map] at this
theorem IsK.put {U : List Int} {mt : List (Key × D)} {k : Int} {d : D} (h : IsK U mt) (hk : k ∈ U) (n : lkD mt (.inl k) = none) : IsK U (puD mt (.inl k) d) ∧ (puD mt (.inl k) d).length = mt.length + 1 := by
  rcases puD_keys mt (.inl k) d with ⟨_, m⟩ | ⟨e, nm⟩
  · obtain ⟨p, hp, ep⟩ := List.mem_map.mp m
    have : (lkD mt (.inl k)).isSome = true := by
      unfold lkD
      rw [Option.isSome_map]
      exact List.find?_isSome.mpr ⟨p, hp, by simp [ep]⟩
    rw [n] at this
    cases this
  · refine ⟨⟨?_, fun p hp => ?_⟩, ?_⟩
    · rw [e]
      exact List.nodup_append.mpr ⟨h.1, by simp, fun a ha b hb z => nm (by rw [List.mem_singleton.mp hb] at z; exact z ▸ ha)⟩
    · rcases puD_mem hp with rfl | hp
      · exact ⟨k, rfl, hk⟩
      · exact h.2 p hp
    · have := congrArg List.length e
      simpa using this
def Proc (E : Eds) (v : Int) (m : Mp) (x : Int) : Prop := ∀ t, (x, t) ∈ E → m t = some v
theorem Proc.set {E : Eds} {v : Int} {m : Mp} {x t : Int} (h : Proc E v m x) : Proc E v (setM m t v) x := fun y hy => by
  unfold setM
  split
  · rfl
  · exact h y hy
theorem key_set {m : Mp} {t v x : Int} : (setM m t v x).isSome = true ↔ x = t ∨ (m x).isSome = true := by
  unfold setM
  by_cases z : x = t
  · rw [if_pos z]; simp [z]
  · rw [if_neg z]; simp [z]
theorem keys_list {U : List Int} {ps : List (Key × D)} {m : Mp} (h : IsD U ps m) : ∃ ns : List Int, ps.map (fun p => keyD p.1) = ns.map D.int ∧ ns.length = ps.length ∧ ∀ x, (m x).isSome = true ↔ x ∈ ns := by
  obtain ⟨ns, e, _⟩ := outL_keys h
  refine ⟨ns, ?_, ?_, fun x => ?_⟩
  · have : ps.map (fun p => keyD p.1) = (ps.map (·.1)).map keyD := by rw [List.map_map]; rfl
    rw [this, e, List.map_map]
    rfl
  · have := congrArg List.length e
    simpa using this.symm
  · have l := h.2.2 x
    have e2 : x ∈ ns ↔ (Sum.inl x : Key) ∈ ps.map (·.1) := by
      rw [e]
      exact ⟨fun z => List.mem_map_of_mem z, fun z => by obtain ⟨y, hy, w⟩ := List.mem_map.mp z; cases w; exact hy⟩
    rw [e2]
    constructor
    · intro hk
      obtain ⟨v, ev⟩ := Option.isSome_iff_exists.mp hk
      rw [ev] at l
      exact List.mem_map_of_mem (f := (·.1)) (lkD_mem l)
    · intro hk
      obtain ⟨p, hp, ep⟩ := List.mem_map.mp hk
      have : (lkD ps (.inl x)).isSome = true := by
        unfold lkD
        rw [Option.isSome_map]
        exact List.find?_isSome.mpr ⟨p, hp, by simp [ep]⟩
      rw [l, Option.isSome_map] at this
      exact this
section
variable {P : Program} {w : World} {K : PySem.W.Frag} {mg : Str → Option Value} {base : Heap}
def edgR (R : List Tr) (many : Int) : Eds := (R.filter (und many)).map fun r => (r.s, r.t)
def t_spread (C : Addr) : TF := fun args er q => ∃ (ps : List (Key × D)) (R : List Tr) (v : Int) (U : List Int) (m : Mp), args = [.par (.dct ps), .imm (.dct (trsD C R)), .imm (.int v)] ∧ IsD U ps m ∧ (R.map (·.n)).Nodup ∧ R.length ≤ 100 ∧ (∀ r ∈ R, r.t ∈ U) ∧ U.length ≤ 100 ∧
  ∀ (ps' : List (Key × D)) (ρ' : Rho), IsD U ps' (led m (edgR R v) v) → ρ'.head? = some (.par (.dct ps')) → q (.imm .non) ρ'
theorem len_spread (C : Addr) : ∀ as er q, t_spread C as er q → as.length = 3 := fun as er q h => by
  obtain ⟨_, _, _, _, _, rfl, _⟩ := h
  rfl
theorem sc_spread : FnScope ["dates", "transfers", "many", "waiting", "for_now", "number", "met", "area", "one"] ["dates", "transfers", "many"] (defScope s_spread) := ⟨rfl, rfl, rfl, by decide +kernel, rfl, by decide +kernel, by decide +kernel⟩
theorem ok_spread {f C : Addr} {fd : FuncData} (F : Fun K "spread" "spread" s_spread f fd) (T : T0 mg) (TT : TrT K C) (HU : HasD P w K mg base CX0 2 "under_way" ["transfers", "many"] 2 (t_under_way C)) : FnG P w K mg base CX0 3 f fd ["dates", "transfers", "many"] (spD K 3 (t_spread C)) := by
  refine fun_d F sc_spread (fun cdv A outer s H E gd hr => ⟨_, have hu := hu_of hr; (dss_cons (ds_set (i := 3) sc_spread.nd rfl (Or.inl rfl) (de_callTO true (co_list (K := K) rfl) (by rfl) T.list_ (by decide +kernel) (da_cons (dv 0) da_nil)))
      (dss_cons (ds_setLc (own := [("number", 5)]) (i := 4) false rfl sc_spread.nd rfl rfl (sw_true rfl rfl rfl (by decide +kernel)) (di_g (di_seq (K := K) (de_callH [false, false] HU gd hr (by decide) (by rfl) pass0 (da_cons (dv 1) (da_cons (dv 2) da_nil))))) (blkOk_by (own := [("number", 5)]) (N := ["dates", "transfers", "many", "waiting", "for_now", "number", "met", "area", "one"]) (sc := defScope s_spread) (by decide +kernel)) (fun _ _ _ _ _ => (dg_name (i := 5) sc_spread.nd rfl (Or.inl rfl))) (fun _ _ _ _ _ => dts_nil) (fun _ _ _ _ _ => (de_sub (K := K) hu (dv 1) (dv 5) (fun _ _ => rfl))))
      (dss_cons (ds_set (i := 6) sc_spread.nd rfl (Or.inl rfl) (de_newD true))
      (dss_one (ds_while PassesOwn.never (dt_cmp (od_ne (K := K) hr) (dv 3) (de_lst false da_nil) (nomark _))
        (dss_cons (ds_set (i := 7) sc_spread.nd rfl (Or.inl rfl) (de_lm0 (K := K) PySem.F.slot_list_pop PySem.F.type_list_pop lm_pop (pv 3)))
          (dss_one (ds_for PassesOwn.never rfl (di_seq (K := K) (dv 4)) (dg_name (i := 8) sc_spread.nd rfl (Or.inl rfl))
            (dss_one (ds_if (dt_cmp (od_eq (K := K) hr) (de_fld TT.cl TT.n2 (dv 8) (by rfl)) (dv 7) (nomark _))
                (dss_cons (ds_dput hu (pv 0) (de_fld TT.cl TT.n3 (dv 8) (by rfl)) (dv 2) rfl)
                  (dss_one (ds_if (dt_cmp (od_notIn (K := K) hr) (de_fld TT.cl TT.n3 (dv 8) (by rfl)) (dv 6) (by rfl))
                    (dss_cons (ds_dput hu (pv 6) (de_fld TT.cl TT.n3 (dv 8) (by rfl)) de_bl rfl)
                      (dss_one (ds_expr (de_lm (K := K) PySem.F.slot_list_append PySem.F.type_list_append lm_append (pv 3) (da_cons (de_fld TT.cl TT.n3 (dv 8) (by rfl)) da_nil)))))
                    dss_nil)))
                dss_nil))))))))))⟩) fun args er q hl h => ?_

  obtain ⟨ps, R, v, U, m, rfl, hD, nd, r100, hU, u100, k⟩ := h
  simp only [dBody, dSeq, dNext, dBreak, dCont, dDrop, dRet, dRetN, dIfS, dAsg, dgName, dgNil, dgsName, dgsPut, dgUn, dPar, dPar3, dVar, dC, dTake, dFrz, mkS, dBin, dBinO, dTest, dTru, dUn, dIsN, isNonB, dAnd, dOr, dNot, dAndV, dOrV, dNotV, asB, dIf, cnd, dNil, dCons, dTup, dLst, dNewD, dSub, dSl, dSlO, dNoPart, dPart, dIsi, dCallB, dCallO, wds, sds, wd, sd, rsv, Sl.dat, stv, notPar, Sl.with_, dCall, dCallK, argC, arC, useS, kindsB, Ar.sl, cond, ownL, ownD, upS, dLM, dLM0, isOwnL, isOwnD, dPop1, dPop2, dGet1, dGet2, isDct, dDput, dLput, dLput.known, dFld, dMth, dMth0, tyOk, dChain, dAugI, List.map_cons, List.map_nil, List.cons_append, List.nil_append, List.append_nil, List.length_cons, List.length_nil, List.replicate, List.getElem?_cons_zero, List.getElem?_cons_succ, List.getElem?_nil, List.set_cons_zero, List.set_cons_succ, Option.getD_some, Option.getD_none, Nat.reduceAdd, Nat.reduceSub, dNever, dYes, Nat.zero_le, dLc, dG, dSeqI, dOwnI, dLcD, dctS, dDc, dDcD, dFor, dForD, dRng1, dRng2, dEnum, noPar, wipeD, eqW, neW, D.key, itemsOf, keysOf, valsOf, gdT, isTy, tyD, notIns, List.any_cons, List.any_nil, Bool.or_false, Bool.or_true, Bool.true_or, Bool.false_or, Bool.not_true, Bool.not_false, String.reduceBEq, beq_self_eq_true, true_and, and_true, selN, sel, List.filterMap_cons, List.filterMap_nil, backR, back1, cleanR, clean1, clnR, List.tail_cons, List.head?_cons, List.not_mem_nil, false_implies, implies_true, List.nodup_nil, List.nodup_cons, not_false_eq_true, Ev.len_lst, Ev.len_tup, Ev.len_dct, Ev.len_set, Ev.len_str, Ev.add_int, Ev.add_str, Ev.add_tup, Ev.add_lst, Ev.mul_int, Ev.mul_lst, Ev.sub_lst, Ev.sub_tup, Ev.sub_str, Ev.sub_dctI, Ev.sub_dctS, Ev.cut_lst, Ev.cut_tup, Ev.cutL_lst, Ev.in_lst, Ev.in_tup, Ev.in_dctI, Ev.in_dctS, Ev.wI0_int, Ev.wII_int, Ev.neg_int, Ev.index_lst, Ev.set_lst, Ev.set_tup, Ev.all_lst, Ev.any_lst, Ev.list_lst, Ev.list_tup, Ev.list_dct, Ev.repr_one, Ev.dict_lst, Ev.tup_lst, Ev.tup_tup, Ev.append_one, Ev.pop_none, Ev.popAt_one, Ev.clear_none, Ev.extend_one, Ev.remove_one, Ev.seq_lst, Ev.seq_tup, Ev.enum_lst, Ev.enum_tup, Ev.int1_int, Ev.int2_int, Ev.int_int, Ev.max_int, Ev.min_int, Ev.opt_some, Ev.tru_lst, Ev.tru_tup, Ev.tru_int, Ev.par_imm, Ev.par_own, Ev.par_no, Ev.par_drw]
  refine ⟨R, v, rfl, nd, r100, fun ρ' => ?_⟩
  simp only [dBody, dSeq, dNext, dBreak, dCont, dDrop, dRet, dRetN, dIfS, dAsg, dgName, dgNil, dgsName, dgsPut, dgUn, dPar, dPar3, dVar, dC, dTake, dFrz, mkS, dBin, dBinO, dTest, dTru, dUn, dIsN, isNonB, dAnd, dOr, dNot, dAndV, dOrV, dNotV, asB, dIf, cnd, dNil, dCons, dTup, dLst, dNewD, dSub, dSl, dSlO, dNoPart, dPart, dIsi, dCallB, dCallO, wds, sds, wd, sd, rsv, Sl.dat, stv, notPar, Sl.with_, dCall, dCallK, argC, arC, useS, kindsB, Ar.sl, cond, ownL, ownD, upS, dLM, dLM0, isOwnL, isOwnD, dPop1, dPop2, dGet1, dGet2, isDct, dDput, dLput, dLput.known, dFld, dMth, dMth0, tyOk, dChain, dAugI, List.map_cons, List.map_nil, List.cons_append, List.nil_append, List.append_nil, List.length_cons, List.length_nil, List.replicate, List.getElem?_cons_zero, List.getElem?_cons_succ, List.getElem?_nil, List.set_cons_zero, List.set_cons_succ, Option.getD_some, Option.getD_none, Nat.reduceAdd, Nat.reduceSub, dNever, dYes, Nat.zero_le, dLc, dG, dSeqI, dOwnI, dLcD, dctS, dDc, dDcD, dFor, dForD, dRng1, dRng2, dEnum, noPar, wipeD, eqW, neW, D.key, itemsOf, keysOf, valsOf, gdT, isTy, tyD, notIns, List.any_cons, List.any_nil, Bool.or_false, Bool.or_true, Bool.true_or, Bool.false_or, Bool.not_true, Bool.not_false, String.reduceBEq, beq_self_eq_true, true_and, and_true, selN, sel, List.filterMap_cons, List.filterMap_nil, backR, back1, cleanR, clean1, clnR, List.tail_cons, List.head?_cons, List.not_mem_nil, false_implies, implies_true, List.nodup_nil, List.nodup_cons, not_false_eq_true, Ev.len_lst, Ev.len_tup, Ev.len_dct, Ev.len_set, Ev.len_str, Ev.add_int, Ev.add_str, Ev.add_tup, Ev.add_lst, Ev.mul_int, Ev.mul_lst, Ev.sub_lst, Ev.sub_tup, Ev.sub_str, Ev.sub_dctI, Ev.sub_dctS, Ev.cut_lst, Ev.cut_tup, Ev.cutL_lst, Ev.in_lst, Ev.in_tup, Ev.in_dctI, Ev.in_dctS, Ev.wI0_int, Ev.wII_int, Ev.neg_int, Ev.index_lst, Ev.set_lst, Ev.set_tup, Ev.all_lst, Ev.any_lst, Ev.list_lst, Ev.list_tup, Ev.list_dct, Ev.repr_one, Ev.dict_lst, Ev.tup_lst, Ev.tup_tup, Ev.append_one, Ev.pop_none, Ev.popAt_one, Ev.clear_none, Ev.extend_one, Ev.remove_one, Ev.seq_lst, Ev.seq_tup, Ev.enum_lst, Ev.enum_tup, Ev.int1_int, Ev.int2_int, Ev.int_int, Ev.max_int, Ev.min_int, Ev.opt_some, Ev.tru_lst, Ev.tru_tup, Ev.tru_int, Ev.par_imm, Ev.par_own, Ev.par_no, Ev.par_drw]
  obtain ⟨L, pL, eL⟩ := perm_lift (srt_perm (nums R v))
  have inR : ∀ r ∈ L, r ∈ R := fun r hr => (List.mem_filter.mp (pL.subset hr)).1
  have lL : L.length ≤ 100 := by rw [pL.length_eq]; exact Nat.le_trans (List.length_filter_le _ _) r100
  have hE : ∀ x y, (x, y) ∈ edgR R v ↔ ∃ r ∈ L, r.s = x ∧ r.t = y := fun x y => by
    constructor
    · intro z
      obtain ⟨r, hr, e⟩ := List.mem_map.mp z
      cases e
      exact ⟨r, pL.symm.subset hr, rfl, rfl⟩
    · rintro ⟨r, hr, rfl, rfl⟩
      exact List.mem_map.mpr ⟨r, pL.subset hr, rfl⟩
  have it1 : (srt (nums R v)).map D.int = L.map fun r => .int r.n := by rw [← eL, List.map_map]; rfl
  rw [it1]
  refine lc_typed (L := L) (fun r => .int r.n) (fun _ => true) (trD C) ?_ (sizeLine_big (by omega)) ?_ (fun r acc N hr ha h1 _ => ?_) ?_
  · rfl
  · exact True.intro
  · simp only [dBody, dSeq, dNext, dBreak, dCont, dDrop, dRet, dRetN, dIfS, dAsg, dgName, dgNil, dgsName, dgsPut, dgUn, dPar, dPar3, dVar, dC, dTake, dFrz, mkS, dBin, dBinO, dTest, dTru, dUn, dIsN, isNonB, dAnd, dOr, dNot, dAndV, dOrV, dNotV, asB, dIf, cnd, dNil, dCons, dTup, dLst, dNewD, dSub, dSl, dSlO, dNoPart, dPart, dIsi, dCallB, dCallO, wds, sds, wd, sd, rsv, Sl.dat, stv, notPar, Sl.with_, dCall, dCallK, argC, arC, useS, kindsB, Ar.sl, cond, ownL, ownD, upS, dLM, dLM0, isOwnL, isOwnD, dPop1, dPop2, dGet1, dGet2, isDct, dDput, dLput, dLput.known, dFld, dMth, dMth0, tyOk, dChain, dAugI, List.map_cons, List.map_nil, List.cons_append, List.nil_append, List.append_nil, List.length_cons, List.length_nil, List.replicate, List.getElem?_cons_zero, List.getElem?_cons_succ, List.getElem?_nil, List.set_cons_zero, List.set_cons_succ, Option.getD_some, Option.getD_none, Nat.reduceAdd, Nat.reduceSub, dNever, dYes, Nat.zero_le, dLc, dG, dSeqI, dOwnI, dLcD, dctS, dDc, dDcD, dFor, dForD, dRng1, dRng2, dEnum, noPar, wipeD, eqW, neW, D.key, itemsOf, keysOf, valsOf, gdT, isTy, tyD, notIns, List.any_cons, List.any_nil, Bool.or_false, Bool.or_true, Bool.true_or, Bool.false_or, Bool.not_true, Bool.not_false, String.reduceBEq, beq_self_eq_true, true_and, and_true, selN, sel, List.filterMap_cons, List.filterMap_nil, backR, back1, cleanR, clean1, clnR, List.tail_cons, List.head?_cons, List.not_mem_nil, false_implies, implies_true, List.nodup_nil, List.nodup_cons, not_false_eq_true, Ev.len_lst, Ev.len_tup, Ev.len_dct, Ev.len_set, Ev.len_str, Ev.add_int, Ev.add_str, Ev.add_tup, Ev.add_lst, Ev.mul_int, Ev.mul_lst, Ev.sub_lst, Ev.sub_tup, Ev.sub_str, Ev.sub_dctI, Ev.sub_dctS, Ev.cut_lst, Ev.cut_tup, Ev.cutL_lst, Ev.in_lst, Ev.in_tup, Ev.in_dctI, Ev.in_dctS, Ev.wI0_int, Ev.wII_int, Ev.neg_int, Ev.index_lst, Ev.set_lst, Ev.set_tup, Ev.all_lst, Ev.any_lst, Ev.list_lst, Ev.list_tup, Ev.list_dct, Ev.repr_one, Ev.dict_lst, Ev.tup_lst, Ev.tup_tup, Ev.append_one, Ev.pop_none, Ev.popAt_one, Ev.clear_none, Ev.extend_one, Ev.remove_one, Ev.seq_lst, Ev.seq_tup, Ev.enum_lst, Ev.enum_tup, Ev.int1_int, Ev.int2_int, Ev.int_int, Ev.max_int, Ev.min_int, Ev.opt_some, Ev.tru_lst, Ev.tru_tup, Ev.tru_int, Ev.par_imm, Ev.par_own, Ev.par_no, Ev.par_drw]
    rw [lk_trs nd (inR r hr)]
    exact ⟨ha, h1 rfl⟩
  rw [List.filter_eq_self.mpr (fun _ _ => rfl)]
  simp only [dBody, dSeq, dNext, dBreak, dCont, dDrop, dRet, dRetN, dIfS, dAsg, dgName, dgNil, dgsName, dgsPut, dgUn, dPar, dPar3, dVar, dC, dTake, dFrz, mkS, dBin, dBinO, dTest, dTru, dUn, dIsN, isNonB, dAnd, dOr, dNot, dAndV, dOrV, dNotV, asB, dIf, cnd, dNil, dCons, dTup, dLst, dNewD, dSub, dSl, dSlO, dNoPart, dPart, dIsi, dCallB, dCallO, wds, sds, wd, sd, rsv, Sl.dat, stv, notPar, Sl.with_, dCall, dCallK, argC, arC, useS, kindsB, Ar.sl, cond, ownL, ownD, upS, dLM, dLM0, isOwnL, isOwnD, dPop1, dPop2, dGet1, dGet2, isDct, dDput, dLput, dLput.known, dFld, dMth, dMth0, tyOk, dChain, dAugI, List.map_cons, List.map_nil, List.cons_append, List.nil_append, List.append_nil, List.length_cons, List.length_nil, List.replicate, List.getElem?_cons_zero, List.getElem?_cons_succ, List.getElem?_nil, List.set_cons_zero, List.set_cons_succ, Option.getD_some, Option.getD_none, Nat.reduceAdd, Nat.reduceSub, dNever, dYes, Nat.zero_le, dLc, dG, dSeqI, dOwnI, dLcD, dctS, dDc, dDcD, dFor, dForD, dRng1, dRng2, dEnum, noPar, wipeD, eqW, neW, D.key, itemsOf, keysOf, valsOf, gdT, isTy, tyD, notIns, List.any_cons, List.any_nil, Bool.or_false, Bool.or_true, Bool.true_or, Bool.false_or, Bool.not_true, Bool.not_false, String.reduceBEq, beq_self_eq_true, true_and, and_true, selN, sel, List.filterMap_cons, List.filterMap_nil, backR, back1, cleanR, clean1, clnR, List.tail_cons, List.head?_cons, List.not_mem_nil, false_implies, implies_true, List.nodup_nil, List.nodup_cons, not_false_eq_true, Ev.len_lst, Ev.len_tup, Ev.len_dct, Ev.len_set, Ev.len_str, Ev.add_int, Ev.add_str, Ev.add_tup, Ev.add_lst, Ev.mul_int, Ev.mul_lst, Ev.sub_lst, Ev.sub_tup, Ev.sub_str, Ev.sub_dctI, Ev.sub_dctS, Ev.cut_lst, Ev.cut_tup, Ev.cutL_lst, Ev.in_lst, Ev.in_tup, Ev.in_dctI, Ev.in_dctS, Ev.wI0_int, Ev.wII_int, Ev.neg_int, Ev.index_lst, Ev.set_lst, Ev.set_tup, Ev.all_lst, Ev.any_lst, Ev.list_lst, Ev.list_tup, Ev.list_dct, Ev.repr_one, Ev.dict_lst, Ev.tup_lst, Ev.tup_tup, Ev.append_one, Ev.pop_none, Ev.popAt_one, Ev.clear_none, Ev.extend_one, Ev.remove_one, Ev.seq_lst, Ev.seq_tup, Ev.enum_lst, Ev.enum_tup, Ev.int1_int, Ev.int2_int, Ev.int_int, Ev.max_int, Ev.min_int, Ev.opt_some, Ev.tru_lst, Ev.tru_tup, Ev.tru_int, Ev.par_imm, Ev.par_own, Ev.par_no, Ev.par_drw]
  obtain ⟨ks, eks, lks, hks⟩ := keys_list hD
  rw [eks]
  have lps := hD.len
  refine while_of (fun M ρ => ∃ (ps' mt : List (Key × D)) (m' : Mp) (wl : List Int) (x7 x8 : Sl), ρ = [.par (.dct ps'), .imm (.dct (trsD C R)), .imm (.int v), .own (.lst (wl.map D.int)), .imm (.lst (L.map (trD C))), .no, .own (.dct mt), x7, x8] ∧ (x7.isPar = false ∧ x8.isPar = false) ∧ IsD U ps' m' ∧ Sound (edgR R v) m v m' ∧ IsK U mt ∧
    (∀ x, (lkD mt (.inl x)).isSome = true → (m' x).isSome = true) ∧ (∀ x ∈ wl, (m' x).isSome = true) ∧ (∀ x, (m' x).isSome = true → x ∈ wl ∨ Proc (edgR R v) v m' x) ∧ M = wl.length + (U.length - mt.length) ∧ M ≤ 200) ?_ ?_
  · exact ⟨_, ps, [], m, ks, _, _, rfl, ⟨rfl, rfl⟩, hD, .refl, ⟨.nil, fun p hp => absurd hp List.not_mem_nil⟩, (fun x hx => by cases hx), fun x hx => (hks x).mpr hx, fun x hx => .inl ((hks x).mp hx), rfl, by simp only [List.length_nil]; omega⟩
  rintro M ρ N ⟨ps', mt, m', wl, x7, x8, rfl, ⟨p7, p8⟩, hD', so, hK, mk, wk, inv, rfl, M200⟩ hN
  simp only [dBody, dSeq, dNext, dBreak, dCont, dDrop, dRet, dRetN, dIfS, dAsg, dgName, dgNil, dgsName, dgsPut, dgUn, dPar, dPar3, dVar, dC, dTake, dFrz, mkS, dBin, dBinO, dTest, dTru, dUn, dIsN, isNonB, dAnd, dOr, dNot, dAndV, dOrV, dNotV, asB, dIf, cnd, dNil, dCons, dTup, dLst, dNewD, dSub, dSl, dSlO, dNoPart, dPart, dIsi, dCallB, dCallO, wds, sds, wd, sd, rsv, Sl.dat, stv, notPar, Sl.with_, dCall, dCallK, argC, arC, useS, kindsB, Ar.sl, cond, ownL, ownD, upS, dLM, dLM0, isOwnL, isOwnD, dPop1, dPop2, dGet1, dGet2, isDct, dDput, dLput, dLput.known, dFld, dMth, dMth0, tyOk, dChain, dAugI, List.map_cons, List.map_nil, List.cons_append, List.nil_append, List.append_nil, List.length_cons, List.length_nil, List.replicate, List.getElem?_cons_zero, List.getElem?_cons_succ, List.getElem?_nil, List.set_cons_zero, List.set_cons_succ, Option.getD_some, Option.getD_none, Nat.reduceAdd, Nat.reduceSub, dNever, dYes, Nat.zero_le, dLc, dG, dSeqI, dOwnI, dLcD, dctS, dDc, dDcD, dFor, dForD, dRng1, dRng2, dEnum, noPar, wipeD, eqW, neW, D.key, itemsOf, keysOf, valsOf, gdT, isTy, tyD, notIns, List.any_cons, List.any_nil, Bool.or_false, Bool.or_true, Bool.true_or, Bool.false_or, Bool.not_true, Bool.not_false, String.reduceBEq, beq_self_eq_true, true_and, and_true, selN, sel, List.filterMap_cons, List.filterMap_nil, backR, back1, cleanR, clean1, clnR, List.tail_cons, List.head?_cons, List.not_mem_nil, false_implies, implies_true, List.nodup_nil, List.nodup_cons, not_false_eq_true, Ev.len_lst, Ev.len_tup, Ev.len_dct, Ev.len_set, Ev.len_str, Ev.add_int, Ev.add_str, Ev.add_tup, Ev.add_lst, Ev.mul_int, Ev.mul_lst, Ev.sub_lst, Ev.sub_tup, Ev.sub_str, Ev.sub_dctI, Ev.sub_dctS, Ev.cut_lst, Ev.cut_tup, Ev.cutL_lst, Ev.in_lst, Ev.in_tup, Ev.in_dctI, Ev.in_dctS, Ev.wI0_int, Ev.wII_int, Ev.neg_int, Ev.index_lst, Ev.set_lst, Ev.set_tup, Ev.all_lst, Ev.any_lst, Ev.list_lst, Ev.list_tup, Ev.list_dct, Ev.repr_one, Ev.dict_lst, Ev.tup_lst, Ev.tup_tup, Ev.append_one, Ev.pop_none, Ev.popAt_one, Ev.clear_none, Ev.extend_one, Ev.remove_one, Ev.seq_lst, Ev.seq_tup, Ev.enum_lst, Ev.enum_tup, Ev.int1_int, Ev.int2_int, Ev.int_int, Ev.max_int, Ev.min_int, Ev.opt_some, Ev.tru_lst, Ev.tru_tup, Ev.tru_int, Ev.par_imm, Ev.par_own, Ev.par_no, Ev.par_drw]
  refine ⟨okD_ints _, okD_nil, ?_⟩
  rw [deq_nil]
  by_cases wz : wl = []
  · subst wz
    simp only [List.map_nil, List.isEmpty_nil, Bool.not_true]
    refine k ps' _ ?_ rfl
    rw [← led_eq so fun s t h hs => ?_]
    · exact hD'
    · rcases inv s hs with z | z
      · cases z
      · exact z t h
  · have : (!(wl.map D.int).isEmpty) = true := by simp [wz]
    rw [this]
    simp only
    obtain ⟨wi, a, rfl⟩ := ends_some wz
    rw [last_some, drop_last]
    simp only [Ev.opt_some]
    refine ⟨p7, ?_⟩
    have lw : (wi ++ [a]).length = wi.length + 1 := by rw [List.length_append]; rfl
    rw [lw] at hN M200
    refine for_ind (fun i ρ => ∃ (ps2 mt2 : List (Key × D)) (m2 : Mp) (wl2 : List Int) (y8 : Sl), ρ = [.par (.dct ps2), .imm (.dct (trsD C R)), .imm (.int v), .own (.lst (wl2.map D.int)), .imm (.lst (L.map (trD C))), .no, .own (.dct mt2), .imm (.int a), y8] ∧ y8.isPar = false ∧ IsD U ps2 m2 ∧ Sound (edgR R v) m v m2 ∧ IsK U mt2 ∧
      (∀ x, (lkD mt2 (.inl x)).isSome = true → (m2 x).isSome = true) ∧ (∀ x ∈ wl2, (m2 x).isSome = true) ∧ (∀ x, (m2 x).isSome = true → x ∈ wl2 ∨ Proc (edgR R v) v m2 x ∨ x = a) ∧ (m2 a).isSome = true ∧ (∀ r ∈ L.take i, r.s = a → m2 r.t = some v) ∧ wl2.length + (U.length - mt2.length) = wi.length + (U.length - mt.length)) ?_ ?_ ?_
    · refine ⟨ps', mt, m', wi, _, rfl, p8, hD', so, hK, mk, fun x hx => wk x (List.mem_append_left _ hx), fun x hx => ?_, wk a (List.mem_append_right _ (List.mem_singleton.mpr rfl)), (fun r hr => by rw [List.take_zero] at hr; cases hr), rfl⟩
      rcases inv x hx with z | z
      · rcases List.mem_append.mp z with z | z
        · exact .inl z
        · exact .inr (.inr (List.mem_singleton.mp z))
      · exact .inr (.inl z)
    · rintro i d ρ N2 ed ⟨ps2, mt2, m2, wl2, y8, rfl, q8, hD2, so2, hK2, mk2, wk2, inv2, ka, dn, ms⟩ hN2
      rw [List.getElem?_map] at ed
      obtain ⟨r, er, rfl⟩ := Option.map_eq_some_iff.mp ed
      have hr := List.mem_of_getElem? er
      have few : ps2.length < sizeLine := Nat.lt_of_le_of_lt hD2.len (small1000 (by omega))
      have fewM : mt2.length < sizeLine := Nat.lt_of_le_of_lt hK2.len (small1000 (by omega))
      have tU := hU r (inR r hr)
      simp only [dBody, dSeq, dNext, dBreak, dCont, dDrop, dRet, dRetN, dIfS, dAsg, dgName, dgNil, dgsName, dgsPut, dgUn, dPar, dPar3, dVar, dC, dTake, dFrz, mkS, dBin, dBinO, dTest, dTru, dUn, dIsN, isNonB, dAnd, dOr, dNot, dAndV, dOrV, dNotV, asB, dIf, cnd, dNil, dCons, dTup, dLst, dNewD, dSub, dSl, dSlO, dNoPart, dPart, dIsi, dCallB, dCallO, wds, sds, wd, sd, rsv, Sl.dat, stv, notPar, Sl.with_, dCall, dCallK, argC, arC, useS, kindsB, Ar.sl, cond, ownL, ownD, upS, dLM, dLM0, isOwnL, isOwnD, dPop1, dPop2, dGet1, dGet2, isDct, dDput, dLput, dLput.known, dFld, dMth, dMth0, tyOk, dChain, dAugI, List.map_cons, List.map_nil, List.cons_append, List.nil_append, List.append_nil, List.length_cons, List.length_nil, List.replicate, List.getElem?_cons_zero, List.getElem?_cons_succ, List.getElem?_nil, List.set_cons_zero, List.set_cons_succ, Option.getD_some, Option.getD_none, Nat.reduceAdd, Nat.reduceSub, dNever, dYes, Nat.zero_le, dLc, dG, dSeqI, dOwnI, dLcD, dctS, dDc, dDcD, dFor, dForD, dRng1, dRng2, dEnum, noPar, wipeD, eqW, neW, D.key, itemsOf, keysOf, valsOf, gdT, isTy, tyD, notIns, List.any_cons, List.any_nil, Bool.or_false, Bool.or_true, Bool.true_or, Bool.false_or, Bool.not_true, Bool.not_false, String.reduceBEq, beq_self_eq_true, true_and, and_true, selN, sel, List.filterMap_cons, List.filterMap_nil, backR, back1, cleanR, clean1, clnR, List.tail_cons, List.head?_cons, List.not_mem_nil, false_implies, implies_true, List.nodup_nil, List.nodup_cons, not_false_eq_true, Ev.len_lst, Ev.len_tup, Ev.len_dct, Ev.len_set, Ev.len_str, Ev.add_int, Ev.add_str, Ev.add_tup, Ev.add_lst, Ev.mul_int, Ev.mul_lst, Ev.sub_lst, Ev.sub_tup, Ev.sub_str, Ev.sub_dctI, Ev.sub_dctS, Ev.cut_lst, Ev.cut_tup, Ev.cutL_lst, Ev.in_lst, Ev.in_tup, Ev.in_dctI, Ev.in_dctS, Ev.wI0_int, Ev.wII_int, Ev.neg_int, Ev.index_lst, Ev.set_lst, Ev.set_tup, Ev.all_lst, Ev.any_lst, Ev.list_lst, Ev.list_tup, Ev.list_dct, Ev.repr_one, Ev.dict_lst, Ev.tup_lst, Ev.tup_tup, Ev.append_one, Ev.pop_none, Ev.popAt_one, Ev.clear_none, Ev.extend_one, Ev.remove_one, Ev.seq_lst, Ev.seq_tup, Ev.enum_lst, Ev.enum_tup, Ev.int1_int, Ev.int2_int, Ev.int_int, Ev.max_int, Ev.min_int, Ev.opt_some, Ev.tru_lst, Ev.tru_tup, Ev.tru_int, Ev.par_imm, Ev.par_own, Ev.par_no, Ev.par_drw, ins_tr, f_source, f_target]
      refine ⟨q8, ok_int _, ok_int _, ?_⟩
      rw [deq_int]
      by_cases sa : r.s = a
      · rw [decide_eq_true sa]
        simp only
        refine ⟨few, ?_⟩
        have so3 := so2.date ((hE r.s r.t).mpr ⟨r, hr, rfl, rfl⟩) (by rw [sa]; exact ka)
        have dn3 : ∀ r' ∈ L.take (i + 1), r'.s = a → setM m2 r.t v r'.t = some v := fun r' h' e' => by
          unfold setM
          split
          · rfl
          · rename_i ne
            rw [take_snoc er] at h'
            rcases List.mem_append.mp h' with h' | h'
            · exact dn r' h' e'
            · rw [List.mem_singleton.mp h'] at ne; exact (ne rfl).elim
        cases lm : lkD mt2 (.inl r.t) with
        | some z =>
          simp only [Option.isSome_some, Bool.not_true, if_true]
          have kt := mk2 r.t (by rw [lm]; rfl)
          refine hN2 _ ⟨_, mt2, setM m2 r.t v, wl2, _, rfl, rfl, hD2.put tU, so3, hK2, fun x hx => key_set.mpr (.inr (mk2 x hx)), fun x hx => key_set.mpr (.inr (wk2 x hx)), fun x hx => ?_, key_set.mpr (.inr ka), dn3, ms⟩
          have kx : (m2 x).isSome = true := (key_set.mp hx).elim (fun e => e ▸ kt) id
          rcases inv2 x kx with z | z | z
          · exact .inl z
          · exact .inr (.inl z.set)
          · exact .inr (.inr z)
        | none =>
          simp only [Option.isSome_none, Bool.not_false, if_true]
          obtain ⟨hK3, lK3⟩ := hK2.put (d := .bl true) tU lm
          have lk3 := hK3.len
          refine ⟨fewM, by rw [List.length_map]; exact small1000 (by omega), hN2 _ ⟨_, _, setM m2 r.t v, wl2 ++ [r.t], _, by rw [List.map_append]; rfl, rfl, hD2.put tU, so3, hK3, fun x hx => ?_, fun x hx => ?_, fun x hx => ?_, key_set.mpr (.inr ka), dn3, by rw [lK3, List.length_append, List.length_singleton]; omega⟩⟩
          · rw [lkD_puD] at hx
            by_cases z : r.t = x
            · exact key_set.mpr (.inl z.symm)
            · rw [if_neg (fun w => z (Sum.inl.inj w))] at hx
              exact key_set.mpr (.inr (mk2 x hx))
          · rcases List.mem_append.mp hx with hx | hx
            · exact key_set.mpr (.inr (wk2 x hx))
            · exact key_set.mpr (.inl (List.mem_singleton.mp hx))
          · rcases key_set.mp hx with z | z
            · exact .inl (List.mem_append_right _ (List.mem_singleton.mpr z))
            · rcases inv2 x z with z | z | z
              · exact .inl (List.mem_append_left _ z)
              · exact .inr (.inl z.set)
              · exact .inr (.inr z)
      · rw [decide_eq_false sa]
        simp only
        refine hN2 _ ⟨ps2, mt2, m2, wl2, _, rfl, rfl, hD2, so2, hK2, mk2, wk2, inv2, ka, fun r' h' e' => ?_, ms⟩
        rw [take_snoc er] at h'
        rcases List.mem_append.mp h' with h' | h'
        · exact dn r' h' e'
        · rw [List.mem_singleton.mp h'] at e'; exact (sa e').elim
    · rintro ρ ⟨ps2, mt2, m2, wl2, y8, rfl, q8, hD2, so2, hK2, mk2, wk2, inv2, ka, dn, ms⟩
      rw [List.length_map, List.take_length] at dn
      refine hN _ _ ?_ ⟨ps2, mt2, m2, wl2, _, _, rfl, ⟨rfl, q8⟩, hD2, so2, hK2, mk2, wk2, fun x hx => ?_, rfl, by omega⟩
      · omega
      · rcases inv2 x hx with z | z | z
        · exact .inl z
        · exact .inr z
        · right
          intro t ht
          obtain ⟨r, hr, h1, h2⟩ := (hE x t).mp ht
          rw [← h2]
          exact dn r hr (h1.trans z)
end
end Bm
set_option maxRecDepth 100000
set_option maxHeartbeats 4000000
/-! the transfers of a line -/
namespace Bm
open PySem L2 Dl
def endOf : List Ev → Nat → Int → Option Nat
  | [], _, _ => none
  | .fin m :: l, i, n => if m = n then some i else endOf l (i + 1) n
  | .beg _ _ _ _ :: l, i, n => endOf l (i + 1) n
  | .vis _ :: l, i, n => endOf l (i + 1) n
def recsG (full : List Ev) : List Ev → Nat → List Tr
  | [], _ => []
  | .beg n mv s t :: l, i => ⟨n, mv, s, t, i, endOf full 0 n⟩ :: recsG full l (i + 1)
  | .fin _ :: l, i => recsG full l (i + 1)
  | .vis _ :: l, i => recsG full l (i + 1)
def recs (l : List Ev) : List Tr := recsG l l 0
theorem recs_nums (full : List Ev) : ∀ (l : List Ev) (i : Nat), (recsG full l i).map (·.n) = begun l
  | [], _ => rfl
  | .beg n mv s t :: l, i => by
    show n :: (recsG full l (i + 1)).map (·.n) = n :: begun l
    rw [recs_nums full l (i + 1)]
  | .fin n :: l, i => recs_nums full l (i + 1)
  | .vis n :: l, i => recs_nums full l (i + 1)
theorem begun_nodup {l : List Ev} (g : Good l) : (begun l).Nodup := by
  induction g with
  | nil => exact .nil
  | @snoc l e g o ih =>
    rw [begun_snoc]
    cases e with
    | beg n mv s t => exact List.nodup_append.mpr ⟨ih, by simp [begun], fun a ha b hb z => o.1 (by simp [begun] at hb; rw [← hb, ← z]; exact ha)⟩
    | fin n => simpa [begun] using ih
    | vis n => simpa [begun] using ih
theorem recs_nodup {l : List Ev} (g : Good l) : ((recs l).map (·.n)).Nodup := by
  unfold recs
  rw [recs_nums]
  exact begun_nodup g
theorem mem_recs {full : List Ev} {r : Tr} : ∀ {l : List Ev} {i : Nat}, r ∈ recsG full l i ↔ ∃ k, l[k]? = some (.beg r.n r.mv r.s r.t) ∧ r.bg = i + k ∧ r.en = endOf full 0 r.n
  | [], i => by simp [recsG]
  | .beg n mv s t :: l, i => by
    show r ∈ (⟨n, mv, s, t, i, endOf full 0 n⟩ : Tr) :: recsG full l (i + 1) ↔ _
    rw [List.mem_cons, mem_recs (l := l) (i := i + 1)]
    constructor
    · rintro (rfl | ⟨k, h1, h2, h3⟩)
      · exact ⟨0, rfl, rfl, rfl⟩
      · exact ⟨k + 1, by simpa using h1, by omega, h3⟩
    · rintro ⟨k, h1, h2, h3⟩
      cases k with
      | zero =>
        left
        simp at h1
        obtain ⟨a, b, c, d⟩ := h1
        obtain ⟨rn, rmv, rs, rt, rbg, ren⟩ := r
        simp at a b c d h2 h3
        subst a b c d h2 h3
        rfl
      | succ k => exact .inr ⟨k, by simpa using h1, by omega, h3⟩
  | .fin n :: l, i => by
    show r ∈ recsG full l (i + 1) ↔ _
    rw [mem_recs (l := l) (i := i + 1)]
    constructor
    · rintro ⟨k, h1, h2, h3⟩
      exact ⟨k + 1, by simpa using h1, by omega, h3⟩
    · rintro ⟨k, h1, h2, h3⟩
      cases k with
      | zero => simp at h1
      | succ k => exact ⟨k, by simpa using h1, by omega, h3⟩
  | .vis n :: l, i => by
    show r ∈ recsG full l (i + 1) ↔ _
    rw [mem_recs (l := l) (i := i + 1)]
    constructor
    · rintro ⟨k, h1, h2, h3⟩
      exact ⟨k + 1, by simpa using h1, by omega, h3⟩
    · rintro ⟨k, h1, h2, h3⟩
      cases k with
      | zero => simp at h1
      | succ k => exact ⟨k, by simpa using h1, by omega, h3⟩
theorem endOf_ge {n : Int} : ∀ {l : List Ev} {i e : Nat}, endOf l i n = some e → i ≤ e
  | [], _, _, h => by cases h
  | .fin m :: l, i, e, h => by
    change (if m = n then some i else endOf l (i + 1) n) = some e at h
    by_cases z : m = n
    · rw [if_pos z] at h; cases h; exact Nat.le_refl _
    · rw [if_neg z] at h; have := endOf_ge h; omega
  | .beg _ _ _ _ :: l, i, e, h => by have := endOf_ge (l := l) (i := i + 1) h; omega
  | .vis _ :: l, i, e, h => by have := endOf_ge (l := l) (i := i + 1) h; omega
theorem ended_take {n : Int} : ∀ {l : List Ev} {i k : Nat}, n ∈ ended (l.take k) ↔ ∃ e, endOf l i n = some e ∧ e < i + k
  | [], i, k => by simp [ended, endOf]
  | a :: l, i, 0 => by
    rw [List.take_zero]
    constructor
    · intro h; cases h
    · rintro ⟨e, h1, h2⟩
      have := endOf_ge h1
      omega
  | .fin m :: l, i, k + 1 => by
    rw [List.take_succ_cons]
    show n ∈ m :: ended (l.take k) ↔ ∃ e, (if m = n then some i else endOf l (i + 1) n) = some e ∧ e < i + (k + 1)
    rw [List.mem_cons, ended_take (l := l) (i := i + 1) (k := k)]
    by_cases z : m = n
    · rw [if_pos z]
      exact ⟨fun _ => ⟨i, rfl, by omega⟩, fun _ => .inl z.symm⟩
    · rw [if_neg z]
      constructor
      · rintro (h | ⟨e, h1, h2⟩)
        · exact (z h.symm).elim
        · exact ⟨e, h1, by omega⟩
      · rintro ⟨e, h1, h2⟩
        exact .inr ⟨e, h1, by omega⟩
  | .beg m mv s t :: l, i, k + 1 => by
    rw [List.take_succ_cons]
    show n ∈ ended (l.take k) ↔ ∃ e, endOf l (i + 1) n = some e ∧ e < i + (k + 1)
    rw [ended_take (l := l) (i := i + 1) (k := k), show i + 1 + k = i + (k + 1) by omega]
  | .vis m :: l, i, k + 1 => by
    rw [List.take_succ_cons]
    show n ∈ ended (l.take k) ↔ ∃ e, endOf l (i + 1) n = some e ∧ e < i + (k + 1)
    rw [ended_take (l := l) (i := i + 1) (k := k), show i + 1 + k = i + (k + 1) by omega]
theorem mem_edges {l : List Ev} {s t : Int} : (s, t) ∈ edges l ↔ ∃ n mv, Ev.beg n mv s t ∈ l ∧ n ∉ ended l := by
  unfold edges runL
  constructor
  · intro h
    obtain ⟨x, hx, e⟩ := List.mem_map.mp h
    cases e
    obtain ⟨z, hz, ez⟩ := List.mem_filterMap.mp hx
    cases z with
    | beg n mv s t =>
      by_cases w : n ∈ ended l
      · simp [w] at ez
      · simp [w] at ez
        subst ez
        exact ⟨n, mv, hz, w⟩
    | _ => cases ez
  · rintro ⟨n, mv, h1, h2⟩
    exact List.mem_map.mpr ⟨(n, s, t), List.mem_filterMap.mpr ⟨_, h1, by simp [h2]⟩, rfl⟩
theorem edges_recs {l : List Ev} {k : Nat} {s t : Int} : (s, t) ∈ edgR (recs l) (k : Int) ↔ (s, t) ∈ edges (l.take k) := by
  rw [mem_edges]
  unfold edgR recs
  constructor
  · intro h
    obtain ⟨r, hr, e⟩ := List.mem_map.mp h
    cases e
    obtain ⟨h1, h2⟩ := List.mem_filter.mp hr
    obtain ⟨i, h3, h4, h5⟩ := mem_recs.mp h1
    unfold und at h2
    rw [Bool.and_eq_true, decide_eq_true_eq] at h2
    have ik : i < k := by omega
    refine ⟨r.n, r.mv, List.mem_of_getElem? (i := i) (by rw [List.getElem?_take, if_pos ik]; exact h3), fun z => ?_⟩
    obtain ⟨e, e1, e2⟩ := (ended_take (i := 0)).mp z
    rw [h5, e1] at h2
    have := h2.2
    simp only [decide_eq_true_eq] at this
    omega
  · rintro ⟨n, mv, h1, h2⟩
    obtain ⟨i, hi⟩ := List.getElem?_of_mem h1
    have ik : i < k := by
      have := (List.getElem?_eq_some_iff.mp hi).1
      rw [List.length_take] at this
      omega
    rw [List.getElem?_take, if_pos ik] at hi
    refine List.mem_map.mpr ⟨⟨n, mv, s, t, i, endOf l 0 n⟩, List.mem_filter.mpr ⟨mem_recs.mpr ⟨i, hi, by simp, rfl⟩, ?_⟩, rfl⟩
    unfold und
    rw [Bool.and_eq_true, decide_eq_true_eq]
    refine ⟨by show (i : Int) < k; omega, ?_⟩
    show (match endOf l 0 n with | none => true | some e => decide ((k : Int) ≤ (e : Int))) = true
    cases en : endOf l 0 n with
    | none => rfl
    | some e =>
      simp only [decide_eq_true_eq]
      refine Classical.byContradiction fun z => h2 ((ended_take (i := 0)).mpr ⟨e, en, by omega⟩)
theorem led_congr {E E' : Eds} {m : Mp} {v : Int} (h : ∀ s t, (s, t) ∈ E ↔ (s, t) ∈ E') : led m E v = led m E' v := by
  have one : ∀ {E E' : Eds}, (∀ s t, (s, t) ∈ E → (s, t) ∈ E') → ∀ x, Rch E m x → Rch E' m x := by
    intro E E' h x r
    induction r with
    | start e k => exact .start (h _ _ e) k
    | step e _ ih => exact .step (h _ _ e) ih
  funext x
  unfold led
  have : Rch E m x ↔ Rch E' m x := ⟨one (fun s t => (h s t).mp) x, one (fun s t => (h s t).mpr) x⟩
  by_cases r : Rch E m x
  · rw [if_pos r, if_pos (this.mp r)]
  · rw [if_neg r, if_neg (fun z => r (this.mpr z))]
theorem begOf_at {x : Int} {k : Nat} {mv : Bool} {s t : Int} : ∀ {l : List Ev} {i : Nat}, begOf l i x = some (k, mv, s, t) → i ≤ k ∧ l[k - i]? = some (.beg x mv s t)
  | [], _, h => by cases h
  | .beg n mv' s' t' :: l, i, h => by
    change (if n = x then some (i, mv', s', t') else begOf l (i + 1) x) = _ at h
    by_cases z : n = x
    · rw [if_pos z] at h
      cases h
      rw [Nat.sub_self, z]
      exact ⟨Nat.le_refl _, rfl⟩
    · rw [if_neg z] at h
      obtain ⟨h1, h2⟩ := begOf_at h
      refine ⟨by omega, ?_⟩
      rw [show k - i = (k - (i + 1)) + 1 by omega]
      exact h2
  | .fin n :: l, i, h => by
    obtain ⟨h1, h2⟩ := begOf_at (l := l) (i := i + 1) h
    refine ⟨by omega, ?_⟩
    rw [show k - i = (k - (i + 1)) + 1 by omega]
    exact h2
  | .vis n :: l, i, h => by
    obtain ⟨h1, h2⟩ := begOf_at (l := l) (i := i + 1) h
    refine ⟨by omega, ?_⟩
    rw [show k - i = (k - (i + 1)) + 1 by omega]
    exact h2
/-- the transfer that an end tells of -/
theorem rec_of {l : List Ev} {j : Nat} {n : Int} {k : Nat} {mv : Bool} {s t : Int} (h : begOf (l.take j) 0 n = some (k, mv, s, t)) : (⟨n, mv, s, t, k, endOf l 0 n⟩ : Tr) ∈ recs l := by
  obtain ⟨_, h2⟩ := begOf_at h
  rw [Nat.sub_zero, List.getElem?_take] at h2
  split at h2
  · exact mem_recs.mpr ⟨k, h2, by simp, rfl⟩
  · cases h2
theorem recs_U {U : List Int} {l : List Ev} (sm : ∀ e ∈ l, smEv U e) : ∀ r ∈ recs l, r.s ∈ U ∧ r.t ∈ U := fun r hr => by
  obtain ⟨k, h1, _⟩ := mem_recs.mp hr
  exact (sm _ (List.mem_of_getElem? h1)).2
theorem recs_len (l : List Ev) : (recs l).length ≤ l.length := by
  have : ∀ (l : List Ev) (i : Nat) (full : List Ev), (recsG full l i).length ≤ l.length := by
    intro l
    induction l with
    | nil => intro i f; exact Nat.le_refl _
    | cons e l ih =>
      intro i f
      have := ih (i + 1) f
      cases e with
      | beg n mv s t => show (recsG f l (i + 1)).length + 1 ≤ l.length + 1; omega
      | fin n => show (recsG f l (i + 1)).length ≤ l.length + 1; omega
      | vis n => show (recsG f l (i + 1)).length ≤ l.length + 1; omega
  exact this l 0 l
end Bm
set_option maxRecDepth 100000
set_option maxHeartbeats 4000000
/-! dirty -/
namespace Bm
open PySem PySem.Spec L2 L3 LamX Dl PyProof.Rows
section
variable {P : Program} {w : World} {K : PySem.W.Frag} {mg : Str → Option Value} {base : Heap}
def evsOf (d : D) (l : List Ev) : Prop := d = .lst (l.map Ev.d) ∨ d = .tup (l.map Ev.d)
def t_transfers (C : Addr) : TF := fun args er q => ∃ (d1 d2 : D) (o : List Int) (l : List Ev), args = [.imm d1, .imm d2] ∧ intsOf d1 o ∧ o.Nodup ∧ o.length ≤ 1000 ∧ evsOf d2 l ∧ Good l ∧ l.length ≤ 100 ∧ ∀ ρ', q (.imm (.dct (trsD C (recs l)))) ρ'
theorem len_transfers (C : Addr) : ∀ as er q, t_transfers C as er q → as.length = 2 := fun as er q h => by
  obtain ⟨_, _, _, _, rfl, _⟩ := h
  rfl
def t_dirty : TF := fun args er q => ∃ (d1 d2 : D) (o U : List Int) (l : List Ev), args = [.imm d1, .imm d2] ∧ intsOf d1 o ∧ evsOf d2 l ∧ o.Nodup ∧ Good l ∧ (∀ e ∈ l, smEv U e) ∧ (∀ x ∈ o, x ∈ U) ∧ U.length ≤ 100 ∧ l.length ≤ 100 ∧ o.length ≤ 100 ∧
  ∀ ρ', q (.imm (.lst ((outL U (dts (m0 o) l l.length)).map D.int))) ρ'
theorem len_dirty : ∀ as er q, t_dirty as er q → as.length = 2 := fun as er q h => by
  obtain ⟨_, _, _, _, _, rfl, _⟩ := h
  rfl
theorem dq_ev : deq (.str (Str.ofString "end")) (.str (Str.ofString "visit")) = false := by rw [deq_str]; decide +kernel
theorem dq_bv : deq (.str (Str.ofString "begin")) (.str (Str.ofString "visit")) = false := by rw [deq_str]; decide +kernel
theorem dq_be : deq (.str (Str.ofString "begin")) (.str (Str.ofString "end")) = false := by rw [deq_str]; decide +kernel
theorem dq_vv : deq (.str (Str.ofString "visit")) (.str (Str.ofString "visit")) = true := by rw [deq_str]; decide +kernel
theorem sc_dirty : FnScope ["first", "events", "transfers", "dates", "area", "at", "event", "one"] ["first", "events"] (defScope s_dirty) := ⟨rfl, rfl, rfl, by decide +kernel, rfl, by decide +kernel, by decide +kernel⟩
theorem ok_dirty {f C : Addr} {tN : Tok} {fd : FuncData} (F : Fun K "dirty" "dirty" s_dirty f fd) (T : T0 mg) (TT : TrT K C) (KN : mg "NEVER" = some (.int (-1) tN)) (HT : HasD P w K mg base CX0 5 "transfers_of" ["first", "events"] 2 (t_transfers C)) (HS : HasD P w K mg base CX0 3 "spread" ["dates", "transfers", "many"] 3 (t_spread C)) :
    FnG P w K mg base CX0 6 f fd ["first", "events"] (spD K 2 t_dirty) := by
  refine fun_d F sc_dirty (fun cdv A outer s H E gd hr => ⟨_, have hu := hu_of hr; (dss_cons (ds_set (i := 2) sc_dirty.nd rfl (Or.inl rfl) (de_callH [false, false] HT gd hr (by decide) (by rfl) pass0 (da_cons (dv 0) (da_cons (dv 1) da_nil))))
      (dss_cons (ds_setDc (own := [("area", 4)]) (i := 3) true rfl sc_dirty.nd rfl rfl (sw_dc rfl rfl rfl (by decide +kernel)) (di_g (di_seq (K := K) (dv 0))) (blkOk_by (own := [("area", 4)]) (N := ["first", "events", "transfers", "dates", "area", "at", "event", "one"]) (sc := defScope s_dirty) (by decide +kernel)) (fun _ _ _ _ _ => (dg_name (i := 4) sc_dirty.nd rfl (Or.inl rfl))) (fun _ _ _ _ _ => dts_nil) (fun _ _ _ _ _ => (dv 4)) (fun _ _ _ _ _ => (de_globI (by rfl) KN)))
      (dss_cons (ds_for PassesOwn.never rfl (di_enum (K := K) (by rfl) T.enumerate_ (dv 1)) (dg_un (K := K) (by rfl) (dgs_name (i := 5) sc_dirty.nd rfl (Or.inl rfl) (dgs_name (i := 6) sc_dirty.nd rfl (Or.inl rfl) dgs_nil)) (dgsName_len (dgsName_len dgNil_len)))
        (dss_cons (ds_if (dt_cmp (od_eq (K := K) hr) (de_sub (K := K) hu (dv 6) de_int (fun _ _ => rfl)) de_str (nomark _))
            (dss_one (ds_expr (de_pop2 (pv 3) (de_sub (K := K) hu (dv 6) de_int (fun _ _ => rfl)) de_non ⟨by rfl, by rfl, by rfl, by rfl⟩)))
            (dss_one (ds_if (dt_cmp (od_eq (K := K) hr) (de_sub (K := K) hu (dv 6) de_int (fun _ _ => rfl)) de_str (nomark _))
                (dss_cons (ds_set (i := 7) sc_dirty.nd rfl (Or.inl rfl) (de_sub (K := K) hu (dv 2) (de_sub (K := K) hu (dv 6) de_int (fun _ _ => rfl)) (fun _ _ => rfl)))
                  (dss_one (ds_if (dt_w (dw_and (dt_cmp (od_eq (K := K) hr) (de_fld TT.cl TT.n1 (dv 7) (by rfl)) de_str (nomark _)) (dw_and1 (dt_cmp od_le (de_get2 hu (dv 3) (de_fld TT.cl TT.n2 (dv 7) (by rfl)) (de_globI (by rfl) KN) ⟨by rfl, by rfl, by rfl, by rfl⟩) (de_fld TT.cl TT.n4 (dv 7) (by rfl)) (nomark _)))))
                    (dss_one (ds_expr (de_pop2 (pv 3) (de_fld TT.cl TT.n2 (dv 7) (by rfl)) de_non ⟨by rfl, by rfl, by rfl, by rfl⟩)))
                    dss_nil)))
                dss_nil)))
          (dss_one (ds_expr (de_callH [true, false, false] HS gd hr (by decide) (by rfl) pass0 (da_cons (dv 3) (da_cons (dv 2) (da_cons (de_bin (od_add (K := K)) (dv 5) de_int) da_nil))))))))
      (dss_one (ds_ret (de_callBO false (co_sorted (K := K) rfl) (by rfl) T.sorted_ (by decide +kernel) (da_cons (dv 3) da_nil)))))))⟩) fun args er q hl h => ?_

  obtain ⟨d1, d2, o, U, l, rfl, hd1, hd2, ndo, g, sm, oU, u100, l100, o100, k⟩ := h
  simp only [dBody, dSeq, dNext, dBreak, dCont, dDrop, dRet, dRetN, dIfS, dAsg, dgName, dgNil, dgsName, dgsPut, dgUn, dPar, dPar3, dVar, dC, dTake, dFrz, mkS, dBin, dBinO, dTest, dTru, dUn, dIsN, isNonB, dAnd, dOr, dNot, dAndV, dOrV, dNotV, asB, dIf, cnd, dNil, dCons, dTup, dLst, dNewD, dSub, dSl, dSlO, dNoPart, dPart, dIsi, dCallB, dCallO, wds, sds, wd, sd, rsv, Sl.dat, stv, notPar, Sl.with_, dCall, dCallK, argC, arC, useS, kindsB, Ar.sl, cond, ownL, ownD, upS, dLM, dLM0, isOwnL, isOwnD, dPop1, dPop2, dGet1, dGet2, isDct, dDput, dLput, dLput.known, dFld, dMth, dMth0, tyOk, dChain, dAugI, List.map_cons, List.map_nil, List.cons_append, List.nil_append, List.append_nil, List.length_cons, List.length_nil, List.replicate, List.getElem?_cons_zero, List.getElem?_cons_succ, List.getElem?_nil, List.set_cons_zero, List.set_cons_succ, Option.getD_some, Option.getD_none, Nat.reduceAdd, Nat.reduceSub, dNever, dYes, Nat.zero_le, dLc, dG, dSeqI, dOwnI, dLcD, dctS, dDc, dDcD, dFor, dForD, dRng1, dRng2, dEnum, noPar, wipeD, eqW, neW, D.key, itemsOf, keysOf, valsOf, gdT, isTy, tyD, notIns, List.any_cons, List.any_nil, Bool.or_false, Bool.or_true, Bool.true_or, Bool.false_or, Bool.not_true, Bool.not_false, String.reduceBEq, beq_self_eq_true, true_and, and_true, selN, sel, List.filterMap_cons, List.filterMap_nil, backR, back1, cleanR, clean1, clnR, List.tail_cons, List.head?_cons, List.not_mem_nil, false_implies, implies_true, List.nodup_nil, List.nodup_cons, not_false_eq_true, Ev.len_lst, Ev.len_tup, Ev.len_dct, Ev.len_set, Ev.len_str, Ev.add_int, Ev.add_str, Ev.add_tup, Ev.add_lst, Ev.mul_int, Ev.mul_lst, Ev.sub_lst, Ev.sub_tup, Ev.sub_str, Ev.sub_dctI, Ev.sub_dctS, Ev.cut_lst, Ev.cut_tup, Ev.cutL_lst, Ev.in_lst, Ev.in_tup, Ev.in_dctI, Ev.in_dctS, Ev.wI0_int, Ev.wII_int, Ev.neg_int, Ev.index_lst, Ev.set_lst, Ev.set_tup, Ev.all_lst, Ev.any_lst, Ev.list_lst, Ev.list_tup, Ev.list_dct, Ev.repr_one, Ev.dict_lst, Ev.tup_lst, Ev.tup_tup, Ev.append_one, Ev.pop_none, Ev.popAt_one, Ev.clear_none, Ev.extend_one, Ev.remove_one, Ev.seq_lst, Ev.seq_tup, Ev.enum_lst, Ev.enum_tup, Ev.int1_int, Ev.int2_int, Ev.int_int, Ev.max_int, Ev.min_int, Ev.opt_some, Ev.tru_lst, Ev.tru_tup, Ev.tru_int, Ev.par_imm, Ev.par_own, Ev.par_no, Ev.par_drw]
  refine ⟨d1, d2, o, l, rfl, hd1, ndo, by omega, hd2, g, l100, fun ρ' => ?_⟩
  have sq : ∀ q, seqD d1 q = q (o.map D.int) := fun q => by rcases hd1 with rfl | rfl <;> rfl
  have en : ∀ q, enumW d2 q = q (enumD (l.map Ev.d)) := fun q => by rcases hd2 with rfl | rfl <;> rfl
  clear hd1 hd2
  simp only [dBody, dSeq, dNext, dBreak, dCont, dDrop, dRet, dRetN, dIfS, dAsg, dgName, dgNil, dgsName, dgsPut, dgUn, dPar, dPar3, dVar, dC, dTake, dFrz, mkS, dBin, dBinO, dTest, dTru, dUn, dIsN, isNonB, dAnd, dOr, dNot, dAndV, dOrV, dNotV, asB, dIf, cnd, dNil, dCons, dTup, dLst, dNewD, dSub, dSl, dSlO, dNoPart, dPart, dIsi, dCallB, dCallO, wds, sds, wd, sd, rsv, Sl.dat, stv, notPar, Sl.with_, dCall, dCallK, argC, arC, useS, kindsB, Ar.sl, cond, ownL, ownD, upS, dLM, dLM0, isOwnL, isOwnD, dPop1, dPop2, dGet1, dGet2, isDct, dDput, dLput, dLput.known, dFld, dMth, dMth0, tyOk, dChain, dAugI, List.map_cons, List.map_nil, List.cons_append, List.nil_append, List.append_nil, List.length_cons, List.length_nil, List.replicate, List.getElem?_cons_zero, List.getElem?_cons_succ, List.getElem?_nil, List.set_cons_zero, List.set_cons_succ, Option.getD_some, Option.getD_none, Nat.reduceAdd, Nat.reduceSub, dNever, dYes, Nat.zero_le, dLc, dG, dSeqI, dOwnI, dLcD, dctS, dDc, dDcD, dFor, dForD, dRng1, dRng2, dEnum, noPar, wipeD, eqW, neW, D.key, itemsOf, keysOf, valsOf, gdT, isTy, tyD, notIns, List.any_cons, List.any_nil, Bool.or_false, Bool.or_true, Bool.true_or, Bool.false_or, Bool.not_true, Bool.not_false, String.reduceBEq, beq_self_eq_true, true_and, and_true, selN, sel, List.filterMap_cons, List.filterMap_nil, backR, back1, cleanR, clean1, clnR, List.tail_cons, List.head?_cons, List.not_mem_nil, false_implies, implies_true, List.nodup_nil, List.nodup_cons, not_false_eq_true, Ev.len_lst, Ev.len_tup, Ev.len_dct, Ev.len_set, Ev.len_str, Ev.add_int, Ev.add_str, Ev.add_tup, Ev.add_lst, Ev.mul_int, Ev.mul_lst, Ev.sub_lst, Ev.sub_tup, Ev.sub_str, Ev.sub_dctI, Ev.sub_dctS, Ev.cut_lst, Ev.cut_tup, Ev.cutL_lst, Ev.in_lst, Ev.in_tup, Ev.in_dctI, Ev.in_dctS, Ev.wI0_int, Ev.wII_int, Ev.neg_int, Ev.index_lst, Ev.set_lst, Ev.set_tup, Ev.all_lst, Ev.any_lst, Ev.list_lst, Ev.list_tup, Ev.list_dct, Ev.repr_one, Ev.dict_lst, Ev.tup_lst, Ev.tup_tup, Ev.append_one, Ev.pop_none, Ev.popAt_one, Ev.clear_none, Ev.extend_one, Ev.remove_one, Ev.seq_lst, Ev.seq_tup, Ev.enum_lst, Ev.enum_tup, Ev.int1_int, Ev.int2_int, Ev.int_int, Ev.max_int, Ev.min_int, Ev.opt_some, Ev.tru_lst, Ev.tru_tup, Ev.tru_int, Ev.par_imm, Ev.par_own, Ev.par_no, Ev.par_drw, sq, en]
  have fin_ := fun (q : List (Key × D) → Rho → Prop) => dc_map (q := q) (items := o.map D.int) (ρ := [.imm d1, .imm d2, .imm (.dct (trsD C (recs l))), .no, .no, .no, .no, .no]) (gd := gdT) (g := dgName 4) (tk := dVar 4) (tv := dC (.int (-1))) (vs := [4]) (er := er) (fun d => match d with | .int i => .inl i | _ => .inl 0) (fun _ => .int (-1)) rfl (by rw [List.length_map]; exact sizeLine_big (by omega)) True.intro (fun d acc N hd ha hN => by
    obtain ⟨i, _, rfl⟩ := List.mem_map.mp hd
    simp only [dBody, dSeq, dNext, dBreak, dCont, dDrop, dRet, dRetN, dIfS, dAsg, dgName, dgNil, dgsName, dgsPut, dgUn, dPar, dPar3, dVar, dC, dTake, dFrz, mkS, dBin, dBinO, dTest, dTru, dUn, dIsN, isNonB, dAnd, dOr, dNot, dAndV, dOrV, dNotV, asB, dIf, cnd, dNil, dCons, dTup, dLst, dNewD, dSub, dSl, dSlO, dNoPart, dPart, dIsi, dCallB, dCallO, wds, sds, wd, sd, rsv, Sl.dat, stv, notPar, Sl.with_, dCall, dCallK, argC, arC, useS, kindsB, Ar.sl, cond, ownL, ownD, upS, dLM, dLM0, isOwnL, isOwnD, dPop1, dPop2, dGet1, dGet2, isDct, dDput, dLput, dLput.known, dFld, dMth, dMth0, tyOk, dChain, dAugI, List.map_cons, List.map_nil, List.cons_append, List.nil_append, List.append_nil, List.length_cons, List.length_nil, List.replicate, List.getElem?_cons_zero, List.getElem?_cons_succ, List.getElem?_nil, List.set_cons_zero, List.set_cons_succ, Option.getD_some, Option.getD_none, Nat.reduceAdd, Nat.reduceSub, dNever, dYes, Nat.zero_le, dLc, dG, dSeqI, dOwnI, dLcD, dctS, dDc, dDcD, dFor, dForD, dRng1, dRng2, dEnum, noPar, wipeD, eqW, neW, D.key, itemsOf, keysOf, valsOf, gdT, isTy, tyD, notIns, List.any_cons, List.any_nil, Bool.or_false, Bool.or_true, Bool.true_or, Bool.false_or, Bool.not_true, Bool.not_false, String.reduceBEq, beq_self_eq_true, true_and, and_true, selN, sel, List.filterMap_cons, List.filterMap_nil, backR, back1, cleanR, clean1, clnR, List.tail_cons, List.head?_cons, List.not_mem_nil, false_implies, implies_true, List.nodup_nil, List.nodup_cons, not_false_eq_true, Ev.len_lst, Ev.len_tup, Ev.len_dct, Ev.len_set, Ev.len_str, Ev.add_int, Ev.add_str, Ev.add_tup, Ev.add_lst, Ev.mul_int, Ev.mul_lst, Ev.sub_lst, Ev.sub_tup, Ev.sub_str, Ev.sub_dctI, Ev.sub_dctS, Ev.cut_lst, Ev.cut_tup, Ev.cutL_lst, Ev.in_lst, Ev.in_tup, Ev.in_dctI, Ev.in_dctS, Ev.wI0_int, Ev.wII_int, Ev.neg_int, Ev.index_lst, Ev.set_lst, Ev.set_tup, Ev.all_lst, Ev.any_lst, Ev.list_lst, Ev.list_tup, Ev.list_dct, Ev.repr_one, Ev.dict_lst, Ev.tup_lst, Ev.tup_tup, Ev.append_one, Ev.pop_none, Ev.popAt_one, Ev.clear_none, Ev.extend_one, Ev.remove_one, Ev.seq_lst, Ev.seq_tup, Ev.enum_lst, Ev.enum_tup, Ev.int1_int, Ev.int2_int, Ev.int_int, Ev.max_int, Ev.min_int, Ev.opt_some, Ev.tru_lst, Ev.tru_tup, Ev.tru_int, Ev.par_imm, Ev.par_own, Ev.par_no, Ev.par_drw]
    exact ⟨ha, hN⟩)
  refine fin_ _ ?_
  clear fin_
  simp only [dBody, dSeq, dNext, dBreak, dCont, dDrop, dRet, dRetN, dIfS, dAsg, dgName, dgNil, dgsName, dgsPut, dgUn, dPar, dPar3, dVar, dC, dTake, dFrz, mkS, dBin, dBinO, dTest, dTru, dUn, dIsN, isNonB, dAnd, dOr, dNot, dAndV, dOrV, dNotV, asB, dIf, cnd, dNil, dCons, dTup, dLst, dNewD, dSub, dSl, dSlO, dNoPart, dPart, dIsi, dCallB, dCallO, wds, sds, wd, sd, rsv, Sl.dat, stv, notPar, Sl.with_, dCall, dCallK, argC, arC, useS, kindsB, Ar.sl, cond, ownL, ownD, upS, dLM, dLM0, isOwnL, isOwnD, dPop1, dPop2, dGet1, dGet2, isDct, dDput, dLput, dLput.known, dFld, dMth, dMth0, tyOk, dChain, dAugI, List.map_cons, List.map_nil, List.cons_append, List.nil_append, List.append_nil, List.length_cons, List.length_nil, List.replicate, List.getElem?_cons_zero, List.getElem?_cons_succ, List.getElem?_nil, List.set_cons_zero, List.set_cons_succ, Option.getD_some, Option.getD_none, Nat.reduceAdd, Nat.reduceSub, dNever, dYes, Nat.zero_le, dLc, dG, dSeqI, dOwnI, dLcD, dctS, dDc, dDcD, dFor, dForD, dRng1, dRng2, dEnum, noPar, wipeD, eqW, neW, D.key, itemsOf, keysOf, valsOf, gdT, isTy, tyD, notIns, List.any_cons, List.any_nil, Bool.or_false, Bool.or_true, Bool.true_or, Bool.false_or, Bool.not_true, Bool.not_false, String.reduceBEq, beq_self_eq_true, true_and, and_true, selN, sel, List.filterMap_cons, List.filterMap_nil, backR, back1, cleanR, clean1, clnR, List.tail_cons, List.head?_cons, List.not_mem_nil, false_implies, implies_true, List.nodup_nil, List.nodup_cons, not_false_eq_true, Ev.len_lst, Ev.len_tup, Ev.len_dct, Ev.len_set, Ev.len_str, Ev.add_int, Ev.add_str, Ev.add_tup, Ev.add_lst, Ev.mul_int, Ev.mul_lst, Ev.sub_lst, Ev.sub_tup, Ev.sub_str, Ev.sub_dctI, Ev.sub_dctS, Ev.cut_lst, Ev.cut_tup, Ev.cutL_lst, Ev.in_lst, Ev.in_tup, Ev.in_dctI, Ev.in_dctS, Ev.wI0_int, Ev.wII_int, Ev.neg_int, Ev.index_lst, Ev.set_lst, Ev.set_tup, Ev.all_lst, Ev.any_lst, Ev.list_lst, Ev.list_tup, Ev.list_dct, Ev.repr_one, Ev.dict_lst, Ev.tup_lst, Ev.tup_tup, Ev.append_one, Ev.pop_none, Ev.popAt_one, Ev.clear_none, Ev.extend_one, Ev.remove_one, Ev.seq_lst, Ev.seq_tup, Ev.enum_lst, Ev.enum_tup, Ev.int1_int, Ev.int2_int, Ev.int_int, Ev.max_int, Ev.min_int, Ev.opt_some, Ev.tru_lst, Ev.tru_tup, Ev.tru_int, Ev.par_imm, Ev.par_own, Ev.par_no, Ev.par_drw, en]
  have hD0 := isD_mrg (U := U) (v := -1) .nil oU
  have em : (fun x => if x ∈ o then some (-1 : Int) else (fun _ : Int => (none : Option Int)) x) = m0 o := rfl
  rw [em] at hD0
  have eo : (o.map D.int).map (fun d => ((match d with | .int i => Sum.inl i | _ => Sum.inl 0 : Key), D.int (-1))) = o.map fun x => ((.inl x : Key), D.int (-1)) := by rw [List.map_map]; rfl
  rw [eo]
  refine for_ind (fun j ρ => ∃ (ps : List (Key × D)) (x5 x6 x7 : Sl), ρ = [.imm d1, .imm d2, .imm (.dct (trsD C (recs l))), .own (.dct ps), .no, x5, x6, x7] ∧ (x5.isPar = false ∧ x6.isPar = false ∧ x7.isPar = false) ∧ IsD U ps (dts (m0 o) l j)) ⟨_, _, _, _, rfl, ⟨rfl, rfl, rfl⟩, hD0⟩ ?_ ?_
  · rintro j d ρ N ed ⟨ps, x5, x6, x7, rfl, ⟨p5, p6, p7⟩, hD⟩ hN
    obtain ⟨d', ed', rfl⟩ := enumD_at ed
    rw [List.getElem?_map] at ed'
    obtain ⟨e, ee, rfl⟩ := Option.map_eq_some_iff.mp ed'
    have oke := good_at g ee
    have rl := recs_len l
    have step : dts (m0 o) l (j + 1) = led (pre (dts (m0 o) l j) (l.take j) e) (edgR (recs l) ((j : Int) + 1)) ((j : Int) + 1) := by
      show (match l[j]? with | some e => led (pre (dts (m0 o) l j) (l.take j) e) (edges (l.take (j + 1))) ((j + 1 : Nat) : Int) | none => dts (m0 o) l j) = _
      rw [ee]
      exact led_congr fun s t => (edges_recs (k := j + 1)).symm
    have go : ∀ (ps1 : List (Key × D)) (m1 : Mp) (kont : Sl → Rho → Prop), IsD U ps1 m1 → m1 = pre (dts (m0 o) l j) (l.take j) e → (∀ ps' ρ', IsD U ps' (dts (m0 o) l (j + 1)) → ρ'.head? = some (.par (.dct ps')) → kont (.imm .non) ρ') → t_spread C [.par (.dct ps1), .imm (.dct (trsD C (recs l))), .imm (.int ((j : Int) + 1))] (fun y => er y) kont := by
      intro ps1 m1 kont h1 h2 h3
      refine ⟨ps1, recs l, (j : Int) + 1, U, m1, rfl, h1, recs_nodup g, by omega, fun r hr => (recs_U sm r hr).2, u100, fun ps' ρ' hD' hh => h3 ps' ρ' ?_ hh⟩
      rw [step, ← h2]
      exact hD'
    simp only [dBody, dSeq, dNext, dBreak, dCont, dDrop, dRet, dRetN, dIfS, dAsg, dgName, dgNil, dgsName, dgsPut, dgUn, dPar, dPar3, dVar, dC, dTake, dFrz, mkS, dBin, dBinO, dTest, dTru, dUn, dIsN, isNonB, dAnd, dOr, dNot, dAndV, dOrV, dNotV, asB, dIf, cnd, dNil, dCons, dTup, dLst, dNewD, dSub, dSl, dSlO, dNoPart, dPart, dIsi, dCallB, dCallO, wds, sds, wd, sd, rsv, Sl.dat, stv, notPar, Sl.with_, dCall, dCallK, argC, arC, useS, kindsB, Ar.sl, cond, ownL, ownD, upS, dLM, dLM0, isOwnL, isOwnD, dPop1, dPop2, dGet1, dGet2, isDct, dDput, dLput, dLput.known, dFld, dMth, dMth0, tyOk, dChain, dAugI, List.map_cons, List.map_nil, List.cons_append, List.nil_append, List.append_nil, List.length_cons, List.length_nil, List.replicate, List.getElem?_cons_zero, List.getElem?_cons_succ, List.getElem?_nil, List.set_cons_zero, List.set_cons_succ, Option.getD_some, Option.getD_none, Nat.reduceAdd, Nat.reduceSub, dNever, dYes, Nat.zero_le, dLc, dG, dSeqI, dOwnI, dLcD, dctS, dDc, dDcD, dFor, dForD, dRng1, dRng2, dEnum, noPar, wipeD, eqW, neW, D.key, itemsOf, keysOf, valsOf, gdT, isTy, tyD, notIns, List.any_cons, List.any_nil, Bool.or_false, Bool.or_true, Bool.true_or, Bool.false_or, Bool.not_true, Bool.not_false, String.reduceBEq, beq_self_eq_true, true_and, and_true, selN, sel, List.filterMap_cons, List.filterMap_nil, backR, back1, cleanR, clean1, clnR, List.tail_cons, List.head?_cons, List.not_mem_nil, false_implies, implies_true, List.nodup_nil, List.nodup_cons, not_false_eq_true, Ev.len_lst, Ev.len_tup, Ev.len_dct, Ev.len_set, Ev.len_str, Ev.add_int, Ev.add_str, Ev.add_tup, Ev.add_lst, Ev.mul_int, Ev.mul_lst, Ev.sub_lst, Ev.sub_tup, Ev.sub_str, Ev.sub_dctI, Ev.sub_dctS, Ev.cut_lst, Ev.cut_tup, Ev.cutL_lst, Ev.in_lst, Ev.in_tup, Ev.in_dctI, Ev.in_dctS, Ev.wI0_int, Ev.wII_int, Ev.neg_int, Ev.index_lst, Ev.set_lst, Ev.set_tup, Ev.all_lst, Ev.any_lst, Ev.list_lst, Ev.list_tup, Ev.list_dct, Ev.repr_one, Ev.dict_lst, Ev.tup_lst, Ev.tup_tup, Ev.append_one, Ev.pop_none, Ev.popAt_one, Ev.clear_none, Ev.extend_one, Ev.remove_one, Ev.seq_lst, Ev.seq_tup, Ev.enum_lst, Ev.enum_tup, Ev.int1_int, Ev.int2_int, Ev.int_int, Ev.max_int, Ev.min_int, Ev.opt_some, Ev.tru_lst, Ev.tru_tup, Ev.tru_int, Ev.par_imm, Ev.par_own, Ev.par_no, Ev.par_drw]
    refine ⟨p5, p6, ?_⟩
    cases e with
    | beg n mv s t =>
      simp only [Ev.d, dBody, dSeq, dNext, dBreak, dCont, dDrop, dRet, dRetN, dIfS, dAsg, dgName, dgNil, dgsName, dgsPut, dgUn, dPar, dPar3, dVar, dC, dTake, dFrz, mkS, dBin, dBinO, dTest, dTru, dUn, dIsN, isNonB, dAnd, dOr, dNot, dAndV, dOrV, dNotV, asB, dIf, cnd, dNil, dCons, dTup, dLst, dNewD, dSub, dSl, dSlO, dNoPart, dPart, dIsi, dCallB, dCallO, wds, sds, wd, sd, rsv, Sl.dat, stv, notPar, Sl.with_, dCall, dCallK, argC, arC, useS, kindsB, Ar.sl, cond, ownL, ownD, upS, dLM, dLM0, isOwnL, isOwnD, dPop1, dPop2, dGet1, dGet2, isDct, dDput, dLput, dLput.known, dFld, dMth, dMth0, tyOk, dChain, dAugI, List.map_cons, List.map_nil, List.cons_append, List.nil_append, List.append_nil, List.length_cons, List.length_nil, List.replicate, List.getElem?_cons_zero, List.getElem?_cons_succ, List.getElem?_nil, List.set_cons_zero, List.set_cons_succ, Option.getD_some, Option.getD_none, Nat.reduceAdd, Nat.reduceSub, dNever, dYes, Nat.zero_le, dLc, dG, dSeqI, dOwnI, dLcD, dctS, dDc, dDcD, dFor, dForD, dRng1, dRng2, dEnum, noPar, wipeD, eqW, neW, D.key, itemsOf, keysOf, valsOf, gdT, isTy, tyD, notIns, List.any_cons, List.any_nil, Bool.or_false, Bool.or_true, Bool.true_or, Bool.false_or, Bool.not_true, Bool.not_false, String.reduceBEq, beq_self_eq_true, true_and, and_true, selN, sel, List.filterMap_cons, List.filterMap_nil, backR, back1, cleanR, clean1, clnR, List.tail_cons, List.head?_cons, List.not_mem_nil, false_implies, implies_true, List.nodup_nil, List.nodup_cons, not_false_eq_true, Ev.len_lst, Ev.len_tup, Ev.len_dct, Ev.len_set, Ev.len_str, Ev.add_int, Ev.add_str, Ev.add_tup, Ev.add_lst, Ev.mul_int, Ev.mul_lst, Ev.sub_lst, Ev.sub_tup, Ev.sub_str, Ev.sub_dctI, Ev.sub_dctS, Ev.cut_lst, Ev.cut_tup, Ev.cutL_lst, Ev.in_lst, Ev.in_tup, Ev.in_dctI, Ev.in_dctS, Ev.wI0_int, Ev.wII_int, Ev.neg_int, Ev.index_lst, Ev.set_lst, Ev.set_tup, Ev.all_lst, Ev.any_lst, Ev.list_lst, Ev.list_tup, Ev.list_dct, Ev.repr_one, Ev.dict_lst, Ev.tup_lst, Ev.tup_tup, Ev.append_one, Ev.pop_none, Ev.popAt_one, Ev.clear_none, Ev.extend_one, Ev.remove_one, Ev.seq_lst, Ev.seq_tup, Ev.enum_lst, Ev.enum_tup, Ev.int1_int, Ev.int2_int, Ev.int_int, Ev.max_int, Ev.min_int, Ev.opt_some, Ev.tru_lst, Ev.tru_tup, Ev.tru_int, Ev.par_imm, Ev.par_own, Ev.par_no, Ev.par_drw, at0, at1, at2, at3, at4, ok_b, ok_e, ok_v, dq_bv, dq_be]
      refine go ps _ _ hD rfl fun ps' ρ' hD' hh => ?_
      simp only [hh, dBody, dSeq, dNext, dBreak, dCont, dDrop, dRet, dRetN, dIfS, dAsg, dgName, dgNil, dgsName, dgsPut, dgUn, dPar, dPar3, dVar, dC, dTake, dFrz, mkS, dBin, dBinO, dTest, dTru, dUn, dIsN, isNonB, dAnd, dOr, dNot, dAndV, dOrV, dNotV, asB, dIf, cnd, dNil, dCons, dTup, dLst, dNewD, dSub, dSl, dSlO, dNoPart, dPart, dIsi, dCallB, dCallO, wds, sds, wd, sd, rsv, Sl.dat, stv, notPar, Sl.with_, dCall, dCallK, argC, arC, useS, kindsB, Ar.sl, cond, ownL, ownD, upS, dLM, dLM0, isOwnL, isOwnD, dPop1, dPop2, dGet1, dGet2, isDct, dDput, dLput, dLput.known, dFld, dMth, dMth0, tyOk, dChain, dAugI, List.map_cons, List.map_nil, List.cons_append, List.nil_append, List.append_nil, List.length_cons, List.length_nil, List.replicate, List.getElem?_cons_zero, List.getElem?_cons_succ, List.getElem?_nil, List.set_cons_zero, List.set_cons_succ, Option.getD_some, Option.getD_none, Nat.reduceAdd, Nat.reduceSub, dNever, dYes, Nat.zero_le, dLc, dG, dSeqI, dOwnI, dLcD, dctS, dDc, dDcD, dFor, dForD, dRng1, dRng2, dEnum, noPar, wipeD, eqW, neW, D.key, itemsOf, keysOf, valsOf, gdT, isTy, tyD, notIns, List.any_cons, List.any_nil, Bool.or_false, Bool.or_true, Bool.true_or, Bool.false_or, Bool.not_true, Bool.not_false, String.reduceBEq, beq_self_eq_true, true_and, and_true, selN, sel, List.filterMap_cons, List.filterMap_nil, backR, back1, cleanR, clean1, clnR, List.tail_cons, List.head?_cons, List.not_mem_nil, false_implies, implies_true, List.nodup_nil, List.nodup_cons, not_false_eq_true, Ev.len_lst, Ev.len_tup, Ev.len_dct, Ev.len_set, Ev.len_str, Ev.add_int, Ev.add_str, Ev.add_tup, Ev.add_lst, Ev.mul_int, Ev.mul_lst, Ev.sub_lst, Ev.sub_tup, Ev.sub_str, Ev.sub_dctI, Ev.sub_dctS, Ev.cut_lst, Ev.cut_tup, Ev.cutL_lst, Ev.in_lst, Ev.in_tup, Ev.in_dctI, Ev.in_dctS, Ev.wI0_int, Ev.wII_int, Ev.neg_int, Ev.index_lst, Ev.set_lst, Ev.set_tup, Ev.all_lst, Ev.any_lst, Ev.list_lst, Ev.list_tup, Ev.list_dct, Ev.repr_one, Ev.dict_lst, Ev.tup_lst, Ev.tup_tup, Ev.append_one, Ev.pop_none, Ev.popAt_one, Ev.clear_none, Ev.extend_one, Ev.remove_one, Ev.seq_lst, Ev.seq_tup, Ev.enum_lst, Ev.enum_tup, Ev.int1_int, Ev.int2_int, Ev.int_int, Ev.max_int, Ev.min_int, Ev.opt_some, Ev.tru_lst, Ev.tru_tup, Ev.tru_int, Ev.par_imm, Ev.par_own, Ev.par_no, Ev.par_drw]
      exact hN _ ⟨ps', _, _, _, rfl, ⟨rfl, rfl, p7⟩, hD'⟩
    | vis a =>
      simp only [Ev.d, dBody, dSeq, dNext, dBreak, dCont, dDrop, dRet, dRetN, dIfS, dAsg, dgName, dgNil, dgsName, dgsPut, dgUn, dPar, dPar3, dVar, dC, dTake, dFrz, mkS, dBin, dBinO, dTest, dTru, dUn, dIsN, isNonB, dAnd, dOr, dNot, dAndV, dOrV, dNotV, asB, dIf, cnd, dNil, dCons, dTup, dLst, dNewD, dSub, dSl, dSlO, dNoPart, dPart, dIsi, dCallB, dCallO, wds, sds, wd, sd, rsv, Sl.dat, stv, notPar, Sl.with_, dCall, dCallK, argC, arC, useS, kindsB, Ar.sl, cond, ownL, ownD, upS, dLM, dLM0, isOwnL, isOwnD, dPop1, dPop2, dGet1, dGet2, isDct, dDput, dLput, dLput.known, dFld, dMth, dMth0, tyOk, dChain, dAugI, List.map_cons, List.map_nil, List.cons_append, List.nil_append, List.append_nil, List.length_cons, List.length_nil, List.replicate, List.getElem?_cons_zero, List.getElem?_cons_succ, List.getElem?_nil, List.set_cons_zero, List.set_cons_succ, Option.getD_some, Option.getD_none, Nat.reduceAdd, Nat.reduceSub, dNever, dYes, Nat.zero_le, dLc, dG, dSeqI, dOwnI, dLcD, dctS, dDc, dDcD, dFor, dForD, dRng1, dRng2, dEnum, noPar, wipeD, eqW, neW, D.key, itemsOf, keysOf, valsOf, gdT, isTy, tyD, notIns, List.any_cons, List.any_nil, Bool.or_false, Bool.or_true, Bool.true_or, Bool.false_or, Bool.not_true, Bool.not_false, String.reduceBEq, beq_self_eq_true, true_and, and_true, selN, sel, List.filterMap_cons, List.filterMap_nil, backR, back1, cleanR, clean1, clnR, List.tail_cons, List.head?_cons, List.not_mem_nil, false_implies, implies_true, List.nodup_nil, List.nodup_cons, not_false_eq_true, Ev.len_lst, Ev.len_tup, Ev.len_dct, Ev.len_set, Ev.len_str, Ev.add_int, Ev.add_str, Ev.add_tup, Ev.add_lst, Ev.mul_int, Ev.mul_lst, Ev.sub_lst, Ev.sub_tup, Ev.sub_str, Ev.sub_dctI, Ev.sub_dctS, Ev.cut_lst, Ev.cut_tup, Ev.cutL_lst, Ev.in_lst, Ev.in_tup, Ev.in_dctI, Ev.in_dctS, Ev.wI0_int, Ev.wII_int, Ev.neg_int, Ev.index_lst, Ev.set_lst, Ev.set_tup, Ev.all_lst, Ev.any_lst, Ev.list_lst, Ev.list_tup, Ev.list_dct, Ev.repr_one, Ev.dict_lst, Ev.tup_lst, Ev.tup_tup, Ev.append_one, Ev.pop_none, Ev.popAt_one, Ev.clear_none, Ev.extend_one, Ev.remove_one, Ev.seq_lst, Ev.seq_tup, Ev.enum_lst, Ev.enum_tup, Ev.int1_int, Ev.int2_int, Ev.int_int, Ev.max_int, Ev.min_int, Ev.opt_some, Ev.tru_lst, Ev.tru_tup, Ev.tru_int, Ev.par_imm, Ev.par_own, Ev.par_no, Ev.par_drw, at0, at1, at2, at3, at4, ok_b, ok_e, ok_v, dq_vv]
      refine go _ _ _ hD.drop rfl fun ps' ρ' hD' hh => ?_
      simp only [hh, dBody, dSeq, dNext, dBreak, dCont, dDrop, dRet, dRetN, dIfS, dAsg, dgName, dgNil, dgsName, dgsPut, dgUn, dPar, dPar3, dVar, dC, dTake, dFrz, mkS, dBin, dBinO, dTest, dTru, dUn, dIsN, isNonB, dAnd, dOr, dNot, dAndV, dOrV, dNotV, asB, dIf, cnd, dNil, dCons, dTup, dLst, dNewD, dSub, dSl, dSlO, dNoPart, dPart, dIsi, dCallB, dCallO, wds, sds, wd, sd, rsv, Sl.dat, stv, notPar, Sl.with_, dCall, dCallK, argC, arC, useS, kindsB, Ar.sl, cond, ownL, ownD, upS, dLM, dLM0, isOwnL, isOwnD, dPop1, dPop2, dGet1, dGet2, isDct, dDput, dLput, dLput.known, dFld, dMth, dMth0, tyOk, dChain, dAugI, List.map_cons, List.map_nil, List.cons_append, List.nil_append, List.append_nil, List.length_cons, List.length_nil, List.replicate, List.getElem?_cons_zero, List.getElem?_cons_succ, List.getElem?_nil, List.set_cons_zero, List.set_cons_succ, Option.getD_some, Option.getD_none, Nat.reduceAdd, Nat.reduceSub, dNever, dYes, Nat.zero_le, dLc, dG, dSeqI, dOwnI, dLcD, dctS, dDc, dDcD, dFor, dForD, dRng1, dRng2, dEnum, noPar, wipeD, eqW, neW, D.key, itemsOf, keysOf, valsOf, gdT, isTy, tyD, notIns, List.any_cons, List.any_nil, Bool.or_false, Bool.or_true, Bool.true_or, Bool.false_or, Bool.not_true, Bool.not_false, String.reduceBEq, beq_self_eq_true, true_and, and_true, selN, sel, List.filterMap_cons, List.filterMap_nil, backR, back1, cleanR, clean1, clnR, List.tail_cons, List.head?_cons, List.not_mem_nil, false_implies, implies_true, List.nodup_nil, List.nodup_cons, not_false_eq_true, Ev.len_lst, Ev.len_tup, Ev.len_dct, Ev.len_set, Ev.len_str, Ev.add_int, Ev.add_str, Ev.add_tup, Ev.add_lst, Ev.mul_int, Ev.mul_lst, Ev.sub_lst, Ev.sub_tup, Ev.sub_str, Ev.sub_dctI, Ev.sub_dctS, Ev.cut_lst, Ev.cut_tup, Ev.cutL_lst, Ev.in_lst, Ev.in_tup, Ev.in_dctI, Ev.in_dctS, Ev.wI0_int, Ev.wII_int, Ev.neg_int, Ev.index_lst, Ev.set_lst, Ev.set_tup, Ev.all_lst, Ev.any_lst, Ev.list_lst, Ev.list_tup, Ev.list_dct, Ev.repr_one, Ev.dict_lst, Ev.tup_lst, Ev.tup_tup, Ev.append_one, Ev.pop_none, Ev.popAt_one, Ev.clear_none, Ev.extend_one, Ev.remove_one, Ev.seq_lst, Ev.seq_tup, Ev.enum_lst, Ev.enum_tup, Ev.int1_int, Ev.int2_int, Ev.int_int, Ev.max_int, Ev.min_int, Ev.opt_some, Ev.tru_lst, Ev.tru_tup, Ev.tru_int, Ev.par_imm, Ev.par_own, Ev.par_no, Ev.par_drw]
      exact hN _ ⟨ps', _, _, _, rfl, ⟨rfl, rfl, p7⟩, hD'⟩
    | fin n =>
      simp only [Ev.d, dBody, dSeq, dNext, dBreak, dCont, dDrop, dRet, dRetN, dIfS, dAsg, dgName, dgNil, dgsName, dgsPut, dgUn, dPar, dPar3, dVar, dC, dTake, dFrz, mkS, dBin, dBinO, dTest, dTru, dUn, dIsN, isNonB, dAnd, dOr, dNot, dAndV, dOrV, dNotV, asB, dIf, cnd, dNil, dCons, dTup, dLst, dNewD, dSub, dSl, dSlO, dNoPart, dPart, dIsi, dCallB, dCallO, wds, sds, wd, sd, rsv, Sl.dat, stv, notPar, Sl.with_, dCall, dCallK, argC, arC, useS, kindsB, Ar.sl, cond, ownL, ownD, upS, dLM, dLM0, isOwnL, isOwnD, dPop1, dPop2, dGet1, dGet2, isDct, dDput, dLput, dLput.known, dFld, dMth, dMth0, tyOk, dChain, dAugI, List.map_cons, List.map_nil, List.cons_append, List.nil_append, List.append_nil, List.length_cons, List.length_nil, List.replicate, List.getElem?_cons_zero, List.getElem?_cons_succ, List.getElem?_nil, List.set_cons_zero, List.set_cons_succ, Option.getD_some, Option.getD_none, Nat.reduceAdd, Nat.reduceSub, dNever, dYes, Nat.zero_le, dLc, dG, dSeqI, dOwnI, dLcD, dctS, dDc, dDcD, dFor, dForD, dRng1, dRng2, dEnum, noPar, wipeD, eqW, neW, D.key, itemsOf, keysOf, valsOf, gdT, isTy, tyD, notIns, List.any_cons, List.any_nil, Bool.or_false, Bool.or_true, Bool.true_or, Bool.false_or, Bool.not_true, Bool.not_false, String.reduceBEq, beq_self_eq_true, true_and, and_true, selN, sel, List.filterMap_cons, List.filterMap_nil, backR, back1, cleanR, clean1, clnR, List.tail_cons, List.head?_cons, List.not_mem_nil, false_implies, implies_true, List.nodup_nil, List.nodup_cons, not_false_eq_true, Ev.len_lst, Ev.len_tup, Ev.len_dct, Ev.len_set, Ev.len_str, Ev.add_int, Ev.add_str, Ev.add_tup, Ev.add_lst, Ev.mul_int, Ev.mul_lst, Ev.sub_lst, Ev.sub_tup, Ev.sub_str, Ev.sub_dctI, Ev.sub_dctS, Ev.cut_lst, Ev.cut_tup, Ev.cutL_lst, Ev.in_lst, Ev.in_tup, Ev.in_dctI, Ev.in_dctS, Ev.wI0_int, Ev.wII_int, Ev.neg_int, Ev.index_lst, Ev.set_lst, Ev.set_tup, Ev.all_lst, Ev.any_lst, Ev.list_lst, Ev.list_tup, Ev.list_dct, Ev.repr_one, Ev.dict_lst, Ev.tup_lst, Ev.tup_tup, Ev.append_one, Ev.pop_none, Ev.popAt_one, Ev.clear_none, Ev.extend_one, Ev.remove_one, Ev.seq_lst, Ev.seq_tup, Ev.enum_lst, Ev.enum_tup, Ev.int1_int, Ev.int2_int, Ev.int_int, Ev.max_int, Ev.min_int, Ev.opt_some, Ev.tru_lst, Ev.tru_tup, Ev.tru_int, Ev.par_imm, Ev.par_own, Ev.par_no, Ev.par_drw, at0, at1, at2, at3, at4, ok_b, ok_e, ok_v, dq_ev, dq_ee]
      obtain ⟨⟨i, mv, s, t⟩, eb⟩ := begOf_some (i := 0) oke.1
      have lk := lk_trs (C := C) (recs_nodup g) (rec_of eb)
      have lk' : lkD (trsD C (recs l)) (.inl n) = some (trD C ⟨n, mv, s, t, i, endOf l 0 n⟩) := lk
      have pe : pre (dts (m0 o) l j) (l.take j) (.fin n) = if mv = true ∧ leNow (dts (m0 o) l j) s i = true then delM (dts (m0 o) l j) s else dts (m0 o) l j := by
        show (match begOf (l.take j) 0 n with | some (i, mv, s, _) => if mv = true ∧ leNow (dts (m0 o) l j) s i = true then delM (dts (m0 o) l j) s else dts (m0 o) l j | none => dts (m0 o) l j) = _
        rw [eb]
      rw [lk']
      simp only [dBody, dSeq, dNext, dBreak, dCont, dDrop, dRet, dRetN, dIfS, dAsg, dgName, dgNil, dgsName, dgsPut, dgUn, dPar, dPar3, dVar, dC, dTake, dFrz, mkS, dBin, dBinO, dTest, dTru, dUn, dIsN, isNonB, dAnd, dOr, dNot, dAndV, dOrV, dNotV, asB, dIf, cnd, dNil, dCons, dTup, dLst, dNewD, dSub, dSl, dSlO, dNoPart, dPart, dIsi, dCallB, dCallO, wds, sds, wd, sd, rsv, Sl.dat, stv, notPar, Sl.with_, dCall, dCallK, argC, arC, useS, kindsB, Ar.sl, cond, ownL, ownD, upS, dLM, dLM0, isOwnL, isOwnD, dPop1, dPop2, dGet1, dGet2, isDct, dDput, dLput, dLput.known, dFld, dMth, dMth0, tyOk, dChain, dAugI, List.map_cons, List.map_nil, List.cons_append, List.nil_append, List.append_nil, List.length_cons, List.length_nil, List.replicate, List.getElem?_cons_zero, List.getElem?_cons_succ, List.getElem?_nil, List.set_cons_zero, List.set_cons_succ, Option.getD_some, Option.getD_none, Nat.reduceAdd, Nat.reduceSub, dNever, dYes, Nat.zero_le, dLc, dG, dSeqI, dOwnI, dLcD, dctS, dDc, dDcD, dFor, dForD, dRng1, dRng2, dEnum, noPar, wipeD, eqW, neW, D.key, itemsOf, keysOf, valsOf, gdT, isTy, tyD, notIns, List.any_cons, List.any_nil, Bool.or_false, Bool.or_true, Bool.true_or, Bool.false_or, Bool.not_true, Bool.not_false, String.reduceBEq, beq_self_eq_true, true_and, and_true, selN, sel, List.filterMap_cons, List.filterMap_nil, backR, back1, cleanR, clean1, clnR, List.tail_cons, List.head?_cons, List.not_mem_nil, false_implies, implies_true, List.nodup_nil, List.nodup_cons, not_false_eq_true, Ev.len_lst, Ev.len_tup, Ev.len_dct, Ev.len_set, Ev.len_str, Ev.add_int, Ev.add_str, Ev.add_tup, Ev.add_lst, Ev.mul_int, Ev.mul_lst, Ev.sub_lst, Ev.sub_tup, Ev.sub_str, Ev.sub_dctI, Ev.sub_dctS, Ev.cut_lst, Ev.cut_tup, Ev.cutL_lst, Ev.in_lst, Ev.in_tup, Ev.in_dctI, Ev.in_dctS, Ev.wI0_int, Ev.wII_int, Ev.neg_int, Ev.index_lst, Ev.set_lst, Ev.set_tup, Ev.all_lst, Ev.any_lst, Ev.list_lst, Ev.list_tup, Ev.list_dct, Ev.repr_one, Ev.dict_lst, Ev.tup_lst, Ev.tup_tup, Ev.append_one, Ev.pop_none, Ev.popAt_one, Ev.clear_none, Ev.extend_one, Ev.remove_one, Ev.seq_lst, Ev.seq_tup, Ev.enum_lst, Ev.enum_tup, Ev.int1_int, Ev.int2_int, Ev.int_int, Ev.max_int, Ev.min_int, Ev.opt_some, Ev.tru_lst, Ev.tru_tup, Ev.tru_int, Ev.par_imm, Ev.par_own, Ev.par_no, Ev.par_drw, ins_tr, f_kind, f_source, f_began, ok_k, ok_m, dq_k]
      refine ⟨p7, ?_⟩
      cases mv with
      | false =>
        simp only
        refine go ps _ _ hD (by rw [pe, if_neg (by simp)]) fun ps' ρ' hD' hh => ?_
        simp only [hh, dBody, dSeq, dNext, dBreak, dCont, dDrop, dRet, dRetN, dIfS, dAsg, dgName, dgNil, dgsName, dgsPut, dgUn, dPar, dPar3, dVar, dC, dTake, dFrz, mkS, dBin, dBinO, dTest, dTru, dUn, dIsN, isNonB, dAnd, dOr, dNot, dAndV, dOrV, dNotV, asB, dIf, cnd, dNil, dCons, dTup, dLst, dNewD, dSub, dSl, dSlO, dNoPart, dPart, dIsi, dCallB, dCallO, wds, sds, wd, sd, rsv, Sl.dat, stv, notPar, Sl.with_, dCall, dCallK, argC, arC, useS, kindsB, Ar.sl, cond, ownL, ownD, upS, dLM, dLM0, isOwnL, isOwnD, dPop1, dPop2, dGet1, dGet2, isDct, dDput, dLput, dLput.known, dFld, dMth, dMth0, tyOk, dChain, dAugI, List.map_cons, List.map_nil, List.cons_append, List.nil_append, List.append_nil, List.length_cons, List.length_nil, List.replicate, List.getElem?_cons_zero, List.getElem?_cons_succ, List.getElem?_nil, List.set_cons_zero, List.set_cons_succ, Option.getD_some, Option.getD_none, Nat.reduceAdd, Nat.reduceSub, dNever, dYes, Nat.zero_le, dLc, dG, dSeqI, dOwnI, dLcD, dctS, dDc, dDcD, dFor, dForD, dRng1, dRng2, dEnum, noPar, wipeD, eqW, neW, D.key, itemsOf, keysOf, valsOf, gdT, isTy, tyD, notIns, List.any_cons, List.any_nil, Bool.or_false, Bool.or_true, Bool.true_or, Bool.false_or, Bool.not_true, Bool.not_false, String.reduceBEq, beq_self_eq_true, true_and, and_true, selN, sel, List.filterMap_cons, List.filterMap_nil, backR, back1, cleanR, clean1, clnR, List.tail_cons, List.head?_cons, List.not_mem_nil, false_implies, implies_true, List.nodup_nil, List.nodup_cons, not_false_eq_true, Ev.len_lst, Ev.len_tup, Ev.len_dct, Ev.len_set, Ev.len_str, Ev.add_int, Ev.add_str, Ev.add_tup, Ev.add_lst, Ev.mul_int, Ev.mul_lst, Ev.sub_lst, Ev.sub_tup, Ev.sub_str, Ev.sub_dctI, Ev.sub_dctS, Ev.cut_lst, Ev.cut_tup, Ev.cutL_lst, Ev.in_lst, Ev.in_tup, Ev.in_dctI, Ev.in_dctS, Ev.wI0_int, Ev.wII_int, Ev.neg_int, Ev.index_lst, Ev.set_lst, Ev.set_tup, Ev.all_lst, Ev.any_lst, Ev.list_lst, Ev.list_tup, Ev.list_dct, Ev.repr_one, Ev.dict_lst, Ev.tup_lst, Ev.tup_tup, Ev.append_one, Ev.pop_none, Ev.popAt_one, Ev.clear_none, Ev.extend_one, Ev.remove_one, Ev.seq_lst, Ev.seq_tup, Ev.enum_lst, Ev.enum_tup, Ev.int1_int, Ev.int2_int, Ev.int_int, Ev.max_int, Ev.min_int, Ev.opt_some, Ev.tru_lst, Ev.tru_tup, Ev.tru_int, Ev.par_imm, Ev.par_own, Ev.par_no, Ev.par_drw]
        exact hN _ ⟨ps', _, _, _, rfl, ⟨rfl, rfl, rfl⟩, hD'⟩
      | true =>
        simp only
        have ls := hD.2.2 s
        rw [ls]
        cases ms : dts (m0 o) l j s with
        | none =>
          simp only [Option.map_none, Option.getD_none, dBody, dSeq, dNext, dBreak, dCont, dDrop, dRet, dRetN, dIfS, dAsg, dgName, dgNil, dgsName, dgsPut, dgUn, dPar, dPar3, dVar, dC, dTake, dFrz, mkS, dBin, dBinO, dTest, dTru, dUn, dIsN, isNonB, dAnd, dOr, dNot, dAndV, dOrV, dNotV, asB, dIf, cnd, dNil, dCons, dTup, dLst, dNewD, dSub, dSl, dSlO, dNoPart, dPart, dIsi, dCallB, dCallO, wds, sds, wd, sd, rsv, Sl.dat, stv, notPar, Sl.with_, dCall, dCallK, argC, arC, useS, kindsB, Ar.sl, cond, ownL, ownD, upS, dLM, dLM0, isOwnL, isOwnD, dPop1, dPop2, dGet1, dGet2, isDct, dDput, dLput, dLput.known, dFld, dMth, dMth0, tyOk, dChain, dAugI, List.map_cons, List.map_nil, List.cons_append, List.nil_append, List.append_nil, List.length_cons, List.length_nil, List.replicate, List.getElem?_cons_zero, List.getElem?_cons_succ, List.getElem?_nil, List.set_cons_zero, List.set_cons_succ, Option.getD_some, Option.getD_none, Nat.reduceAdd, Nat.reduceSub, dNever, dYes, Nat.zero_le, dLc, dG, dSeqI, dOwnI, dLcD, dctS, dDc, dDcD, dFor, dForD, dRng1, dRng2, dEnum, noPar, wipeD, eqW, neW, D.key, itemsOf, keysOf, valsOf, gdT, isTy, tyD, notIns, List.any_cons, List.any_nil, Bool.or_false, Bool.or_true, Bool.true_or, Bool.false_or, Bool.not_true, Bool.not_false, String.reduceBEq, beq_self_eq_true, true_and, and_true, selN, sel, List.filterMap_cons, List.filterMap_nil, backR, back1, cleanR, clean1, clnR, List.tail_cons, List.head?_cons, List.not_mem_nil, false_implies, implies_true, List.nodup_nil, List.nodup_cons, not_false_eq_true, Ev.len_lst, Ev.len_tup, Ev.len_dct, Ev.len_set, Ev.len_str, Ev.add_int, Ev.add_str, Ev.add_tup, Ev.add_lst, Ev.mul_int, Ev.mul_lst, Ev.sub_lst, Ev.sub_tup, Ev.sub_str, Ev.sub_dctI, Ev.sub_dctS, Ev.cut_lst, Ev.cut_tup, Ev.cutL_lst, Ev.in_lst, Ev.in_tup, Ev.in_dctI, Ev.in_dctS, Ev.wI0_int, Ev.wII_int, Ev.neg_int, Ev.index_lst, Ev.set_lst, Ev.set_tup, Ev.all_lst, Ev.any_lst, Ev.list_lst, Ev.list_tup, Ev.list_dct, Ev.repr_one, Ev.dict_lst, Ev.tup_lst, Ev.tup_tup, Ev.append_one, Ev.pop_none, Ev.popAt_one, Ev.clear_none, Ev.extend_one, Ev.remove_one, Ev.seq_lst, Ev.seq_tup, Ev.enum_lst, Ev.enum_tup, Ev.int1_int, Ev.int2_int, Ev.int_int, Ev.max_int, Ev.min_int, Ev.opt_some, Ev.tru_lst, Ev.tru_tup, Ev.tru_int, Ev.par_imm, Ev.par_own, Ev.par_no, Ev.par_drw]
          rw [decide_eq_true (show (-1 : Int) ≤ (i : Int) by omega)]
          simp only
          have dm : delM (dts (m0 o) l j) s = dts (m0 o) l j := by
            funext x
            unfold delM
            split
            · rename_i z; rw [z, ms]
            · rfl
          refine go _ _ _ hD.drop (by rw [pe, if_neg (by simp [leNow, ms]), dm]) fun ps' ρ' hD' hh => ?_
          simp only [hh, dBody, dSeq, dNext, dBreak, dCont, dDrop, dRet, dRetN, dIfS, dAsg, dgName, dgNil, dgsName, dgsPut, dgUn, dPar, dPar3, dVar, dC, dTake, dFrz, mkS, dBin, dBinO, dTest, dTru, dUn, dIsN, isNonB, dAnd, dOr, dNot, dAndV, dOrV, dNotV, asB, dIf, cnd, dNil, dCons, dTup, dLst, dNewD, dSub, dSl, dSlO, dNoPart, dPart, dIsi, dCallB, dCallO, wds, sds, wd, sd, rsv, Sl.dat, stv, notPar, Sl.with_, dCall, dCallK, argC, arC, useS, kindsB, Ar.sl, cond, ownL, ownD, upS, dLM, dLM0, isOwnL, isOwnD, dPop1, dPop2, dGet1, dGet2, isDct, dDput, dLput, dLput.known, dFld, dMth, dMth0, tyOk, dChain, dAugI, List.map_cons, List.map_nil, List.cons_append, List.nil_append, List.append_nil, List.length_cons, List.length_nil, List.replicate, List.getElem?_cons_zero, List.getElem?_cons_succ, List.getElem?_nil, List.set_cons_zero, List.set_cons_succ, Option.getD_some, Option.getD_none, Nat.reduceAdd, Nat.reduceSub, dNever, dYes, Nat.zero_le, dLc, dG, dSeqI, dOwnI, dLcD, dctS, dDc, dDcD, dFor, dForD, dRng1, dRng2, dEnum, noPar, wipeD, eqW, neW, D.key, itemsOf, keysOf, valsOf, gdT, isTy, tyD, notIns, List.any_cons, List.any_nil, Bool.or_false, Bool.or_true, Bool.true_or, Bool.false_or, Bool.not_true, Bool.not_false, String.reduceBEq, beq_self_eq_true, true_and, and_true, selN, sel, List.filterMap_cons, List.filterMap_nil, backR, back1, cleanR, clean1, clnR, List.tail_cons, List.head?_cons, List.not_mem_nil, false_implies, implies_true, List.nodup_nil, List.nodup_cons, not_false_eq_true, Ev.len_lst, Ev.len_tup, Ev.len_dct, Ev.len_set, Ev.len_str, Ev.add_int, Ev.add_str, Ev.add_tup, Ev.add_lst, Ev.mul_int, Ev.mul_lst, Ev.sub_lst, Ev.sub_tup, Ev.sub_str, Ev.sub_dctI, Ev.sub_dctS, Ev.cut_lst, Ev.cut_tup, Ev.cutL_lst, Ev.in_lst, Ev.in_tup, Ev.in_dctI, Ev.in_dctS, Ev.wI0_int, Ev.wII_int, Ev.neg_int, Ev.index_lst, Ev.set_lst, Ev.set_tup, Ev.all_lst, Ev.any_lst, Ev.list_lst, Ev.list_tup, Ev.list_dct, Ev.repr_one, Ev.dict_lst, Ev.tup_lst, Ev.tup_tup, Ev.append_one, Ev.pop_none, Ev.popAt_one, Ev.clear_none, Ev.extend_one, Ev.remove_one, Ev.seq_lst, Ev.seq_tup, Ev.enum_lst, Ev.enum_tup, Ev.int1_int, Ev.int2_int, Ev.int_int, Ev.max_int, Ev.min_int, Ev.opt_some, Ev.tru_lst, Ev.tru_tup, Ev.tru_int, Ev.par_imm, Ev.par_own, Ev.par_no, Ev.par_drw]
          exact hN _ ⟨ps', _, _, _, rfl, ⟨rfl, rfl, rfl⟩, hD'⟩
        | some dv =>
          simp only [Option.map_some, Option.getD_some, dBody, dSeq, dNext, dBreak, dCont, dDrop, dRet, dRetN, dIfS, dAsg, dgName, dgNil, dgsName, dgsPut, dgUn, dPar, dPar3, dVar, dC, dTake, dFrz, mkS, dBin, dBinO, dTest, dTru, dUn, dIsN, isNonB, dAnd, dOr, dNot, dAndV, dOrV, dNotV, asB, dIf, cnd, dNil, dCons, dTup, dLst, dNewD, dSub, dSl, dSlO, dNoPart, dPart, dIsi, dCallB, dCallO, wds, sds, wd, sd, rsv, Sl.dat, stv, notPar, Sl.with_, dCall, dCallK, argC, arC, useS, kindsB, Ar.sl, cond, ownL, ownD, upS, dLM, dLM0, isOwnL, isOwnD, dPop1, dPop2, dGet1, dGet2, isDct, dDput, dLput, dLput.known, dFld, dMth, dMth0, tyOk, dChain, dAugI, List.map_cons, List.map_nil, List.cons_append, List.nil_append, List.append_nil, List.length_cons, List.length_nil, List.replicate, List.getElem?_cons_zero, List.getElem?_cons_succ, List.getElem?_nil, List.set_cons_zero, List.set_cons_succ, Option.getD_some, Option.getD_none, Nat.reduceAdd, Nat.reduceSub, dNever, dYes, Nat.zero_le, dLc, dG, dSeqI, dOwnI, dLcD, dctS, dDc, dDcD, dFor, dForD, dRng1, dRng2, dEnum, noPar, wipeD, eqW, neW, D.key, itemsOf, keysOf, valsOf, gdT, isTy, tyD, notIns, List.any_cons, List.any_nil, Bool.or_false, Bool.or_true, Bool.true_or, Bool.false_or, Bool.not_true, Bool.not_false, String.reduceBEq, beq_self_eq_true, true_and, and_true, selN, sel, List.filterMap_cons, List.filterMap_nil, backR, back1, cleanR, clean1, clnR, List.tail_cons, List.head?_cons, List.not_mem_nil, false_implies, implies_true, List.nodup_nil, List.nodup_cons, not_false_eq_true, Ev.len_lst, Ev.len_tup, Ev.len_dct, Ev.len_set, Ev.len_str, Ev.add_int, Ev.add_str, Ev.add_tup, Ev.add_lst, Ev.mul_int, Ev.mul_lst, Ev.sub_lst, Ev.sub_tup, Ev.sub_str, Ev.sub_dctI, Ev.sub_dctS, Ev.cut_lst, Ev.cut_tup, Ev.cutL_lst, Ev.in_lst, Ev.in_tup, Ev.in_dctI, Ev.in_dctS, Ev.wI0_int, Ev.wII_int, Ev.neg_int, Ev.index_lst, Ev.set_lst, Ev.set_tup, Ev.all_lst, Ev.any_lst, Ev.list_lst, Ev.list_tup, Ev.list_dct, Ev.repr_one, Ev.dict_lst, Ev.tup_lst, Ev.tup_tup, Ev.append_one, Ev.pop_none, Ev.popAt_one, Ev.clear_none, Ev.extend_one, Ev.remove_one, Ev.seq_lst, Ev.seq_tup, Ev.enum_lst, Ev.enum_tup, Ev.int1_int, Ev.int2_int, Ev.int_int, Ev.max_int, Ev.min_int, Ev.opt_some, Ev.tru_lst, Ev.tru_tup, Ev.tru_int, Ev.par_imm, Ev.par_own, Ev.par_no, Ev.par_drw]
          by_cases le : dv ≤ (i : Int)
          · rw [decide_eq_true le]
            simp only
            refine go _ _ _ hD.drop (by rw [pe, if_pos ⟨rfl, by simp [leNow, ms, le]⟩]) fun ps' ρ' hD' hh => ?_
            simp only [hh, dBody, dSeq, dNext, dBreak, dCont, dDrop, dRet, dRetN, dIfS, dAsg, dgName, dgNil, dgsName, dgsPut, dgUn, dPar, dPar3, dVar, dC, dTake, dFrz, mkS, dBin, dBinO, dTest, dTru, dUn, dIsN, isNonB, dAnd, dOr, dNot, dAndV, dOrV, dNotV, asB, dIf, cnd, dNil, dCons, dTup, dLst, dNewD, dSub, dSl, dSlO, dNoPart, dPart, dIsi, dCallB, dCallO, wds, sds, wd, sd, rsv, Sl.dat, stv, notPar, Sl.with_, dCall, dCallK, argC, arC, useS, kindsB, Ar.sl, cond, ownL, ownD, upS, dLM, dLM0, isOwnL, isOwnD, dPop1, dPop2, dGet1, dGet2, isDct, dDput, dLput, dLput.known, dFld, dMth, dMth0, tyOk, dChain, dAugI, List.map_cons, List.map_nil, List.cons_append, List.nil_append, List.append_nil, List.length_cons, List.length_nil, List.replicate, List.getElem?_cons_zero, List.getElem?_cons_succ, List.getElem?_nil, List.set_cons_zero, List.set_cons_succ, Option.getD_some, Option.getD_none, Nat.reduceAdd, Nat.reduceSub, dNever, dYes, Nat.zero_le, dLc, dG, dSeqI, dOwnI, dLcD, dctS, dDc, dDcD, dFor, dForD, dRng1, dRng2, dEnum, noPar, wipeD, eqW, neW, D.key, itemsOf, keysOf, valsOf, gdT, isTy, tyD, notIns, List.any_cons, List.any_nil, Bool.or_false, Bool.or_true, Bool.true_or, Bool.false_or, Bool.not_true, Bool.not_false, String.reduceBEq, beq_self_eq_true, true_and, and_true, selN, sel, List.filterMap_cons, List.filterMap_nil, backR, back1, cleanR, clean1, clnR, List.tail_cons, List.head?_cons, List.not_mem_nil, false_implies, implies_true, List.nodup_nil, List.nodup_cons, not_false_eq_true, Ev.len_lst, Ev.len_tup, Ev.len_dct, Ev.len_set, Ev.len_str, Ev.add_int, Ev.add_str, Ev.add_tup, Ev.add_lst, Ev.mul_int, Ev.mul_lst, Ev.sub_lst, Ev.sub_tup, Ev.sub_str, Ev.sub_dctI, Ev.sub_dctS, Ev.cut_lst, Ev.cut_tup, Ev.cutL_lst, Ev.in_lst, Ev.in_tup, Ev.in_dctI, Ev.in_dctS, Ev.wI0_int, Ev.wII_int, Ev.neg_int, Ev.index_lst, Ev.set_lst, Ev.set_tup, Ev.all_lst, Ev.any_lst, Ev.list_lst, Ev.list_tup, Ev.list_dct, Ev.repr_one, Ev.dict_lst, Ev.tup_lst, Ev.tup_tup, Ev.append_one, Ev.pop_none, Ev.popAt_one, Ev.clear_none, Ev.extend_one, Ev.remove_one, Ev.seq_lst, Ev.seq_tup, Ev.enum_lst, Ev.enum_tup, Ev.int1_int, Ev.int2_int, Ev.int_int, Ev.max_int, Ev.min_int, Ev.opt_some, Ev.tru_lst, Ev.tru_tup, Ev.tru_int, Ev.par_imm, Ev.par_own, Ev.par_no, Ev.par_drw]
            exact hN _ ⟨ps', _, _, _, rfl, ⟨rfl, rfl, rfl⟩, hD'⟩
          · rw [decide_eq_false le]
            simp only
            refine go _ _ _ hD (by rw [pe, if_neg (by simp [leNow, ms, le])]) fun ps' ρ' hD' hh => ?_
            simp only [hh, dBody, dSeq, dNext, dBreak, dCont, dDrop, dRet, dRetN, dIfS, dAsg, dgName, dgNil, dgsName, dgsPut, dgUn, dPar, dPar3, dVar, dC, dTake, dFrz, mkS, dBin, dBinO, dTest, dTru, dUn, dIsN, isNonB, dAnd, dOr, dNot, dAndV, dOrV, dNotV, asB, dIf, cnd, dNil, dCons, dTup, dLst, dNewD, dSub, dSl, dSlO, dNoPart, dPart, dIsi, dCallB, dCallO, wds, sds, wd, sd, rsv, Sl.dat, stv, notPar, Sl.with_, dCall, dCallK, argC, arC, useS, kindsB, Ar.sl, cond, ownL, ownD, upS, dLM, dLM0, isOwnL, isOwnD, dPop1, dPop2, dGet1, dGet2, isDct, dDput, dLput, dLput.known, dFld, dMth, dMth0, tyOk, dChain, dAugI, List.map_cons, List.map_nil, List.cons_append, List.nil_append, List.append_nil, List.length_cons, List.length_nil, List.replicate, List.getElem?_cons_zero, List.getElem?_cons_succ, List.getElem?_nil, List.set_cons_zero, List.set_cons_succ, Option.getD_some, Option.getD_none, Nat.reduceAdd, Nat.reduceSub, dNever, dYes, Nat.zero_le, dLc, dG, dSeqI, dOwnI, dLcD, dctS, dDc, dDcD, dFor, dForD, dRng1, dRng2, dEnum, noPar, wipeD, eqW, neW, D.key, itemsOf, keysOf, valsOf, gdT, isTy, tyD, notIns, List.any_cons, List.any_nil, Bool.or_false, Bool.or_true, Bool.true_or, Bool.false_or, Bool.not_true, Bool.not_false, String.reduceBEq, beq_self_eq_true, true_and, and_true, selN, sel, List.filterMap_cons, List.filterMap_nil, backR, back1, cleanR, clean1, clnR, List.tail_cons, List.head?_cons, List.not_mem_nil, false_implies, implies_true, List.nodup_nil, List.nodup_cons, not_false_eq_true, Ev.len_lst, Ev.len_tup, Ev.len_dct, Ev.len_set, Ev.len_str, Ev.add_int, Ev.add_str, Ev.add_tup, Ev.add_lst, Ev.mul_int, Ev.mul_lst, Ev.sub_lst, Ev.sub_tup, Ev.sub_str, Ev.sub_dctI, Ev.sub_dctS, Ev.cut_lst, Ev.cut_tup, Ev.cutL_lst, Ev.in_lst, Ev.in_tup, Ev.in_dctI, Ev.in_dctS, Ev.wI0_int, Ev.wII_int, Ev.neg_int, Ev.index_lst, Ev.set_lst, Ev.set_tup, Ev.all_lst, Ev.any_lst, Ev.list_lst, Ev.list_tup, Ev.list_dct, Ev.repr_one, Ev.dict_lst, Ev.tup_lst, Ev.tup_tup, Ev.append_one, Ev.pop_none, Ev.popAt_one, Ev.clear_none, Ev.extend_one, Ev.remove_one, Ev.seq_lst, Ev.seq_tup, Ev.enum_lst, Ev.enum_tup, Ev.int1_int, Ev.int2_int, Ev.int_int, Ev.max_int, Ev.min_int, Ev.opt_some, Ev.tru_lst, Ev.tru_tup, Ev.tru_int, Ev.par_imm, Ev.par_own, Ev.par_no, Ev.par_drw]
            exact hN _ ⟨ps', _, _, _, rfl, ⟨rfl, rfl, rfl⟩, hD'⟩
  · rintro ρ ⟨ps, x5, x6, x7, rfl, _, hD⟩
    simp only [dBody, dSeq, dNext, dBreak, dCont, dDrop, dRet, dRetN, dIfS, dAsg, dgName, dgNil, dgsName, dgsPut, dgUn, dPar, dPar3, dVar, dC, dTake, dFrz, mkS, dBin, dBinO, dTest, dTru, dUn, dIsN, isNonB, dAnd, dOr, dNot, dAndV, dOrV, dNotV, asB, dIf, cnd, dNil, dCons, dTup, dLst, dNewD, dSub, dSl, dSlO, dNoPart, dPart, dIsi, dCallB, dCallO, wds, sds, wd, sd, rsv, Sl.dat, stv, notPar, Sl.with_, dCall, dCallK, argC, arC, useS, kindsB, Ar.sl, cond, ownL, ownD, upS, dLM, dLM0, isOwnL, isOwnD, dPop1, dPop2, dGet1, dGet2, isDct, dDput, dLput, dLput.known, dFld, dMth, dMth0, tyOk, dChain, dAugI, List.map_cons, List.map_nil, List.cons_append, List.nil_append, List.append_nil, List.length_cons, List.length_nil, List.replicate, List.getElem?_cons_zero, List.getElem?_cons_succ, List.getElem?_nil, List.set_cons_zero, List.set_cons_succ, Option.getD_some, Option.getD_none, Nat.reduceAdd, Nat.reduceSub, dNever, dYes, Nat.zero_le, dLc, dG, dSeqI, dOwnI, dLcD, dctS, dDc, dDcD, dFor, dForD, dRng1, dRng2, dEnum, noPar, wipeD, eqW, neW, D.key, itemsOf, keysOf, valsOf, gdT, isTy, tyD, notIns, List.any_cons, List.any_nil, Bool.or_false, Bool.or_true, Bool.true_or, Bool.false_or, Bool.not_true, Bool.not_false, String.reduceBEq, beq_self_eq_true, true_and, and_true, selN, sel, List.filterMap_cons, List.filterMap_nil, backR, back1, cleanR, clean1, clnR, List.tail_cons, List.head?_cons, List.not_mem_nil, false_implies, implies_true, List.nodup_nil, List.nodup_cons, not_false_eq_true, Ev.len_lst, Ev.len_tup, Ev.len_dct, Ev.len_set, Ev.len_str, Ev.add_int, Ev.add_str, Ev.add_tup, Ev.add_lst, Ev.mul_int, Ev.mul_lst, Ev.sub_lst, Ev.sub_tup, Ev.sub_str, Ev.sub_dctI, Ev.sub_dctS, Ev.cut_lst, Ev.cut_tup, Ev.cutL_lst, Ev.in_lst, Ev.in_tup, Ev.in_dctI, Ev.in_dctS, Ev.wI0_int, Ev.wII_int, Ev.neg_int, Ev.index_lst, Ev.set_lst, Ev.set_tup, Ev.all_lst, Ev.any_lst, Ev.list_lst, Ev.list_tup, Ev.list_dct, Ev.repr_one, Ev.dict_lst, Ev.tup_lst, Ev.tup_tup, Ev.append_one, Ev.pop_none, Ev.popAt_one, Ev.clear_none, Ev.extend_one, Ev.remove_one, Ev.seq_lst, Ev.seq_tup, Ev.enum_lst, Ev.enum_tup, Ev.int1_int, Ev.int2_int, Ev.int_int, Ev.max_int, Ev.min_int, Ev.opt_some, Ev.tru_lst, Ev.tru_tup, Ev.tru_int, Ev.par_imm, Ev.par_own, Ev.par_no, Ev.par_drw]
    rw [enumD_len, List.length_map] at hD
    obtain ⟨ns, e1, e2⟩ := outL_keys hD
    refine ⟨ns, e1, ?_⟩
    rw [e2]
    exact k _
end
end Bm
set_option maxRecDepth 100000
set_option maxHeartbeats 4000000
/-! the law -/
namespace Bm
open PySem PySem.Spec L2 L3 LamX Dl PyProof.Rows
theorem tame_line {o U : List Int} {l : List Ev} (oU : ∀ x ∈ o, x ∈ U) (bU : ∀ x ∈ U, -10 ^ 9 ≤ x ∧ x ≤ 10 ^ 9) (sm : ∀ e ∈ l, smEv U e) (lo : o.length ≤ 1000) (ll : l.length ≤ 100) : shOk (.lst [.lst (o.map D.int), .lst (l.map Ev.d)]) := by
  have int_ : ∀ x : Int, -10 ^ 9 ≤ x ∧ x ≤ 10 ^ 9 → Tame 0 41 (.int x) := fun x h => Tame.int (by omega)
  have s0 : ∀ s : Str, PyData.strOk s = true → s.cps.size ≤ 41 → Tame 0 41 (.str s) := fun s a b => Tame.str a b
  have hb := s0 (Str.ofString "begin") (by decide +kernel) (by decide +kernel)
  have he := s0 (Str.ofString "end") (by decide +kernel) (by decide +kernel)
  have hv := s0 (Str.ofString "visit") (by decide +kernel) (by decide +kernel)
  have hk : ∀ mv, Tame 0 41 (.str (kdS mv)) := fun mv => by cases mv <;> exact s0 _ (by decide +kernel) (by decide +kernel)
  have ev : ∀ e ∈ l, Tame 1 210 e.d := fun e m => by
    have s := sm e m
    cases e with
    | beg n mv a b =>
      refine (Tame.tup (n := 0) (w := 41) (xs := [.str (Str.ofString "begin"), .int n, .str (kdS mv), .int a, .int b]) fun d hd => ?_).mono (Nat.le_refl _) (show 5 * 42 ≤ 210 by decide)
      simp only [List.mem_cons, List.not_mem_nil, or_false] at hd
      rcases hd with rfl | rfl | rfl | rfl | rfl
      · exact hb
      · exact int_ _ s.1
      · exact hk mv
      · exact int_ _ (bU _ s.2.1)
      · exact int_ _ (bU _ s.2.2)
    | fin n =>
      refine (Tame.tup (n := 0) (w := 41) (xs := [.str (Str.ofString "end"), .int n]) fun d hd => ?_).mono (Nat.le_refl _) (show 2 * 42 ≤ 210 by decide)
      simp only [List.mem_cons, List.not_mem_nil, or_false] at hd
      rcases hd with rfl | rfl
      · exact he
      · exact int_ _ s
    | vis a =>
      refine (Tame.tup (n := 0) (w := 41) (xs := [.str (Str.ofString "visit"), .int a]) fun d hd => ?_).mono (Nat.le_refl _) (show 2 * 42 ≤ 210 by decide)
      simp only [List.mem_cons, List.not_mem_nil, or_false] at hd
      rcases hd with rfl | rfl
      · exact hv
      · exact int_ _ (bU _ s)
  have t1 : Tame 2 100000 (.lst (o.map D.int)) := (Tame.lst (n := 0) (w := 41) fun d hd => by
    obtain ⟨x, hx, rfl⟩ := List.mem_map.mp hd
    exact int_ x (bU x (oU x hx))).mono (by decide) (by rw [List.length_map]; omega)
  have t2 : Tame 2 100000 (.lst (l.map Ev.d)) := (Tame.lst (n := 1) (w := 210) fun d hd => by
    obtain ⟨e, he, rfl⟩ := List.mem_map.mp hd
    exact ev e he).mono (by decide) (by rw [List.length_map]; omega)
  refine (Tame.lst (n := 2) (w := 100000) (xs := [.lst (o.map D.int), .lst (l.map Ev.d)]) fun d hd => ?_).shown (by decide) (show 2 * 100001 ≤ 2 ^ 20 by decide)
  simp only [List.mem_cons, List.not_mem_nil, or_false] at hd
  rcases hd with rfl | rfl
  · exact t1
  · exact t2
theorem outL_none : (outL [] (dts (m0 []) [] 0)).map D.int = [] := by
  have : ([] : List Int) = outL [] (dts (m0 []) [] 0) := srt_one (List.Perm.refl _) .nil
  rw [← this]
  rfl
theorem outL_31 : (outL [3, 1] (dts (m0 [3, 1]) [] 0)).map D.int = [1, 3].map D.int := by
  have e : ([1, 3] : List Int) = outL [3, 1] (dts (m0 [3, 1]) [] 0) := by
    refine srt_one ((List.perm_ext_iff_of_nodup (by decide) ((ddp_ok [3, 1]).1.sublist List.filter_sublist)).mpr fun k => ?_) (by simp)
    rw [List.mem_filter, (ddp_ok [3, 1]).2 k]
    show k ∈ [1, 3] ↔ k ∈ [3, 1] ∧ (m0 [3, 1] k).isSome = true
    unfold m0
    by_cases z : k ∈ [3, 1]
    · rw [if_pos z]
      simp only [List.mem_cons, List.not_mem_nil, or_false] at z ⊢
      simp
      omega
    · rw [if_neg z]
      simp only [List.mem_cons, List.not_mem_nil, or_false] at z ⊢
      simp
      omega
  rw [← e]
theorem m0_perm {o o' : List Int} (h : o'.Perm o) : m0 o' = m0 o := by
  funext x
  unfold m0
  by_cases z : x ∈ o
  · rw [if_pos z, if_pos (h.symm.subset z)]
  · rw [if_neg z, if_neg (fun w => z (h.subset w))]
section
variable {P : Program} {w : World} {K : PySem.W.Frag} {mg : Str → Option Value} {base : Heap}
def spLaw (K : PySem.W.Frag) : Sp := fun vs H Q _ => ∃ (a : Addr) (ns : List Int), vs = [.ref a] ∧ SqL K H a (ns.map V.int) ∧ ns.length ≤ 63 ∧ ∀ H', Q (.bl true) H'
theorem sc_law : FnScope ["_law_script", "_law_state", "_law_turn", "_law_nodes", "_law_line_here", "_law_origin", "_law_shown", "_law_due", "_law_found", "_law_many"] ["_law_script"] (defScope s_law) := ⟨rfl, rfl, rfl, by decide +kernel, rfl, by decide +kernel, by decide +kernel⟩
theorem law_rest {f : Addr} (T : T0 mg) (HD : HDr P w K mg base) (HA : HasD P w K mg base CX0 4 "_law_areas" ["_law_state", "_law_most"] 2 t_areas) (HLi : HasD P w K mg base CX0 4 "_law_line" ["_law_state", "_law_nodes", "_law_size", "_law_most", "_law_is_free"] 5 t_line)
    (HSo : HasD P w K mg base CX0 4 "_law_some" ["_law_state", "_law_things"] 2 t_some) (HR : HasD P w K mg base CX0 3 "_law_ruled" ["_law_origin", "_law_line_here"] 2 t_ruled) (HDi : HasD P w K mg base CX0 6 "dirty" ["first", "events"] 2 t_dirty)
    (KHDi : HasK P w K mg base CX0 6 "dirty" ["first", "events"] 2 t_dirty 0 ["events", "first"] [1, 0]) (HSh : HasD P w K mg base CX0 3 "_law_shuffled" ["_law_state", "_law_some_here"] 2 t_shuffled) :
    ∃ tb : TDS, (∀ (cdv : Value) (A : Around) (outer : List Env) (s : Shared) (H : Hp) (E : XK), (A.deeper (envOfC "law" (defScope s_law) s.heap.objs.size f cdv)).guards = some [] → Room 7 (A.deeper (envOfC "law" (defScope s_law) s.heap.objs.size f cdv)) →
      ∃ ts, DSs (cxOf CX0 P w K mg base ["_law_script", "_law_state", "_law_turn", "_law_nodes", "_law_line_here", "_law_origin", "_law_shown", "_law_due", "_law_found", "_law_many"] "law" (defScope s_law) f cdv A outer s H E).nox E (defBody s_law).tail ts tb) ∧ tb { nx := fun _ => False, rt := fun r _ => r = .imm (.bl true) } ([.no, .drw] ++ List.replicate 8 .no) noEx := by
  refine ⟨_, fun cdv A outer s H E gd hr => ⟨_, have hu := hu_of hr; (dss_cons (ds_for PassesOwn.never rfl (di_range1 (by rfl) T.range_ (da_cons de_int da_nil)) (dg_name (i := 2) sc_law.nd rfl (Or.inl rfl))
        (dss_cons (ds_set (i := 3) sc_law.nd rfl (Or.inl rfl) (de_callH [false, false] HA gd hr (by decide) (by rfl) pass0 (da_cons (dv 1) (da_cons de_int da_nil))))
          (dss_cons (ds_set (i := 4) sc_law.nd rfl (Or.inl rfl) (de_callH [false, false, false, false, false] HLi gd hr (by decide) (by rfl) pass0 (da_cons (dv 1) (da_cons (dv 3) (da_cons (de_bin (od_add (K := K)) de_int (de_callH [false, false] HD gd hr (by decide) (by rfl) pass0 (da_cons (dv 1) (da_cons de_int da_nil)))) (da_cons de_int (da_cons (de_cmp (od_eq (K := K) hr) (de_callH [false, false] HD gd hr (by decide) (by rfl) pass0 (da_cons (dv 1) (da_cons de_int da_nil))) de_int (nomark _)) da_nil)))))))
          (dss_cons (ds_set (i := 5) sc_law.nd rfl (Or.inl rfl) (de_callH [false, false] HSo gd hr (by decide) (by rfl) pass0 (da_cons (dv 1) (da_cons (dv 3) da_nil))))
          (dss_cons (ds_par (i := 6) (j := 7) (by rfl) sc_law.nd rfl rfl (by decide) rfl rfl (da_cons (de_callB (cd_repr (K := K) gd hr) (by rfl) T.repr_ (by decide +kernel) (da_cons (de_lst false (da_cons (dv 5) (da_cons (dv 4) da_nil))) da_nil)) (da_cons (de_callH [false, false] HR gd hr (by decide) (by rfl) pass0 (da_cons (dv 5) (da_cons (dv 4) da_nil))) da_nil)) (by rfl))
          (dss_cons (ds_set (i := 8) sc_law.nd rfl (Or.inl rfl) (de_callH [false, false] HDi gd hr (by decide) (by rfl) pass0 (da_cons (dv 5) (da_cons (dv 4) da_nil))))
          (dss_cons (ds_if (dt_w (dw_or (dt_cmp (od_ne (K := K) hr) (dv 8) (dv 7) (nomark _)) (dw_or (dt_not (dt_val (de_isi (K := K) (T := "list") (by decide) (dv 8) T.isinstance_ (by rfl) (by rfl) T.list_ (by decide +kernel)))) (dw_or1 (dt_cmp od_neS (de_callB (cd_repr (K := K) gd hr) (by rfl) T.repr_ (by decide +kernel) (da_cons (de_lst false (da_cons (dv 5) (da_cons (dv 4) da_nil))) da_nil)) (dv 6) (nomark _))))))
            (dss_one (ds_ret de_bl))
            dss_nil)
          (dss_cons (ds_if (dt_w (dw_or (dt_cmp (od_ne (K := K) hr) (de_callKH0 [false, false] [1, 0] KHDi gd hr (by decide) (by rfl) pass0 (dk_cons (de_callT (cd_tuple (K := K)) (by rfl) T.tuple_ (by decide +kernel) (da_cons (dv 4) da_nil)) (dk_cons (de_callT (cd_tuple (K := K)) (by rfl) T.tuple_ (by decide +kernel) (da_cons (dv 5) da_nil)) dk_nil))) (dv 7) (nomark _)) (dw_or1 (dt_cmp (od_ne (K := K) hr) (de_callH [false, false] HDi gd hr (by decide) (by rfl) pass0 (da_cons (de_callH [false, false] HSh gd hr (by decide) (by rfl) pass0 (da_cons (dv 1) (da_cons (dv 5) da_nil))) (da_cons (dv 4) da_nil))) (dv 7) (nomark _)))))
            (dss_one (ds_ret de_bl))
            dss_nil)
          (dss_one (ds_for PassesOwn.never rfl (di_range1 (by rfl) T.range_ (da_cons (de_callB (cd_len (K := K)) (by rfl) T.len_ (by decide +kernel) (da_cons (dv 4) da_nil)) da_nil)) (dg_name (i := 9) sc_law.nd rfl (Or.inl rfl))
            (dss_one (ds_if (dt_cmp (od_ne (K := K) hr) (de_callH [false, false] HDi gd hr (by decide) (by rfl) pass0 (da_cons (dv 5) (da_cons (de_slice (K := K) (dv 4) do_none (do_some (dv 9))) da_nil))) (de_callH [false, false] HR gd hr (by decide) (by rfl) pass0 (da_cons (dv 5) (da_cons (de_slice (K := K) (dv 4) do_none (do_some (dv 9))) da_nil))) (nomark _))
                (dss_one (ds_ret de_bl))
                dss_nil))))))))))))
      (dss_one (ds_ret (de_and (de_cmp (od_eq (K := K) hr) (de_callH [false, false] HDi gd hr (by decide) (by rfl) pass0 (da_cons (de_lst false da_nil) (da_cons (de_lst false da_nil) da_nil))) (de_lst false da_nil) (nomark _)) (de_one (de_cmp (od_eq (K := K) hr) (de_callH [false, false] HDi gd hr (by decide) (by rfl) pass0 (da_cons (de_lst false (da_cons de_int (da_cons de_int da_nil))) (da_cons (de_lst false da_nil) da_nil))) (de_lst false (da_cons de_int (da_cons de_int da_nil))) (nomark _)))))))⟩, ?_⟩

  simp only [dBody, dSeq, dNext, dBreak, dCont, dDrop, dRet, dRetN, dIfS, dAsg, dgName, dgNil, dgsName, dgsPut, dgUn, dPar, dPar3, dVar, dC, dTake, dFrz, mkS, dBin, dBinO, dTest, dTru, dUn, dIsN, isNonB, dAnd, dOr, dNot, dAndV, dOrV, dNotV, asB, dIf, cnd, dNil, dCons, dTup, dLst, dNewD, dSub, dSl, dSlO, dNoPart, dPart, dIsi, dCallB, dCallO, wds, sds, wd, sd, rsv, Sl.dat, stv, notPar, Sl.with_, dCall, dCallK, argC, arC, useS, kindsB, Ar.sl, cond, ownL, ownD, upS, dLM, dLM0, isOwnL, isOwnD, dPop1, dPop2, dGet1, dGet2, isDct, dDput, dLput, dLput.known, dFld, dMth, dMth0, tyOk, dChain, dAugI, List.map_cons, List.map_nil, List.cons_append, List.nil_append, List.append_nil, List.length_cons, List.length_nil, List.replicate, List.getElem?_cons_zero, List.getElem?_cons_succ, List.getElem?_nil, List.set_cons_zero, List.set_cons_succ, Option.getD_some, Option.getD_none, Nat.reduceAdd, Nat.reduceSub, dNever, dYes, Nat.zero_le, dLc, dG, dSeqI, dOwnI, dLcD, dctS, dDc, dDcD, dFor, dForD, dRng1, dRng2, dEnum, noPar, wipeD, eqW, neW, D.key, itemsOf, keysOf, valsOf, gdT, isTy, tyD, notIns, List.any_cons, List.any_nil, Bool.or_false, Bool.or_true, Bool.true_or, Bool.false_or, Bool.not_true, Bool.not_false, String.reduceBEq, beq_self_eq_true, true_and, and_true, selN, sel, List.filterMap_cons, List.filterMap_nil, backR, back1, cleanR, clean1, clnR, List.tail_cons, List.head?_cons, List.not_mem_nil, false_implies, implies_true, List.nodup_nil, List.nodup_cons, not_false_eq_true, Ev.len_lst, Ev.len_tup, Ev.len_dct, Ev.len_set, Ev.len_str, Ev.add_int, Ev.add_str, Ev.add_tup, Ev.add_lst, Ev.mul_int, Ev.mul_lst, Ev.sub_lst, Ev.sub_tup, Ev.sub_str, Ev.sub_dctI, Ev.sub_dctS, Ev.cut_lst, Ev.cut_tup, Ev.cutL_lst, Ev.in_lst, Ev.in_tup, Ev.in_dctI, Ev.in_dctS, Ev.wI0_int, Ev.wII_int, Ev.neg_int, Ev.index_lst, Ev.set_lst, Ev.set_tup, Ev.all_lst, Ev.any_lst, Ev.list_lst, Ev.list_tup, Ev.list_dct, Ev.repr_one, Ev.dict_lst, Ev.tup_lst, Ev.tup_tup, Ev.append_one, Ev.pop_none, Ev.popAt_one, Ev.clear_none, Ev.extend_one, Ev.remove_one, Ev.seq_lst, Ev.seq_tup, Ev.enum_lst, Ev.enum_tup, Ev.int1_int, Ev.int2_int, Ev.int_int, Ev.max_int, Ev.min_int, Ev.opt_some, Ev.tru_lst, Ev.tru_tup, Ev.tru_int, Ev.par_imm, Ev.par_own, Ev.par_no, Ev.par_drw]
  refine ⟨by decide, by decide, ?_⟩
  refine for_ind (fun j ρ => ∃ x2 x3 x4 x5 x6 x7 x8 x9 : Sl, ρ = [.no, .drw, x2, x3, x4, x5, x6, x7, x8, x9] ∧ x2.isPar = false ∧ x3.isPar = false ∧ x4.isPar = false ∧ x5.isPar = false ∧ x6.isPar = false ∧ x7.isPar = false ∧ x8.isPar = false ∧ x9.isPar = false) ⟨_, _, _, _, _, _, _, _, rfl, rfl, rfl, rfl, rfl, rfl, rfl, rfl, rfl⟩ ?_ ?_
  · rintro j d ρ N ed ⟨x2, x3, x4, x5, x6, x7, x8, x9, rfl, p2, p3, p4, p5, p6, p7, p8, p9⟩ hN
    simp (maxSteps := 4000000) only [dBody, dSeq, dNext, dBreak, dCont, dDrop, dRet, dRetN, dIfS, dAsg, dgName, dgNil, dgsName, dgsPut, dgUn, dPar, dPar3, dVar, dC, dTake, dFrz, mkS, dBin, dBinO, dTest, dTru, dUn, dIsN, isNonB, dAnd, dOr, dNot, dAndV, dOrV, dNotV, asB, dIf, cnd, dNil, dCons, dTup, dLst, dNewD, dSub, dSl, dSlO, dNoPart, dPart, dIsi, dCallB, dCallO, wds, sds, wd, sd, rsv, Sl.dat, stv, notPar, Sl.with_, dCall, dCallK, argC, arC, useS, kindsB, Ar.sl, cond, ownL, ownD, upS, dLM, dLM0, isOwnL, isOwnD, dPop1, dPop2, dGet1, dGet2, isDct, dDput, dLput, dLput.known, dFld, dMth, dMth0, tyOk, dChain, dAugI, List.map_cons, List.map_nil, List.cons_append, List.nil_append, List.append_nil, List.length_cons, List.length_nil, List.replicate, List.getElem?_cons_zero, List.getElem?_cons_succ, List.getElem?_nil, List.set_cons_zero, List.set_cons_succ, Option.getD_some, Option.getD_none, Nat.reduceAdd, Nat.reduceSub, dNever, dYes, Nat.zero_le, dLc, dG, dSeqI, dOwnI, dLcD, dctS, dDc, dDcD, dFor, dForD, dRng1, dRng2, dEnum, noPar, wipeD, eqW, neW, D.key, itemsOf, keysOf, valsOf, gdT, isTy, tyD, notIns, List.any_cons, List.any_nil, Bool.or_false, Bool.or_true, Bool.true_or, Bool.false_or, Bool.not_true, Bool.not_false, String.reduceBEq, beq_self_eq_true, true_and, and_true, selN, sel, List.filterMap_cons, List.filterMap_nil, backR, back1, cleanR, clean1, clnR, List.tail_cons, List.head?_cons, List.not_mem_nil, false_implies, implies_true, List.nodup_nil, List.nodup_cons, not_false_eq_true, Ev.len_lst, Ev.len_tup, Ev.len_dct, Ev.len_set, Ev.len_str, Ev.add_int, Ev.add_str, Ev.add_tup, Ev.add_lst, Ev.mul_int, Ev.mul_lst, Ev.sub_lst, Ev.sub_tup, Ev.sub_str, Ev.sub_dctI, Ev.sub_dctS, Ev.cut_lst, Ev.cut_tup, Ev.cutL_lst, Ev.in_lst, Ev.in_tup, Ev.in_dctI, Ev.in_dctS, Ev.wI0_int, Ev.wII_int, Ev.neg_int, Ev.index_lst, Ev.set_lst, Ev.set_tup, Ev.all_lst, Ev.any_lst, Ev.list_lst, Ev.list_tup, Ev.list_dct, Ev.repr_one, Ev.dict_lst, Ev.tup_lst, Ev.tup_tup, Ev.append_one, Ev.pop_none, Ev.popAt_one, Ev.clear_none, Ev.extend_one, Ev.remove_one, Ev.seq_lst, Ev.seq_tup, Ev.enum_lst, Ev.enum_tup, Ev.int1_int, Ev.int2_int, Ev.int_int, Ev.max_int, Ev.min_int, Ev.opt_some, Ev.tru_lst, Ev.tru_tup, Ev.tru_int, Ev.par_imm, Ev.par_own, Ev.par_no, Ev.par_drw]
    refine ⟨p2, 6, rfl, by decide, by decide, fun U ρ1 ndU u2 u12 bdU => ?_⟩
    simp (maxSteps := 4000000) only [dBody, dSeq, dNext, dBreak, dCont, dDrop, dRet, dRetN, dIfS, dAsg, dgName, dgNil, dgsName, dgsPut, dgUn, dPar, dPar3, dVar, dC, dTake, dFrz, mkS, dBin, dBinO, dTest, dTru, dUn, dIsN, isNonB, dAnd, dOr, dNot, dAndV, dOrV, dNotV, asB, dIf, cnd, dNil, dCons, dTup, dLst, dNewD, dSub, dSl, dSlO, dNoPart, dPart, dIsi, dCallB, dCallO, wds, sds, wd, sd, rsv, Sl.dat, stv, notPar, Sl.with_, dCall, dCallK, argC, arC, useS, kindsB, Ar.sl, cond, ownL, ownD, upS, dLM, dLM0, isOwnL, isOwnD, dPop1, dPop2, dGet1, dGet2, isDct, dDput, dLput, dLput.known, dFld, dMth, dMth0, tyOk, dChain, dAugI, List.map_cons, List.map_nil, List.cons_append, List.nil_append, List.append_nil, List.length_cons, List.length_nil, List.replicate, List.getElem?_cons_zero, List.getElem?_cons_succ, List.getElem?_nil, List.set_cons_zero, List.set_cons_succ, Option.getD_some, Option.getD_none, Nat.reduceAdd, Nat.reduceSub, dNever, dYes, Nat.zero_le, dLc, dG, dSeqI, dOwnI, dLcD, dctS, dDc, dDcD, dFor, dForD, dRng1, dRng2, dEnum, noPar, wipeD, eqW, neW, D.key, itemsOf, keysOf, valsOf, gdT, isTy, tyD, notIns, List.any_cons, List.any_nil, Bool.or_false, Bool.or_true, Bool.true_or, Bool.false_or, Bool.not_true, Bool.not_false, String.reduceBEq, beq_self_eq_true, true_and, and_true, selN, sel, List.filterMap_cons, List.filterMap_nil, backR, back1, cleanR, clean1, clnR, List.tail_cons, List.head?_cons, List.not_mem_nil, false_implies, implies_true, List.nodup_nil, List.nodup_cons, not_false_eq_true, Ev.len_lst, Ev.len_tup, Ev.len_dct, Ev.len_set, Ev.len_str, Ev.add_int, Ev.add_str, Ev.add_tup, Ev.add_lst, Ev.mul_int, Ev.mul_lst, Ev.sub_lst, Ev.sub_tup, Ev.sub_str, Ev.sub_dctI, Ev.sub_dctS, Ev.cut_lst, Ev.cut_tup, Ev.cutL_lst, Ev.in_lst, Ev.in_tup, Ev.in_dctI, Ev.in_dctS, Ev.wI0_int, Ev.wII_int, Ev.neg_int, Ev.index_lst, Ev.set_lst, Ev.set_tup, Ev.all_lst, Ev.any_lst, Ev.list_lst, Ev.list_tup, Ev.list_dct, Ev.repr_one, Ev.dict_lst, Ev.tup_lst, Ev.tup_tup, Ev.append_one, Ev.pop_none, Ev.popAt_one, Ev.clear_none, Ev.extend_one, Ev.remove_one, Ev.seq_lst, Ev.seq_tup, Ev.enum_lst, Ev.enum_tup, Ev.int1_int, Ev.int2_int, Ev.int_int, Ev.max_int, Ev.min_int, Ev.opt_some, Ev.tru_lst, Ev.tru_tup, Ev.tru_int, Ev.par_imm, Ev.par_own, Ev.par_no, Ev.par_drw]
    refine ⟨p3, _, rfl, by decide, by decide, fun z ρ2 z0 z1 => ?_⟩
    simp (maxSteps := 4000000) only [dBody, dSeq, dNext, dBreak, dCont, dDrop, dRet, dRetN, dIfS, dAsg, dgName, dgNil, dgsName, dgsPut, dgUn, dPar, dPar3, dVar, dC, dTake, dFrz, mkS, dBin, dBinO, dTest, dTru, dUn, dIsN, isNonB, dAnd, dOr, dNot, dAndV, dOrV, dNotV, asB, dIf, cnd, dNil, dCons, dTup, dLst, dNewD, dSub, dSl, dSlO, dNoPart, dPart, dIsi, dCallB, dCallO, wds, sds, wd, sd, rsv, Sl.dat, stv, notPar, Sl.with_, dCall, dCallK, argC, arC, useS, kindsB, Ar.sl, cond, ownL, ownD, upS, dLM, dLM0, isOwnL, isOwnD, dPop1, dPop2, dGet1, dGet2, isDct, dDput, dLput, dLput.known, dFld, dMth, dMth0, tyOk, dChain, dAugI, List.map_cons, List.map_nil, List.cons_append, List.nil_append, List.append_nil, List.length_cons, List.length_nil, List.replicate, List.getElem?_cons_zero, List.getElem?_cons_succ, List.getElem?_nil, List.set_cons_zero, List.set_cons_succ, Option.getD_some, Option.getD_none, Nat.reduceAdd, Nat.reduceSub, dNever, dYes, Nat.zero_le, dLc, dG, dSeqI, dOwnI, dLcD, dctS, dDc, dDcD, dFor, dForD, dRng1, dRng2, dEnum, noPar, wipeD, eqW, neW, D.key, itemsOf, keysOf, valsOf, gdT, isTy, tyD, notIns, List.any_cons, List.any_nil, Bool.or_false, Bool.or_true, Bool.true_or, Bool.false_or, Bool.not_true, Bool.not_false, String.reduceBEq, beq_self_eq_true, true_and, and_true, selN, sel, List.filterMap_cons, List.filterMap_nil, backR, back1, cleanR, clean1, clnR, List.tail_cons, List.head?_cons, List.not_mem_nil, false_implies, implies_true, List.nodup_nil, List.nodup_cons, not_false_eq_true, Ev.len_lst, Ev.len_tup, Ev.len_dct, Ev.len_set, Ev.len_str, Ev.add_int, Ev.add_str, Ev.add_tup, Ev.add_lst, Ev.mul_int, Ev.mul_lst, Ev.sub_lst, Ev.sub_tup, Ev.sub_str, Ev.sub_dctI, Ev.sub_dctS, Ev.cut_lst, Ev.cut_tup, Ev.cutL_lst, Ev.in_lst, Ev.in_tup, Ev.in_dctI, Ev.in_dctS, Ev.wI0_int, Ev.wII_int, Ev.neg_int, Ev.index_lst, Ev.set_lst, Ev.set_tup, Ev.all_lst, Ev.any_lst, Ev.list_lst, Ev.list_tup, Ev.list_dct, Ev.repr_one, Ev.dict_lst, Ev.tup_lst, Ev.tup_tup, Ev.append_one, Ev.pop_none, Ev.popAt_one, Ev.clear_none, Ev.extend_one, Ev.remove_one, Ev.seq_lst, Ev.seq_tup, Ev.enum_lst, Ev.enum_tup, Ev.int1_int, Ev.int2_int, Ev.int_int, Ev.max_int, Ev.min_int, Ev.opt_some, Ev.tru_lst, Ev.tru_tup, Ev.tru_int, Ev.par_imm, Ev.par_own, Ev.par_no, Ev.par_drw]
    refine ⟨_, rfl, by decide, by decide, fun y ρ3 y0 y1 => ?_⟩
    simp (maxSteps := 4000000) only [dBody, dSeq, dNext, dBreak, dCont, dDrop, dRet, dRetN, dIfS, dAsg, dgName, dgNil, dgsName, dgsPut, dgUn, dPar, dPar3, dVar, dC, dTake, dFrz, mkS, dBin, dBinO, dTest, dTru, dUn, dIsN, isNonB, dAnd, dOr, dNot, dAndV, dOrV, dNotV, asB, dIf, cnd, dNil, dCons, dTup, dLst, dNewD, dSub, dSl, dSlO, dNoPart, dPart, dIsi, dCallB, dCallO, wds, sds, wd, sd, rsv, Sl.dat, stv, notPar, Sl.with_, dCall, dCallK, argC, arC, useS, kindsB, Ar.sl, cond, ownL, ownD, upS, dLM, dLM0, isOwnL, isOwnD, dPop1, dPop2, dGet1, dGet2, isDct, dDput, dLput, dLput.known, dFld, dMth, dMth0, tyOk, dChain, dAugI, List.map_cons, List.map_nil, List.cons_append, List.nil_append, List.append_nil, List.length_cons, List.length_nil, List.replicate, List.getElem?_cons_zero, List.getElem?_cons_succ, List.getElem?_nil, List.set_cons_zero, List.set_cons_succ, Option.getD_some, Option.getD_none, Nat.reduceAdd, Nat.reduceSub, dNever, dYes, Nat.zero_le, dLc, dG, dSeqI, dOwnI, dLcD, dctS, dDc, dDcD, dFor, dForD, dRng1, dRng2, dEnum, noPar, wipeD, eqW, neW, D.key, itemsOf, keysOf, valsOf, gdT, isTy, tyD, notIns, List.any_cons, List.any_nil, Bool.or_false, Bool.or_true, Bool.true_or, Bool.false_or, Bool.not_true, Bool.not_false, String.reduceBEq, beq_self_eq_true, true_and, and_true, selN, sel, List.filterMap_cons, List.filterMap_nil, backR, back1, cleanR, clean1, clnR, List.tail_cons, List.head?_cons, List.not_mem_nil, false_implies, implies_true, List.nodup_nil, List.nodup_cons, not_false_eq_true, Ev.len_lst, Ev.len_tup, Ev.len_dct, Ev.len_set, Ev.len_str, Ev.add_int, Ev.add_str, Ev.add_tup, Ev.add_lst, Ev.mul_int, Ev.mul_lst, Ev.sub_lst, Ev.sub_tup, Ev.sub_str, Ev.sub_dctI, Ev.sub_dctS, Ev.cut_lst, Ev.cut_tup, Ev.cutL_lst, Ev.in_lst, Ev.in_tup, Ev.in_dctI, Ev.in_dctS, Ev.wI0_int, Ev.wII_int, Ev.neg_int, Ev.index_lst, Ev.set_lst, Ev.set_tup, Ev.all_lst, Ev.any_lst, Ev.list_lst, Ev.list_tup, Ev.list_dct, Ev.repr_one, Ev.dict_lst, Ev.tup_lst, Ev.tup_tup, Ev.append_one, Ev.pop_none, Ev.popAt_one, Ev.clear_none, Ev.extend_one, Ev.remove_one, Ev.seq_lst, Ev.seq_tup, Ev.enum_lst, Ev.enum_tup, Ev.int1_int, Ev.int2_int, Ev.int_int, Ev.max_int, Ev.min_int, Ev.opt_some, Ev.tru_lst, Ev.tru_tup, Ev.tru_int, Ev.par_imm, Ev.par_own, Ev.par_no, Ev.par_drw]
    refine ⟨ok_int _, ok_int _, U, 6 + z, _, rfl, ndU, u2, u12, by omega, by omega, fun l ρ4 gl sml ll => ?_⟩
    have l16 : l.length ≤ 16 := by omega
    simp (maxSteps := 4000000) only [dBody, dSeq, dNext, dBreak, dCont, dDrop, dRet, dRetN, dIfS, dAsg, dgName, dgNil, dgsName, dgsPut, dgUn, dPar, dPar3, dVar, dC, dTake, dFrz, mkS, dBin, dBinO, dTest, dTru, dUn, dIsN, isNonB, dAnd, dOr, dNot, dAndV, dOrV, dNotV, asB, dIf, cnd, dNil, dCons, dTup, dLst, dNewD, dSub, dSl, dSlO, dNoPart, dPart, dIsi, dCallB, dCallO, wds, sds, wd, sd, rsv, Sl.dat, stv, notPar, Sl.with_, dCall, dCallK, argC, arC, useS, kindsB, Ar.sl, cond, ownL, ownD, upS, dLM, dLM0, isOwnL, isOwnD, dPop1, dPop2, dGet1, dGet2, isDct, dDput, dLput, dLput.known, dFld, dMth, dMth0, tyOk, dChain, dAugI, List.map_cons, List.map_nil, List.cons_append, List.nil_append, List.append_nil, List.length_cons, List.length_nil, List.replicate, List.getElem?_cons_zero, List.getElem?_cons_succ, List.getElem?_nil, List.set_cons_zero, List.set_cons_succ, Option.getD_some, Option.getD_none, Nat.reduceAdd, Nat.reduceSub, dNever, dYes, Nat.zero_le, dLc, dG, dSeqI, dOwnI, dLcD, dctS, dDc, dDcD, dFor, dForD, dRng1, dRng2, dEnum, noPar, wipeD, eqW, neW, D.key, itemsOf, keysOf, valsOf, gdT, isTy, tyD, notIns, List.any_cons, List.any_nil, Bool.or_false, Bool.or_true, Bool.true_or, Bool.false_or, Bool.not_true, Bool.not_false, String.reduceBEq, beq_self_eq_true, true_and, and_true, selN, sel, List.filterMap_cons, List.filterMap_nil, backR, back1, cleanR, clean1, clnR, List.tail_cons, List.head?_cons, List.not_mem_nil, false_implies, implies_true, List.nodup_nil, List.nodup_cons, not_false_eq_true, Ev.len_lst, Ev.len_tup, Ev.len_dct, Ev.len_set, Ev.len_str, Ev.add_int, Ev.add_str, Ev.add_tup, Ev.add_lst, Ev.mul_int, Ev.mul_lst, Ev.sub_lst, Ev.sub_tup, Ev.sub_str, Ev.sub_dctI, Ev.sub_dctS, Ev.cut_lst, Ev.cut_tup, Ev.cutL_lst, Ev.in_lst, Ev.in_tup, Ev.in_dctI, Ev.in_dctS, Ev.wI0_int, Ev.wII_int, Ev.neg_int, Ev.index_lst, Ev.set_lst, Ev.set_tup, Ev.all_lst, Ev.any_lst, Ev.list_lst, Ev.list_tup, Ev.list_dct, Ev.repr_one, Ev.dict_lst, Ev.tup_lst, Ev.tup_tup, Ev.append_one, Ev.pop_none, Ev.popAt_one, Ev.clear_none, Ev.extend_one, Ev.remove_one, Ev.seq_lst, Ev.seq_tup, Ev.enum_lst, Ev.enum_tup, Ev.int1_int, Ev.int2_int, Ev.int_int, Ev.max_int, Ev.min_int, Ev.opt_some, Ev.tru_lst, Ev.tru_tup, Ev.tru_int, Ev.par_imm, Ev.par_own, Ev.par_no, Ev.par_drw]
    refine ⟨p4, U, rfl, by omega, ndU, fun o ρ5 ndo oU => ?_⟩
    have lo : o.length ≤ 12 := Nat.le_trans (nodup_le ndo oU) u12
    have sh := tame_line oU bdU sml (by omega) (by omega)
    simp (maxSteps := 4000000) only [dBody, dSeq, dNext, dBreak, dCont, dDrop, dRet, dRetN, dIfS, dAsg, dgName, dgNil, dgsName, dgsPut, dgUn, dPar, dPar3, dVar, dC, dTake, dFrz, mkS, dBin, dBinO, dTest, dTru, dUn, dIsN, isNonB, dAnd, dOr, dNot, dAndV, dOrV, dNotV, asB, dIf, cnd, dNil, dCons, dTup, dLst, dNewD, dSub, dSl, dSlO, dNoPart, dPart, dIsi, dCallB, dCallO, wds, sds, wd, sd, rsv, Sl.dat, stv, notPar, Sl.with_, dCall, dCallK, argC, arC, useS, kindsB, Ar.sl, cond, ownL, ownD, upS, dLM, dLM0, isOwnL, isOwnD, dPop1, dPop2, dGet1, dGet2, isDct, dDput, dLput, dLput.known, dFld, dMth, dMth0, tyOk, dChain, dAugI, List.map_cons, List.map_nil, List.cons_append, List.nil_append, List.append_nil, List.length_cons, List.length_nil, List.replicate, List.getElem?_cons_zero, List.getElem?_cons_succ, List.getElem?_nil, List.set_cons_zero, List.set_cons_succ, Option.getD_some, Option.getD_none, Nat.reduceAdd, Nat.reduceSub, dNever, dYes, Nat.zero_le, dLc, dG, dSeqI, dOwnI, dLcD, dctS, dDc, dDcD, dFor, dForD, dRng1, dRng2, dEnum, noPar, wipeD, eqW, neW, D.key, itemsOf, keysOf, valsOf, gdT, isTy, tyD, notIns, List.any_cons, List.any_nil, Bool.or_false, Bool.or_true, Bool.true_or, Bool.false_or, Bool.not_true, Bool.not_false, String.reduceBEq, beq_self_eq_true, true_and, and_true, selN, sel, List.filterMap_cons, List.filterMap_nil, backR, back1, cleanR, clean1, clnR, List.tail_cons, List.head?_cons, List.not_mem_nil, false_implies, implies_true, List.nodup_nil, List.nodup_cons, not_false_eq_true, Ev.len_lst, Ev.len_tup, Ev.len_dct, Ev.len_set, Ev.len_str, Ev.add_int, Ev.add_str, Ev.add_tup, Ev.add_lst, Ev.mul_int, Ev.mul_lst, Ev.sub_lst, Ev.sub_tup, Ev.sub_str, Ev.sub_dctI, Ev.sub_dctS, Ev.cut_lst, Ev.cut_tup, Ev.cutL_lst, Ev.in_lst, Ev.in_tup, Ev.in_dctI, Ev.in_dctS, Ev.wI0_int, Ev.wII_int, Ev.neg_int, Ev.index_lst, Ev.set_lst, Ev.set_tup, Ev.all_lst, Ev.any_lst, Ev.list_lst, Ev.list_tup, Ev.list_dct, Ev.repr_one, Ev.dict_lst, Ev.tup_lst, Ev.tup_tup, Ev.append_one, Ev.pop_none, Ev.popAt_one, Ev.clear_none, Ev.extend_one, Ev.remove_one, Ev.seq_lst, Ev.seq_tup, Ev.enum_lst, Ev.enum_tup, Ev.int1_int, Ev.int2_int, Ev.int_int, Ev.max_int, Ev.min_int, Ev.opt_some, Ev.tru_lst, Ev.tru_tup, Ev.tru_int, Ev.par_imm, Ev.par_own, Ev.par_no, Ev.par_drw]
    refine ⟨p5, by decide, sh, o, U, l, rfl, gl, sml, oU, by omega, by omega, by omega, fun ρ6 => ?_⟩
    simp (maxSteps := 4000000) only [dBody, dSeq, dNext, dBreak, dCont, dDrop, dRet, dRetN, dIfS, dAsg, dgName, dgNil, dgsName, dgsPut, dgUn, dPar, dPar3, dVar, dC, dTake, dFrz, mkS, dBin, dBinO, dTest, dTru, dUn, dIsN, isNonB, dAnd, dOr, dNot, dAndV, dOrV, dNotV, asB, dIf, cnd, dNil, dCons, dTup, dLst, dNewD, dSub, dSl, dSlO, dNoPart, dPart, dIsi, dCallB, dCallO, wds, sds, wd, sd, rsv, Sl.dat, stv, notPar, Sl.with_, dCall, dCallK, argC, arC, useS, kindsB, Ar.sl, cond, ownL, ownD, upS, dLM, dLM0, isOwnL, isOwnD, dPop1, dPop2, dGet1, dGet2, isDct, dDput, dLput, dLput.known, dFld, dMth, dMth0, tyOk, dChain, dAugI, List.map_cons, List.map_nil, List.cons_append, List.nil_append, List.append_nil, List.length_cons, List.length_nil, List.replicate, List.getElem?_cons_zero, List.getElem?_cons_succ, List.getElem?_nil, List.set_cons_zero, List.set_cons_succ, Option.getD_some, Option.getD_none, Nat.reduceAdd, Nat.reduceSub, dNever, dYes, Nat.zero_le, dLc, dG, dSeqI, dOwnI, dLcD, dctS, dDc, dDcD, dFor, dForD, dRng1, dRng2, dEnum, noPar, wipeD, eqW, neW, D.key, itemsOf, keysOf, valsOf, gdT, isTy, tyD, notIns, List.any_cons, List.any_nil, Bool.or_false, Bool.or_true, Bool.true_or, Bool.false_or, Bool.not_true, Bool.not_false, String.reduceBEq, beq_self_eq_true, true_and, and_true, selN, sel, List.filterMap_cons, List.filterMap_nil, backR, back1, cleanR, clean1, clnR, List.tail_cons, List.head?_cons, List.not_mem_nil, false_implies, implies_true, List.nodup_nil, List.nodup_cons, not_false_eq_true, Ev.len_lst, Ev.len_tup, Ev.len_dct, Ev.len_set, Ev.len_str, Ev.add_int, Ev.add_str, Ev.add_tup, Ev.add_lst, Ev.mul_int, Ev.mul_lst, Ev.sub_lst, Ev.sub_tup, Ev.sub_str, Ev.sub_dctI, Ev.sub_dctS, Ev.cut_lst, Ev.cut_tup, Ev.cutL_lst, Ev.in_lst, Ev.in_tup, Ev.in_dctI, Ev.in_dctS, Ev.wI0_int, Ev.wII_int, Ev.neg_int, Ev.index_lst, Ev.set_lst, Ev.set_tup, Ev.all_lst, Ev.any_lst, Ev.list_lst, Ev.list_tup, Ev.list_dct, Ev.repr_one, Ev.dict_lst, Ev.tup_lst, Ev.tup_tup, Ev.append_one, Ev.pop_none, Ev.popAt_one, Ev.clear_none, Ev.extend_one, Ev.remove_one, Ev.seq_lst, Ev.seq_tup, Ev.enum_lst, Ev.enum_tup, Ev.int1_int, Ev.int2_int, Ev.int_int, Ev.max_int, Ev.min_int, Ev.opt_some, Ev.tru_lst, Ev.tru_tup, Ev.tru_int, Ev.par_imm, Ev.par_own, Ev.par_no, Ev.par_drw]
    refine ⟨p6, p7, _, _, o, U, l, rfl, .inl rfl, .inl rfl, ndo, gl, sml, oU, by omega, by omega, by omega, fun ρ7 => ?_⟩
    simp (maxSteps := 4000000) only [dBody, dSeq, dNext, dBreak, dCont, dDrop, dRet, dRetN, dIfS, dAsg, dgName, dgNil, dgsName, dgsPut, dgUn, dPar, dPar3, dVar, dC, dTake, dFrz, mkS, dBin, dBinO, dTest, dTru, dUn, dIsN, isNonB, dAnd, dOr, dNot, dAndV, dOrV, dNotV, asB, dIf, cnd, dNil, dCons, dTup, dLst, dNewD, dSub, dSl, dSlO, dNoPart, dPart, dIsi, dCallB, dCallO, wds, sds, wd, sd, rsv, Sl.dat, stv, notPar, Sl.with_, dCall, dCallK, argC, arC, useS, kindsB, Ar.sl, cond, ownL, ownD, upS, dLM, dLM0, isOwnL, isOwnD, dPop1, dPop2, dGet1, dGet2, isDct, dDput, dLput, dLput.known, dFld, dMth, dMth0, tyOk, dChain, dAugI, List.map_cons, List.map_nil, List.cons_append, List.nil_append, List.append_nil, List.length_cons, List.length_nil, List.replicate, List.getElem?_cons_zero, List.getElem?_cons_succ, List.getElem?_nil, List.set_cons_zero, List.set_cons_succ, Option.getD_some, Option.getD_none, Nat.reduceAdd, Nat.reduceSub, dNever, dYes, Nat.zero_le, dLc, dG, dSeqI, dOwnI, dLcD, dctS, dDc, dDcD, dFor, dForD, dRng1, dRng2, dEnum, noPar, wipeD, eqW, neW, D.key, itemsOf, keysOf, valsOf, gdT, isTy, tyD, notIns, List.any_cons, List.any_nil, Bool.or_false, Bool.or_true, Bool.true_or, Bool.false_or, Bool.not_true, Bool.not_false, String.reduceBEq, beq_self_eq_true, true_and, and_true, selN, sel, List.filterMap_cons, List.filterMap_nil, backR, back1, cleanR, clean1, clnR, List.tail_cons, List.head?_cons, List.not_mem_nil, false_implies, implies_true, List.nodup_nil, List.nodup_cons, not_false_eq_true, Ev.len_lst, Ev.len_tup, Ev.len_dct, Ev.len_set, Ev.len_str, Ev.add_int, Ev.add_str, Ev.add_tup, Ev.add_lst, Ev.mul_int, Ev.mul_lst, Ev.sub_lst, Ev.sub_tup, Ev.sub_str, Ev.sub_dctI, Ev.sub_dctS, Ev.cut_lst, Ev.cut_tup, Ev.cutL_lst, Ev.in_lst, Ev.in_tup, Ev.in_dctI, Ev.in_dctS, Ev.wI0_int, Ev.wII_int, Ev.neg_int, Ev.index_lst, Ev.set_lst, Ev.set_tup, Ev.all_lst, Ev.any_lst, Ev.list_lst, Ev.list_tup, Ev.list_dct, Ev.repr_one, Ev.dict_lst, Ev.tup_lst, Ev.tup_tup, Ev.append_one, Ev.pop_none, Ev.popAt_one, Ev.clear_none, Ev.extend_one, Ev.remove_one, Ev.seq_lst, Ev.seq_tup, Ev.enum_lst, Ev.enum_tup, Ev.int1_int, Ev.int2_int, Ev.int_int, Ev.max_int, Ev.min_int, Ev.opt_some, Ev.tru_lst, Ev.tru_tup, Ev.tru_int, Ev.par_imm, Ev.par_own, Ev.par_no, Ev.par_drw]
    refine ⟨p8, okD_ints _, okD_ints _, ?_⟩
    rw [deq_same (okD_ints _)]
    simp (maxSteps := 4000000) only [dBody, dSeq, dNext, dBreak, dCont, dDrop, dRet, dRetN, dIfS, dAsg, dgName, dgNil, dgsName, dgsPut, dgUn, dPar, dPar3, dVar, dC, dTake, dFrz, mkS, dBin, dBinO, dTest, dTru, dUn, dIsN, isNonB, dAnd, dOr, dNot, dAndV, dOrV, dNotV, asB, dIf, cnd, dNil, dCons, dTup, dLst, dNewD, dSub, dSl, dSlO, dNoPart, dPart, dIsi, dCallB, dCallO, wds, sds, wd, sd, rsv, Sl.dat, stv, notPar, Sl.with_, dCall, dCallK, argC, arC, useS, kindsB, Ar.sl, cond, ownL, ownD, upS, dLM, dLM0, isOwnL, isOwnD, dPop1, dPop2, dGet1, dGet2, isDct, dDput, dLput, dLput.known, dFld, dMth, dMth0, tyOk, dChain, dAugI, List.map_cons, List.map_nil, List.cons_append, List.nil_append, List.append_nil, List.length_cons, List.length_nil, List.replicate, List.getElem?_cons_zero, List.getElem?_cons_succ, List.getElem?_nil, List.set_cons_zero, List.set_cons_succ, Option.getD_some, Option.getD_none, Nat.reduceAdd, Nat.reduceSub, dNever, dYes, Nat.zero_le, dLc, dG, dSeqI, dOwnI, dLcD, dctS, dDc, dDcD, dFor, dForD, dRng1, dRng2, dEnum, noPar, wipeD, eqW, neW, D.key, itemsOf, keysOf, valsOf, gdT, isTy, tyD, notIns, List.any_cons, List.any_nil, Bool.or_false, Bool.or_true, Bool.true_or, Bool.false_or, Bool.not_true, Bool.not_false, String.reduceBEq, beq_self_eq_true, true_and, and_true, selN, sel, List.filterMap_cons, List.filterMap_nil, backR, back1, cleanR, clean1, clnR, List.tail_cons, List.head?_cons, List.not_mem_nil, false_implies, implies_true, List.nodup_nil, List.nodup_cons, not_false_eq_true, Ev.len_lst, Ev.len_tup, Ev.len_dct, Ev.len_set, Ev.len_str, Ev.add_int, Ev.add_str, Ev.add_tup, Ev.add_lst, Ev.mul_int, Ev.mul_lst, Ev.sub_lst, Ev.sub_tup, Ev.sub_str, Ev.sub_dctI, Ev.sub_dctS, Ev.cut_lst, Ev.cut_tup, Ev.cutL_lst, Ev.in_lst, Ev.in_tup, Ev.in_dctI, Ev.in_dctS, Ev.wI0_int, Ev.wII_int, Ev.neg_int, Ev.index_lst, Ev.set_lst, Ev.set_tup, Ev.all_lst, Ev.any_lst, Ev.list_lst, Ev.list_tup, Ev.list_dct, Ev.repr_one, Ev.dict_lst, Ev.tup_lst, Ev.tup_tup, Ev.append_one, Ev.pop_none, Ev.popAt_one, Ev.clear_none, Ev.extend_one, Ev.remove_one, Ev.seq_lst, Ev.seq_tup, Ev.enum_lst, Ev.enum_tup, Ev.int1_int, Ev.int2_int, Ev.int_int, Ev.max_int, Ev.min_int, Ev.opt_some, Ev.tru_lst, Ev.tru_tup, Ev.tru_int, Ev.par_imm, Ev.par_own, Ev.par_no, Ev.par_drw, neS_same]
    refine ⟨by decide, sh, ?_⟩
    refine ⟨_, _, o, U, l, rfl, .inr rfl, .inr rfl, ndo, gl, sml, oU, by omega, by omega, by omega, fun ρ8 => ?_⟩
    simp (maxSteps := 4000000) only [dBody, dSeq, dNext, dBreak, dCont, dDrop, dRet, dRetN, dIfS, dAsg, dgName, dgNil, dgsName, dgsPut, dgUn, dPar, dPar3, dVar, dC, dTake, dFrz, mkS, dBin, dBinO, dTest, dTru, dUn, dIsN, isNonB, dAnd, dOr, dNot, dAndV, dOrV, dNotV, asB, dIf, cnd, dNil, dCons, dTup, dLst, dNewD, dSub, dSl, dSlO, dNoPart, dPart, dIsi, dCallB, dCallO, wds, sds, wd, sd, rsv, Sl.dat, stv, notPar, Sl.with_, dCall, dCallK, argC, arC, useS, kindsB, Ar.sl, cond, ownL, ownD, upS, dLM, dLM0, isOwnL, isOwnD, dPop1, dPop2, dGet1, dGet2, isDct, dDput, dLput, dLput.known, dFld, dMth, dMth0, tyOk, dChain, dAugI, List.map_cons, List.map_nil, List.cons_append, List.nil_append, List.append_nil, List.length_cons, List.length_nil, List.replicate, List.getElem?_cons_zero, List.getElem?_cons_succ, List.getElem?_nil, List.set_cons_zero, List.set_cons_succ, Option.getD_some, Option.getD_none, Nat.reduceAdd, Nat.reduceSub, dNever, dYes, Nat.zero_le, dLc, dG, dSeqI, dOwnI, dLcD, dctS, dDc, dDcD, dFor, dForD, dRng1, dRng2, dEnum, noPar, wipeD, eqW, neW, D.key, itemsOf, keysOf, valsOf, gdT, isTy, tyD, notIns, List.any_cons, List.any_nil, Bool.or_false, Bool.or_true, Bool.true_or, Bool.false_or, Bool.not_true, Bool.not_false, String.reduceBEq, beq_self_eq_true, true_and, and_true, selN, sel, List.filterMap_cons, List.filterMap_nil, backR, back1, cleanR, clean1, clnR, List.tail_cons, List.head?_cons, List.not_mem_nil, false_implies, implies_true, List.nodup_nil, List.nodup_cons, not_false_eq_true, Ev.len_lst, Ev.len_tup, Ev.len_dct, Ev.len_set, Ev.len_str, Ev.add_int, Ev.add_str, Ev.add_tup, Ev.add_lst, Ev.mul_int, Ev.mul_lst, Ev.sub_lst, Ev.sub_tup, Ev.sub_str, Ev.sub_dctI, Ev.sub_dctS, Ev.cut_lst, Ev.cut_tup, Ev.cutL_lst, Ev.in_lst, Ev.in_tup, Ev.in_dctI, Ev.in_dctS, Ev.wI0_int, Ev.wII_int, Ev.neg_int, Ev.index_lst, Ev.set_lst, Ev.set_tup, Ev.all_lst, Ev.any_lst, Ev.list_lst, Ev.list_tup, Ev.list_dct, Ev.repr_one, Ev.dict_lst, Ev.tup_lst, Ev.tup_tup, Ev.append_one, Ev.pop_none, Ev.popAt_one, Ev.clear_none, Ev.extend_one, Ev.remove_one, Ev.seq_lst, Ev.seq_tup, Ev.enum_lst, Ev.enum_tup, Ev.int1_int, Ev.int2_int, Ev.int_int, Ev.max_int, Ev.min_int, Ev.opt_some, Ev.tru_lst, Ev.tru_tup, Ev.tru_int, Ev.par_imm, Ev.par_own, Ev.par_no, Ev.par_drw]
    refine ⟨okD_ints _, okD_ints _, ?_⟩
    rw [deq_same (okD_ints _)]
    simp (maxSteps := 4000000) only [dBody, dSeq, dNext, dBreak, dCont, dDrop, dRet, dRetN, dIfS, dAsg, dgName, dgNil, dgsName, dgsPut, dgUn, dPar, dPar3, dVar, dC, dTake, dFrz, mkS, dBin, dBinO, dTest, dTru, dUn, dIsN, isNonB, dAnd, dOr, dNot, dAndV, dOrV, dNotV, asB, dIf, cnd, dNil, dCons, dTup, dLst, dNewD, dSub, dSl, dSlO, dNoPart, dPart, dIsi, dCallB, dCallO, wds, sds, wd, sd, rsv, Sl.dat, stv, notPar, Sl.with_, dCall, dCallK, argC, arC, useS, kindsB, Ar.sl, cond, ownL, ownD, upS, dLM, dLM0, isOwnL, isOwnD, dPop1, dPop2, dGet1, dGet2, isDct, dDput, dLput, dLput.known, dFld, dMth, dMth0, tyOk, dChain, dAugI, List.map_cons, List.map_nil, List.cons_append, List.nil_append, List.append_nil, List.length_cons, List.length_nil, List.replicate, List.getElem?_cons_zero, List.getElem?_cons_succ, List.getElem?_nil, List.set_cons_zero, List.set_cons_succ, Option.getD_some, Option.getD_none, Nat.reduceAdd, Nat.reduceSub, dNever, dYes, Nat.zero_le, dLc, dG, dSeqI, dOwnI, dLcD, dctS, dDc, dDcD, dFor, dForD, dRng1, dRng2, dEnum, noPar, wipeD, eqW, neW, D.key, itemsOf, keysOf, valsOf, gdT, isTy, tyD, notIns, List.any_cons, List.any_nil, Bool.or_false, Bool.or_true, Bool.true_or, Bool.false_or, Bool.not_true, Bool.not_false, String.reduceBEq, beq_self_eq_true, true_and, and_true, selN, sel, List.filterMap_cons, List.filterMap_nil, backR, back1, cleanR, clean1, clnR, List.tail_cons, List.head?_cons, List.not_mem_nil, false_implies, implies_true, List.nodup_nil, List.nodup_cons, not_false_eq_true, Ev.len_lst, Ev.len_tup, Ev.len_dct, Ev.len_set, Ev.len_str, Ev.add_int, Ev.add_str, Ev.add_tup, Ev.add_lst, Ev.mul_int, Ev.mul_lst, Ev.sub_lst, Ev.sub_tup, Ev.sub_str, Ev.sub_dctI, Ev.sub_dctS, Ev.cut_lst, Ev.cut_tup, Ev.cutL_lst, Ev.in_lst, Ev.in_tup, Ev.in_dctI, Ev.in_dctS, Ev.wI0_int, Ev.wII_int, Ev.neg_int, Ev.index_lst, Ev.set_lst, Ev.set_tup, Ev.all_lst, Ev.any_lst, Ev.list_lst, Ev.list_tup, Ev.list_dct, Ev.repr_one, Ev.dict_lst, Ev.tup_lst, Ev.tup_tup, Ev.append_one, Ev.pop_none, Ev.popAt_one, Ev.clear_none, Ev.extend_one, Ev.remove_one, Ev.seq_lst, Ev.seq_tup, Ev.enum_lst, Ev.enum_tup, Ev.int1_int, Ev.int2_int, Ev.int_int, Ev.max_int, Ev.min_int, Ev.opt_some, Ev.tru_lst, Ev.tru_tup, Ev.tru_int, Ev.par_imm, Ev.par_own, Ev.par_no, Ev.par_drw]
    refine ⟨_, rfl, by rw [List.length_map]; omega, okD_ints _, fun ys ρ9 pm => ?_⟩
    obtain ⟨o2, rfl, pm2⟩ := perm_ints pm
    simp (maxSteps := 4000000) only [dBody, dSeq, dNext, dBreak, dCont, dDrop, dRet, dRetN, dIfS, dAsg, dgName, dgNil, dgsName, dgsPut, dgUn, dPar, dPar3, dVar, dC, dTake, dFrz, mkS, dBin, dBinO, dTest, dTru, dUn, dIsN, isNonB, dAnd, dOr, dNot, dAndV, dOrV, dNotV, asB, dIf, cnd, dNil, dCons, dTup, dLst, dNewD, dSub, dSl, dSlO, dNoPart, dPart, dIsi, dCallB, dCallO, wds, sds, wd, sd, rsv, Sl.dat, stv, notPar, Sl.with_, dCall, dCallK, argC, arC, useS, kindsB, Ar.sl, cond, ownL, ownD, upS, dLM, dLM0, isOwnL, isOwnD, dPop1, dPop2, dGet1, dGet2, isDct, dDput, dLput, dLput.known, dFld, dMth, dMth0, tyOk, dChain, dAugI, List.map_cons, List.map_nil, List.cons_append, List.nil_append, List.append_nil, List.length_cons, List.length_nil, List.replicate, List.getElem?_cons_zero, List.getElem?_cons_succ, List.getElem?_nil, List.set_cons_zero, List.set_cons_succ, Option.getD_some, Option.getD_none, Nat.reduceAdd, Nat.reduceSub, dNever, dYes, Nat.zero_le, dLc, dG, dSeqI, dOwnI, dLcD, dctS, dDc, dDcD, dFor, dForD, dRng1, dRng2, dEnum, noPar, wipeD, eqW, neW, D.key, itemsOf, keysOf, valsOf, gdT, isTy, tyD, notIns, List.any_cons, List.any_nil, Bool.or_false, Bool.or_true, Bool.true_or, Bool.false_or, Bool.not_true, Bool.not_false, String.reduceBEq, beq_self_eq_true, true_and, and_true, selN, sel, List.filterMap_cons, List.filterMap_nil, backR, back1, cleanR, clean1, clnR, List.tail_cons, List.head?_cons, List.not_mem_nil, false_implies, implies_true, List.nodup_nil, List.nodup_cons, not_false_eq_true, Ev.len_lst, Ev.len_tup, Ev.len_dct, Ev.len_set, Ev.len_str, Ev.add_int, Ev.add_str, Ev.add_tup, Ev.add_lst, Ev.mul_int, Ev.mul_lst, Ev.sub_lst, Ev.sub_tup, Ev.sub_str, Ev.sub_dctI, Ev.sub_dctS, Ev.cut_lst, Ev.cut_tup, Ev.cutL_lst, Ev.in_lst, Ev.in_tup, Ev.in_dctI, Ev.in_dctS, Ev.wI0_int, Ev.wII_int, Ev.neg_int, Ev.index_lst, Ev.set_lst, Ev.set_tup, Ev.all_lst, Ev.any_lst, Ev.list_lst, Ev.list_tup, Ev.list_dct, Ev.repr_one, Ev.dict_lst, Ev.tup_lst, Ev.tup_tup, Ev.append_one, Ev.pop_none, Ev.popAt_one, Ev.clear_none, Ev.extend_one, Ev.remove_one, Ev.seq_lst, Ev.seq_tup, Ev.enum_lst, Ev.enum_tup, Ev.int1_int, Ev.int2_int, Ev.int_int, Ev.max_int, Ev.min_int, Ev.opt_some, Ev.tru_lst, Ev.tru_tup, Ev.tru_int, Ev.par_imm, Ev.par_own, Ev.par_no, Ev.par_drw]
    refine ⟨_, _, o2, U, l, rfl, .inl rfl, .inl rfl, pm2.nodup_iff.mpr ndo, gl, sml, fun x hx => oU x (pm2.subset hx), by omega, by omega, by rw [pm2.length_eq]; omega, fun ρ10 => ?_⟩
    simp (maxSteps := 4000000) only [dBody, dSeq, dNext, dBreak, dCont, dDrop, dRet, dRetN, dIfS, dAsg, dgName, dgNil, dgsName, dgsPut, dgUn, dPar, dPar3, dVar, dC, dTake, dFrz, mkS, dBin, dBinO, dTest, dTru, dUn, dIsN, isNonB, dAnd, dOr, dNot, dAndV, dOrV, dNotV, asB, dIf, cnd, dNil, dCons, dTup, dLst, dNewD, dSub, dSl, dSlO, dNoPart, dPart, dIsi, dCallB, dCallO, wds, sds, wd, sd, rsv, Sl.dat, stv, notPar, Sl.with_, dCall, dCallK, argC, arC, useS, kindsB, Ar.sl, cond, ownL, ownD, upS, dLM, dLM0, isOwnL, isOwnD, dPop1, dPop2, dGet1, dGet2, isDct, dDput, dLput, dLput.known, dFld, dMth, dMth0, tyOk, dChain, dAugI, List.map_cons, List.map_nil, List.cons_append, List.nil_append, List.append_nil, List.length_cons, List.length_nil, List.replicate, List.getElem?_cons_zero, List.getElem?_cons_succ, List.getElem?_nil, List.set_cons_zero, List.set_cons_succ, Option.getD_some, Option.getD_none, Nat.reduceAdd, Nat.reduceSub, dNever, dYes, Nat.zero_le, dLc, dG, dSeqI, dOwnI, dLcD, dctS, dDc, dDcD, dFor, dForD, dRng1, dRng2, dEnum, noPar, wipeD, eqW, neW, D.key, itemsOf, keysOf, valsOf, gdT, isTy, tyD, notIns, List.any_cons, List.any_nil, Bool.or_false, Bool.or_true, Bool.true_or, Bool.false_or, Bool.not_true, Bool.not_false, String.reduceBEq, beq_self_eq_true, true_and, and_true, selN, sel, List.filterMap_cons, List.filterMap_nil, backR, back1, cleanR, clean1, clnR, List.tail_cons, List.head?_cons, List.not_mem_nil, false_implies, implies_true, List.nodup_nil, List.nodup_cons, not_false_eq_true, Ev.len_lst, Ev.len_tup, Ev.len_dct, Ev.len_set, Ev.len_str, Ev.add_int, Ev.add_str, Ev.add_tup, Ev.add_lst, Ev.mul_int, Ev.mul_lst, Ev.sub_lst, Ev.sub_tup, Ev.sub_str, Ev.sub_dctI, Ev.sub_dctS, Ev.cut_lst, Ev.cut_tup, Ev.cutL_lst, Ev.in_lst, Ev.in_tup, Ev.in_dctI, Ev.in_dctS, Ev.wI0_int, Ev.wII_int, Ev.neg_int, Ev.index_lst, Ev.set_lst, Ev.set_tup, Ev.all_lst, Ev.any_lst, Ev.list_lst, Ev.list_tup, Ev.list_dct, Ev.repr_one, Ev.dict_lst, Ev.tup_lst, Ev.tup_tup, Ev.append_one, Ev.pop_none, Ev.popAt_one, Ev.clear_none, Ev.extend_one, Ev.remove_one, Ev.seq_lst, Ev.seq_tup, Ev.enum_lst, Ev.enum_tup, Ev.int1_int, Ev.int2_int, Ev.int_int, Ev.max_int, Ev.min_int, Ev.opt_some, Ev.tru_lst, Ev.tru_tup, Ev.tru_int, Ev.par_imm, Ev.par_own, Ev.par_no, Ev.par_drw]
    refine ⟨okD_ints _, okD_ints _, ?_⟩
    rw [m0_perm pm2, deq_same (okD_ints _)]
    simp (maxSteps := 4000000) only [dBody, dSeq, dNext, dBreak, dCont, dDrop, dRet, dRetN, dIfS, dAsg, dgName, dgNil, dgsName, dgsPut, dgUn, dPar, dPar3, dVar, dC, dTake, dFrz, mkS, dBin, dBinO, dTest, dTru, dUn, dIsN, isNonB, dAnd, dOr, dNot, dAndV, dOrV, dNotV, asB, dIf, cnd, dNil, dCons, dTup, dLst, dNewD, dSub, dSl, dSlO, dNoPart, dPart, dIsi, dCallB, dCallO, wds, sds, wd, sd, rsv, Sl.dat, stv, notPar, Sl.with_, dCall, dCallK, argC, arC, useS, kindsB, Ar.sl, cond, ownL, ownD, upS, dLM, dLM0, isOwnL, isOwnD, dPop1, dPop2, dGet1, dGet2, isDct, dDput, dLput, dLput.known, dFld, dMth, dMth0, tyOk, dChain, dAugI, List.map_cons, List.map_nil, List.cons_append, List.nil_append, List.append_nil, List.length_cons, List.length_nil, List.replicate, List.getElem?_cons_zero, List.getElem?_cons_succ, List.getElem?_nil, List.set_cons_zero, List.set_cons_succ, Option.getD_some, Option.getD_none, Nat.reduceAdd, Nat.reduceSub, dNever, dYes, Nat.zero_le, dLc, dG, dSeqI, dOwnI, dLcD, dctS, dDc, dDcD, dFor, dForD, dRng1, dRng2, dEnum, noPar, wipeD, eqW, neW, D.key, itemsOf, keysOf, valsOf, gdT, isTy, tyD, notIns, List.any_cons, List.any_nil, Bool.or_false, Bool.or_true, Bool.true_or, Bool.false_or, Bool.not_true, Bool.not_false, String.reduceBEq, beq_self_eq_true, true_and, and_true, selN, sel, List.filterMap_cons, List.filterMap_nil, backR, back1, cleanR, clean1, clnR, List.tail_cons, List.head?_cons, List.not_mem_nil, false_implies, implies_true, List.nodup_nil, List.nodup_cons, not_false_eq_true, Ev.len_lst, Ev.len_tup, Ev.len_dct, Ev.len_set, Ev.len_str, Ev.add_int, Ev.add_str, Ev.add_tup, Ev.add_lst, Ev.mul_int, Ev.mul_lst, Ev.sub_lst, Ev.sub_tup, Ev.sub_str, Ev.sub_dctI, Ev.sub_dctS, Ev.cut_lst, Ev.cut_tup, Ev.cutL_lst, Ev.in_lst, Ev.in_tup, Ev.in_dctI, Ev.in_dctS, Ev.wI0_int, Ev.wII_int, Ev.neg_int, Ev.index_lst, Ev.set_lst, Ev.set_tup, Ev.all_lst, Ev.any_lst, Ev.list_lst, Ev.list_tup, Ev.list_dct, Ev.repr_one, Ev.dict_lst, Ev.tup_lst, Ev.tup_tup, Ev.append_one, Ev.pop_none, Ev.popAt_one, Ev.clear_none, Ev.extend_one, Ev.remove_one, Ev.seq_lst, Ev.seq_tup, Ev.enum_lst, Ev.enum_tup, Ev.int1_int, Ev.int2_int, Ev.int_int, Ev.max_int, Ev.min_int, Ev.opt_some, Ev.tru_lst, Ev.tru_tup, Ev.tru_int, Ev.par_imm, Ev.par_own, Ev.par_no, Ev.par_drw]
    rw [List.length_map]
    refine ⟨by omega, by omega, ?_⟩
    refine for_ind (fun i ρ => ∃ y9 : Sl, ρ = [.no, .drw, .imm d, .imm (.lst (U.map D.int)), .imm (.lst (l.map Ev.d)), .imm (.lst (o.map D.int)), .imm (.str (D.lst [D.lst (o.map D.int), D.lst (l.map Ev.d)]).py.shown), .imm (.lst ((outL U (dts (m0 o) l l.length)).map D.int)), .imm (.lst ((outL U (dts (m0 o) l l.length)).map D.int)), y9] ∧ y9.isPar = false) ⟨_, rfl, p9⟩ ?_ ?_
    · rintro i e ρ N2 ed2 ⟨y9, rfl, q9⟩ hN2
      rw [List.getElem?_map] at ed2
      obtain ⟨i', e1, rfl⟩ := Option.map_eq_some_iff.mp ed2
      have cut : Dl.cutD (l.map Ev.d) none (some ((0 : Int) + (i' : Nat))) = (l.take i').map Ev.d := by
        rw [cut_take (by omega), List.map_take]
        congr 1
        omega
      simp (maxSteps := 4000000) only [dBody, dSeq, dNext, dBreak, dCont, dDrop, dRet, dRetN, dIfS, dAsg, dgName, dgNil, dgsName, dgsPut, dgUn, dPar, dPar3, dVar, dC, dTake, dFrz, mkS, dBin, dBinO, dTest, dTru, dUn, dIsN, isNonB, dAnd, dOr, dNot, dAndV, dOrV, dNotV, asB, dIf, cnd, dNil, dCons, dTup, dLst, dNewD, dSub, dSl, dSlO, dNoPart, dPart, dIsi, dCallB, dCallO, wds, sds, wd, sd, rsv, Sl.dat, stv, notPar, Sl.with_, dCall, dCallK, argC, arC, useS, kindsB, Ar.sl, cond, ownL, ownD, upS, dLM, dLM0, isOwnL, isOwnD, dPop1, dPop2, dGet1, dGet2, isDct, dDput, dLput, dLput.known, dFld, dMth, dMth0, tyOk, dChain, dAugI, List.map_cons, List.map_nil, List.cons_append, List.nil_append, List.append_nil, List.length_cons, List.length_nil, List.replicate, List.getElem?_cons_zero, List.getElem?_cons_succ, List.getElem?_nil, List.set_cons_zero, List.set_cons_succ, Option.getD_some, Option.getD_none, Nat.reduceAdd, Nat.reduceSub, dNever, dYes, Nat.zero_le, dLc, dG, dSeqI, dOwnI, dLcD, dctS, dDc, dDcD, dFor, dForD, dRng1, dRng2, dEnum, noPar, wipeD, eqW, neW, D.key, itemsOf, keysOf, valsOf, gdT, isTy, tyD, notIns, List.any_cons, List.any_nil, Bool.or_false, Bool.or_true, Bool.true_or, Bool.false_or, Bool.not_true, Bool.not_false, String.reduceBEq, beq_self_eq_true, true_and, and_true, selN, sel, List.filterMap_cons, List.filterMap_nil, backR, back1, cleanR, clean1, clnR, List.tail_cons, List.head?_cons, List.not_mem_nil, false_implies, implies_true, List.nodup_nil, List.nodup_cons, not_false_eq_true, Ev.len_lst, Ev.len_tup, Ev.len_dct, Ev.len_set, Ev.len_str, Ev.add_int, Ev.add_str, Ev.add_tup, Ev.add_lst, Ev.mul_int, Ev.mul_lst, Ev.sub_lst, Ev.sub_tup, Ev.sub_str, Ev.sub_dctI, Ev.sub_dctS, Ev.cut_lst, Ev.cut_tup, Ev.cutL_lst, Ev.in_lst, Ev.in_tup, Ev.in_dctI, Ev.in_dctS, Ev.wI0_int, Ev.wII_int, Ev.neg_int, Ev.index_lst, Ev.set_lst, Ev.set_tup, Ev.all_lst, Ev.any_lst, Ev.list_lst, Ev.list_tup, Ev.list_dct, Ev.repr_one, Ev.dict_lst, Ev.tup_lst, Ev.tup_tup, Ev.append_one, Ev.pop_none, Ev.popAt_one, Ev.clear_none, Ev.extend_one, Ev.remove_one, Ev.seq_lst, Ev.seq_tup, Ev.enum_lst, Ev.enum_tup, Ev.int1_int, Ev.int2_int, Ev.int_int, Ev.max_int, Ev.min_int, Ev.opt_some, Ev.tru_lst, Ev.tru_tup, Ev.tru_int, Ev.par_imm, Ev.par_own, Ev.par_no, Ev.par_drw]
      rw [cut]
      have smt : ∀ e ∈ l.take i', smEv U e := fun e he => sml e (List.mem_of_mem_take he)
      have lt : (l.take i').length ≤ 100 := by rw [List.length_take]; omega
      refine ⟨q9, _, _, o, U, l.take i', rfl, .inl rfl, .inl rfl, ndo, good_take gl _, smt, oU, by omega, lt, by omega, fun ρ11 => ?_⟩
      simp (maxSteps := 4000000) only [dBody, dSeq, dNext, dBreak, dCont, dDrop, dRet, dRetN, dIfS, dAsg, dgName, dgNil, dgsName, dgsPut, dgUn, dPar, dPar3, dVar, dC, dTake, dFrz, mkS, dBin, dBinO, dTest, dTru, dUn, dIsN, isNonB, dAnd, dOr, dNot, dAndV, dOrV, dNotV, asB, dIf, cnd, dNil, dCons, dTup, dLst, dNewD, dSub, dSl, dSlO, dNoPart, dPart, dIsi, dCallB, dCallO, wds, sds, wd, sd, rsv, Sl.dat, stv, notPar, Sl.with_, dCall, dCallK, argC, arC, useS, kindsB, Ar.sl, cond, ownL, ownD, upS, dLM, dLM0, isOwnL, isOwnD, dPop1, dPop2, dGet1, dGet2, isDct, dDput, dLput, dLput.known, dFld, dMth, dMth0, tyOk, dChain, dAugI, List.map_cons, List.map_nil, List.cons_append, List.nil_append, List.append_nil, List.length_cons, List.length_nil, List.replicate, List.getElem?_cons_zero, List.getElem?_cons_succ, List.getElem?_nil, List.set_cons_zero, List.set_cons_succ, Option.getD_some, Option.getD_none, Nat.reduceAdd, Nat.reduceSub, dNever, dYes, Nat.zero_le, dLc, dG, dSeqI, dOwnI, dLcD, dctS, dDc, dDcD, dFor, dForD, dRng1, dRng2, dEnum, noPar, wipeD, eqW, neW, D.key, itemsOf, keysOf, valsOf, gdT, isTy, tyD, notIns, List.any_cons, List.any_nil, Bool.or_false, Bool.or_true, Bool.true_or, Bool.false_or, Bool.not_true, Bool.not_false, String.reduceBEq, beq_self_eq_true, true_and, and_true, selN, sel, List.filterMap_cons, List.filterMap_nil, backR, back1, cleanR, clean1, clnR, List.tail_cons, List.head?_cons, List.not_mem_nil, false_implies, implies_true, List.nodup_nil, List.nodup_cons, not_false_eq_true, Ev.len_lst, Ev.len_tup, Ev.len_dct, Ev.len_set, Ev.len_str, Ev.add_int, Ev.add_str, Ev.add_tup, Ev.add_lst, Ev.mul_int, Ev.mul_lst, Ev.sub_lst, Ev.sub_tup, Ev.sub_str, Ev.sub_dctI, Ev.sub_dctS, Ev.cut_lst, Ev.cut_tup, Ev.cutL_lst, Ev.in_lst, Ev.in_tup, Ev.in_dctI, Ev.in_dctS, Ev.wI0_int, Ev.wII_int, Ev.neg_int, Ev.index_lst, Ev.set_lst, Ev.set_tup, Ev.all_lst, Ev.any_lst, Ev.list_lst, Ev.list_tup, Ev.list_dct, Ev.repr_one, Ev.dict_lst, Ev.tup_lst, Ev.tup_tup, Ev.append_one, Ev.pop_none, Ev.popAt_one, Ev.clear_none, Ev.extend_one, Ev.remove_one, Ev.seq_lst, Ev.seq_tup, Ev.enum_lst, Ev.enum_tup, Ev.int1_int, Ev.int2_int, Ev.int_int, Ev.max_int, Ev.min_int, Ev.opt_some, Ev.tru_lst, Ev.tru_tup, Ev.tru_int, Ev.par_imm, Ev.par_own, Ev.par_no, Ev.par_drw]
      refine ⟨o, U, l.take i', rfl, good_take gl _, smt, oU, by omega, lt, by omega, fun ρ12 => ?_⟩
      simp (maxSteps := 4000000) only [dBody, dSeq, dNext, dBreak, dCont, dDrop, dRet, dRetN, dIfS, dAsg, dgName, dgNil, dgsName, dgsPut, dgUn, dPar, dPar3, dVar, dC, dTake, dFrz, mkS, dBin, dBinO, dTest, dTru, dUn, dIsN, isNonB, dAnd, dOr, dNot, dAndV, dOrV, dNotV, asB, dIf, cnd, dNil, dCons, dTup, dLst, dNewD, dSub, dSl, dSlO, dNoPart, dPart, dIsi, dCallB, dCallO, wds, sds, wd, sd, rsv, Sl.dat, stv, notPar, Sl.with_, dCall, dCallK, argC, arC, useS, kindsB, Ar.sl, cond, ownL, ownD, upS, dLM, dLM0, isOwnL, isOwnD, dPop1, dPop2, dGet1, dGet2, isDct, dDput, dLput, dLput.known, dFld, dMth, dMth0, tyOk, dChain, dAugI, List.map_cons, List.map_nil, List.cons_append, List.nil_append, List.append_nil, List.length_cons, List.length_nil, List.replicate, List.getElem?_cons_zero, List.getElem?_cons_succ, List.getElem?_nil, List.set_cons_zero, List.set_cons_succ, Option.getD_some, Option.getD_none, Nat.reduceAdd, Nat.reduceSub, dNever, dYes, Nat.zero_le, dLc, dG, dSeqI, dOwnI, dLcD, dctS, dDc, dDcD, dFor, dForD, dRng1, dRng2, dEnum, noPar, wipeD, eqW, neW, D.key, itemsOf, keysOf, valsOf, gdT, isTy, tyD, notIns, List.any_cons, List.any_nil, Bool.or_false, Bool.or_true, Bool.true_or, Bool.false_or, Bool.not_true, Bool.not_false, String.reduceBEq, beq_self_eq_true, true_and, and_true, selN, sel, List.filterMap_cons, List.filterMap_nil, backR, back1, cleanR, clean1, clnR, List.tail_cons, List.head?_cons, List.not_mem_nil, false_implies, implies_true, List.nodup_nil, List.nodup_cons, not_false_eq_true, Ev.len_lst, Ev.len_tup, Ev.len_dct, Ev.len_set, Ev.len_str, Ev.add_int, Ev.add_str, Ev.add_tup, Ev.add_lst, Ev.mul_int, Ev.mul_lst, Ev.sub_lst, Ev.sub_tup, Ev.sub_str, Ev.sub_dctI, Ev.sub_dctS, Ev.cut_lst, Ev.cut_tup, Ev.cutL_lst, Ev.in_lst, Ev.in_tup, Ev.in_dctI, Ev.in_dctS, Ev.wI0_int, Ev.wII_int, Ev.neg_int, Ev.index_lst, Ev.set_lst, Ev.set_tup, Ev.all_lst, Ev.any_lst, Ev.list_lst, Ev.list_tup, Ev.list_dct, Ev.repr_one, Ev.dict_lst, Ev.tup_lst, Ev.tup_tup, Ev.append_one, Ev.pop_none, Ev.popAt_one, Ev.clear_none, Ev.extend_one, Ev.remove_one, Ev.seq_lst, Ev.seq_tup, Ev.enum_lst, Ev.enum_tup, Ev.int1_int, Ev.int2_int, Ev.int_int, Ev.max_int, Ev.min_int, Ev.opt_some, Ev.tru_lst, Ev.tru_tup, Ev.tru_int, Ev.par_imm, Ev.par_own, Ev.par_no, Ev.par_drw]
      refine ⟨okD_ints _, okD_ints _, ?_⟩
      rw [deq_same (okD_ints _)]
      simp only [Bool.not_true]
      exact hN2 _ ⟨_, rfl, rfl⟩
    · rintro ρ ⟨y9, rfl, q9⟩
      exact hN _ ⟨_, _, _, _, _, _, _, _, rfl, rfl, rfl, rfl, rfl, rfl, rfl, rfl, q9⟩
  · rintro ρ ⟨x2, x3, x4, x5, x6, x7, x8, x9, rfl, _⟩
    simp (maxSteps := 4000000) only [dBody, dSeq, dNext, dBreak, dCont, dDrop, dRet, dRetN, dIfS, dAsg, dgName, dgNil, dgsName, dgsPut, dgUn, dPar, dPar3, dVar, dC, dTake, dFrz, mkS, dBin, dBinO, dTest, dTru, dUn, dIsN, isNonB, dAnd, dOr, dNot, dAndV, dOrV, dNotV, asB, dIf, cnd, dNil, dCons, dTup, dLst, dNewD, dSub, dSl, dSlO, dNoPart, dPart, dIsi, dCallB, dCallO, wds, sds, wd, sd, rsv, Sl.dat, stv, notPar, Sl.with_, dCall, dCallK, argC, arC, useS, kindsB, Ar.sl, cond, ownL, ownD, upS, dLM, dLM0, isOwnL, isOwnD, dPop1, dPop2, dGet1, dGet2, isDct, dDput, dLput, dLput.known, dFld, dMth, dMth0, tyOk, dChain, dAugI, List.map_cons, List.map_nil, List.cons_append, List.nil_append, List.append_nil, List.length_cons, List.length_nil, List.replicate, List.getElem?_cons_zero, List.getElem?_cons_succ, List.getElem?_nil, List.set_cons_zero, List.set_cons_succ, Option.getD_some, Option.getD_none, Nat.reduceAdd, Nat.reduceSub, dNever, dYes, Nat.zero_le, dLc, dG, dSeqI, dOwnI, dLcD, dctS, dDc, dDcD, dFor, dForD, dRng1, dRng2, dEnum, noPar, wipeD, eqW, neW, D.key, itemsOf, keysOf, valsOf, gdT, isTy, tyD, notIns, List.any_cons, List.any_nil, Bool.or_false, Bool.or_true, Bool.true_or, Bool.false_or, Bool.not_true, Bool.not_false, String.reduceBEq, beq_self_eq_true, true_and, and_true, selN, sel, List.filterMap_cons, List.filterMap_nil, backR, back1, cleanR, clean1, clnR, List.tail_cons, List.head?_cons, List.not_mem_nil, false_implies, implies_true, List.nodup_nil, List.nodup_cons, not_false_eq_true, Ev.len_lst, Ev.len_tup, Ev.len_dct, Ev.len_set, Ev.len_str, Ev.add_int, Ev.add_str, Ev.add_tup, Ev.add_lst, Ev.mul_int, Ev.mul_lst, Ev.sub_lst, Ev.sub_tup, Ev.sub_str, Ev.sub_dctI, Ev.sub_dctS, Ev.cut_lst, Ev.cut_tup, Ev.cutL_lst, Ev.in_lst, Ev.in_tup, Ev.in_dctI, Ev.in_dctS, Ev.wI0_int, Ev.wII_int, Ev.neg_int, Ev.index_lst, Ev.set_lst, Ev.set_tup, Ev.all_lst, Ev.any_lst, Ev.list_lst, Ev.list_tup, Ev.list_dct, Ev.repr_one, Ev.dict_lst, Ev.tup_lst, Ev.tup_tup, Ev.append_one, Ev.pop_none, Ev.popAt_one, Ev.clear_none, Ev.extend_one, Ev.remove_one, Ev.seq_lst, Ev.seq_tup, Ev.enum_lst, Ev.enum_tup, Ev.int1_int, Ev.int2_int, Ev.int_int, Ev.max_int, Ev.min_int, Ev.opt_some, Ev.tru_lst, Ev.tru_tup, Ev.tru_int, Ev.par_imm, Ev.par_own, Ev.par_no, Ev.par_drw]
    refine ⟨_, _, [], [], [], rfl, .inl rfl, .inl rfl, .nil, .nil, fun _ h => absurd h List.not_mem_nil, fun _ h => absurd h List.not_mem_nil, Nat.zero_le _, Nat.zero_le _, Nat.zero_le _, fun ρ1 => ?_⟩
    simp (maxSteps := 4000000) only [dBody, dSeq, dNext, dBreak, dCont, dDrop, dRet, dRetN, dIfS, dAsg, dgName, dgNil, dgsName, dgsPut, dgUn, dPar, dPar3, dVar, dC, dTake, dFrz, mkS, dBin, dBinO, dTest, dTru, dUn, dIsN, isNonB, dAnd, dOr, dNot, dAndV, dOrV, dNotV, asB, dIf, cnd, dNil, dCons, dTup, dLst, dNewD, dSub, dSl, dSlO, dNoPart, dPart, dIsi, dCallB, dCallO, wds, sds, wd, sd, rsv, Sl.dat, stv, notPar, Sl.with_, dCall, dCallK, argC, arC, useS, kindsB, Ar.sl, cond, ownL, ownD, upS, dLM, dLM0, isOwnL, isOwnD, dPop1, dPop2, dGet1, dGet2, isDct, dDput, dLput, dLput.known, dFld, dMth, dMth0, tyOk, dChain, dAugI, List.map_cons, List.map_nil, List.cons_append, List.nil_append, List.append_nil, List.length_cons, List.length_nil, List.replicate, List.getElem?_cons_zero, List.getElem?_cons_succ, List.getElem?_nil, List.set_cons_zero, List.set_cons_succ, Option.getD_some, Option.getD_none, Nat.reduceAdd, Nat.reduceSub, dNever, dYes, Nat.zero_le, dLc, dG, dSeqI, dOwnI, dLcD, dctS, dDc, dDcD, dFor, dForD, dRng1, dRng2, dEnum, noPar, wipeD, eqW, neW, D.key, itemsOf, keysOf, valsOf, gdT, isTy, tyD, notIns, List.any_cons, List.any_nil, Bool.or_false, Bool.or_true, Bool.true_or, Bool.false_or, Bool.not_true, Bool.not_false, String.reduceBEq, beq_self_eq_true, true_and, and_true, selN, sel, List.filterMap_cons, List.filterMap_nil, backR, back1, cleanR, clean1, clnR, List.tail_cons, List.head?_cons, List.not_mem_nil, false_implies, implies_true, List.nodup_nil, List.nodup_cons, not_false_eq_true, Ev.len_lst, Ev.len_tup, Ev.len_dct, Ev.len_set, Ev.len_str, Ev.add_int, Ev.add_str, Ev.add_tup, Ev.add_lst, Ev.mul_int, Ev.mul_lst, Ev.sub_lst, Ev.sub_tup, Ev.sub_str, Ev.sub_dctI, Ev.sub_dctS, Ev.cut_lst, Ev.cut_tup, Ev.cutL_lst, Ev.in_lst, Ev.in_tup, Ev.in_dctI, Ev.in_dctS, Ev.wI0_int, Ev.wII_int, Ev.neg_int, Ev.index_lst, Ev.set_lst, Ev.set_tup, Ev.all_lst, Ev.any_lst, Ev.list_lst, Ev.list_tup, Ev.list_dct, Ev.repr_one, Ev.dict_lst, Ev.tup_lst, Ev.tup_tup, Ev.append_one, Ev.pop_none, Ev.popAt_one, Ev.clear_none, Ev.extend_one, Ev.remove_one, Ev.seq_lst, Ev.seq_tup, Ev.enum_lst, Ev.enum_tup, Ev.int1_int, Ev.int2_int, Ev.int_int, Ev.max_int, Ev.min_int, Ev.opt_some, Ev.tru_lst, Ev.tru_tup, Ev.tru_int, Ev.par_imm, Ev.par_own, Ev.par_no, Ev.par_drw]
    rw [outL_none]
    refine ⟨okD_nil, okD_nil, ?_⟩
    rw [deq_same okD_nil]
    simp only
    refine ⟨by decide, _, _, [3, 1], [3, 1], [], rfl, .inl rfl, .inl rfl, by decide, .nil, fun _ h => absurd h List.not_mem_nil, fun _ h => h, by decide, Nat.zero_le _, by decide, fun ρ2 => ?_⟩
    simp (maxSteps := 4000000) only [dBody, dSeq, dNext, dBreak, dCont, dDrop, dRet, dRetN, dIfS, dAsg, dgName, dgNil, dgsName, dgsPut, dgUn, dPar, dPar3, dVar, dC, dTake, dFrz, mkS, dBin, dBinO, dTest, dTru, dUn, dIsN, isNonB, dAnd, dOr, dNot, dAndV, dOrV, dNotV, asB, dIf, cnd, dNil, dCons, dTup, dLst, dNewD, dSub, dSl, dSlO, dNoPart, dPart, dIsi, dCallB, dCallO, wds, sds, wd, sd, rsv, Sl.dat, stv, notPar, Sl.with_, dCall, dCallK, argC, arC, useS, kindsB, Ar.sl, cond, ownL, ownD, upS, dLM, dLM0, isOwnL, isOwnD, dPop1, dPop2, dGet1, dGet2, isDct, dDput, dLput, dLput.known, dFld, dMth, dMth0, tyOk, dChain, dAugI, List.map_cons, List.map_nil, List.cons_append, List.nil_append, List.append_nil, List.length_cons, List.length_nil, List.replicate, List.getElem?_cons_zero, List.getElem?_cons_succ, List.getElem?_nil, List.set_cons_zero, List.set_cons_succ, Option.getD_some, Option.getD_none, Nat.reduceAdd, Nat.reduceSub, dNever, dYes, Nat.zero_le, dLc, dG, dSeqI, dOwnI, dLcD, dctS, dDc, dDcD, dFor, dForD, dRng1, dRng2, dEnum, noPar, wipeD, eqW, neW, D.key, itemsOf, keysOf, valsOf, gdT, isTy, tyD, notIns, List.any_cons, List.any_nil, Bool.or_false, Bool.or_true, Bool.true_or, Bool.false_or, Bool.not_true, Bool.not_false, String.reduceBEq, beq_self_eq_true, true_and, and_true, selN, sel, List.filterMap_cons, List.filterMap_nil, backR, back1, cleanR, clean1, clnR, List.tail_cons, List.head?_cons, List.not_mem_nil, false_implies, implies_true, List.nodup_nil, List.nodup_cons, not_false_eq_true, Ev.len_lst, Ev.len_tup, Ev.len_dct, Ev.len_set, Ev.len_str, Ev.add_int, Ev.add_str, Ev.add_tup, Ev.add_lst, Ev.mul_int, Ev.mul_lst, Ev.sub_lst, Ev.sub_tup, Ev.sub_str, Ev.sub_dctI, Ev.sub_dctS, Ev.cut_lst, Ev.cut_tup, Ev.cutL_lst, Ev.in_lst, Ev.in_tup, Ev.in_dctI, Ev.in_dctS, Ev.wI0_int, Ev.wII_int, Ev.neg_int, Ev.index_lst, Ev.set_lst, Ev.set_tup, Ev.all_lst, Ev.any_lst, Ev.list_lst, Ev.list_tup, Ev.list_dct, Ev.repr_one, Ev.dict_lst, Ev.tup_lst, Ev.tup_tup, Ev.append_one, Ev.pop_none, Ev.popAt_one, Ev.clear_none, Ev.extend_one, Ev.remove_one, Ev.seq_lst, Ev.seq_tup, Ev.enum_lst, Ev.enum_tup, Ev.int1_int, Ev.int2_int, Ev.int_int, Ev.max_int, Ev.min_int, Ev.opt_some, Ev.tru_lst, Ev.tru_tup, Ev.tru_int, Ev.par_imm, Ev.par_own, Ev.par_no, Ev.par_drw]
    rw [outL_31]
    refine ⟨by decide, okD_ints [1, 3], okD_ints [1, 3], ?_⟩
    exact congrArg (fun b => Sl.imm (D.bl b)) (deq_same (okD_ints [1, 3]))
end
end Bm
set_option maxRecDepth 100000
set_option maxHeartbeats 4000000
/-! the law's promise -/
namespace Bm
open PySem PySem.Spec L2 L3 LamX Dl PyProof.Rows
section
variable {P : Program} {w : World} {K : PySem.W.Frag} {mg : Str → Option Value} {base : Heap}
theorem ok_law {f fS : Addr} {fd fdS : FuncData} (F : Fun K "law" "law" s_law f fd) (T : T0 mg) (GS : FnG P w K mg base CX0 1 fS fdS ["_law_script"] (spState K)) (mS : mg "_law_begun" = some (.ref fS)) (kS : PySem.W.keepIn K (.ref fS) = true) (bS : L2.Binds K fdS ["_law_script"] [])
    (HD : HDr P w K mg base) (HA : HasD P w K mg base CX0 4 "_law_areas" ["_law_state", "_law_most"] 2 t_areas) (HLi : HasD P w K mg base CX0 4 "_law_line" ["_law_state", "_law_nodes", "_law_size", "_law_most", "_law_is_free"] 5 t_line)
    (HSo : HasD P w K mg base CX0 4 "_law_some" ["_law_state", "_law_things"] 2 t_some) (HR : HasD P w K mg base CX0 3 "_law_ruled" ["_law_origin", "_law_line_here"] 2 t_ruled) (HDi : HasD P w K mg base CX0 6 "dirty" ["first", "events"] 2 t_dirty)
    (KHDi : HasK P w K mg base CX0 6 "dirty" ["first", "events"] 2 t_dirty 0 ["events", "first"] [1, 0]) (HSh : HasD P w K mg base CX0 3 "_law_shuffled" ["_law_state", "_law_some_here"] 2 t_shuffled) :
    FnG P w K mg base CX0 8 f fd ["_law_script"] (spLaw K) := by
  obtain ⟨oc, od, kV, doc, pm, an, cdv, ct, osl, rfl, lk, hcd⟩ := F.ex
  refine fn_g lk hcd sc_law (fun vs H Q E h => ?_) fun A outer s H vs Q E gd hr h => ?_
  · obtain ⟨a, ns, rfl, _⟩ := h
    rfl
  · obtain ⟨a, ns, rfl, hS, hl, k⟩ := h
    obtain ⟨tb, hrest, hw⟩ := law_rest (f := f) T HD HA HLi HSo HR HDi KHDi HSh
    obtain ⟨ts, h1, h2⟩ := hrest cdv A outer s H E gd hr
    refine ⟨_, pss_cons (ps_set (i := 1) sc_law.nd rfl (Or.inl rfl) (pe_callG GS gd (hr.mono (by decide)) rfl mS kS bS .nil pass0 (pa_cons (pv 0) pa_nil))) h1.nox, ?_⟩
    refine ⟨_, rfl, a, ns, rfl, hS, hl, fun d st H' sm nd nst dr => ?_⟩
    refine law_in (ts := ts) (nx := fun _ H1 => Q .non H1) (Q := Q) h2 dr rfl (fun i x e => ?_) hw k
    match i, e with
    | 0, e => cases e; exact .inl rfl
    | 1, e => cases e; exact .inr ⟨rfl, rfl⟩
    | i + 2, e =>
      left
      have e' : (List.replicate 8 Sl.no)[i]? = some x := e
      rw [List.getElem?_replicate] at e'
      split at e'
      · cases e'; rfl
      · cases e'
end
end Bm
set_option maxRecDepth 100000
set_option maxHeartbeats 4000000
/-! transfers made and ended: the heap by hand -/
namespace Bm
open PySem PySem.Spec L2 L3 LamX Dl PyProof.Rows
/-- data told at the hand layer -/
theorem spD_use {K : PySem.W.Frag} {n : Nat} {t : TF} {vs : List V} {ds : List D} {H : Hp} {Q : VK} {E : XK} {q : Sl → Rho → Prop} (hd : Das K H vs ds) (hn : ds.length = n) (h : t (ds.map .imm) noEx q)
    (k : ∀ r ρ v H', q r ρ → (∀ b o, H b = some o → (∀ ps, o ≠ .tbl ps) → H' b = some o) → (∀ P q, LamX.TabS H P q → LamX.TabS H' P q) → (∀ b, H b ≠ none → H' b ≠ none) → (∀ d, r = .imm d → Da K H' v d) → Q v H') : spD K n t vs H Q E := by
  have le : Le H (mns [] H) := .of fun b o e => mns_of List.not_mem_nil e
  have at_ : ∀ {i : Nat} {x : Sl}, (ds.map Sl.imm)[i]? = some x → ∃ d, ds[i]? = some d ∧ x = .imm d := fun {i x} e => by
    rw [List.getElem?_map] at e
    obtain ⟨d, e1, e2⟩ := Option.map_eq_some_iff.mp e
    exact ⟨d, e1, e2.symm⟩
  have R : Rel K ⟨H, [], [], none⟩ [] (ds.map Sl.imm) (vs.map some) H [] :=
    { len := by rw [List.length_map, List.length_map, hd.length], sl := fun i x e _ => by
        obtain ⟨d, e1, rfl⟩ := at_ e
        obtain ⟨v, e2, hv⟩ := hd.get e1
        exact ⟨v, by rw [List.getElem?_map, e2]; rfl, hv.le le⟩
      nsl := fun i j e => by obtain ⟨d, _, z⟩ := at_ e; cases z
      pn := fun p hp => absurd hp List.not_mem_nil, npp := fun p hp => absurd hp List.not_mem_nil
      apS := fun i j x y v w e1 _ h _ _ _ _ => by obtain ⟨d, _, rfl⟩ := at_ e1; exact h.elim
      apP := .nil, apX := fun p hp => absurd hp List.not_mem_nil
      wl := fun a m => .inl m, wg := fun a m => m, w0 := fun a m => absurd m List.not_mem_nil, keep := fun a o e _ _ => e, tab := fun _ _ t => t, stay := fun a n => n, wsH := fun a m => absurd m List.not_mem_nil
      ps := fun i a m => absurd m List.not_mem_nil, pr := fun i d e => by obtain ⟨d, _, z⟩ := at_ e; cases z
      psd := fun i j a m => absurd m List.not_mem_nil, dr := fun d st e => by cases e }
  exact ⟨⟨H, [], [], none⟩, ds.map Sl.imm, [], noEx, q, rfl, rfl, by rw [List.length_map]; exact hn, R, eok_no, h, fun r ρ σ v H' ws' hq _ R' => k r ρ v H' hq (fun b o e n => R'.keep b o e (by simp [Base.P]) n) R'.tab R'.stay fun d e => by
    subst e
    exact Da.le mns_le R'.top⟩
def evV : Ev → List V
  | .beg n mv s t => [.str "begin", .int n, .str (kdS mv), .int s, .int t]
  | .fin n => [.str "end", .int n]
  | .vis a => [.str "visit", .int a]
theorem ev_das {K : PySem.W.Frag} {G : Hp} {v : V} {e : Ev} (h : Da K G v e.d) : ∃ b, v = .ref b ∧ SqT K G b (evV e) := by
  cases e with
  | beg n mv s t =>
    cases h with
    | tup e h =>
      rename_i b xs
      cases h with | cons h1 h => cases h with | cons h2 h => cases h with | cons h3 h => cases h with | cons h4 h => cases h with | cons h5 h =>
        cases h; cases h1; cases h2; cases h3; cases h4; cases h5
        exact ⟨_, rfl, e⟩
  | fin n =>
    cases h with
    | tup e h =>
      cases h with | cons h1 h => cases h with | cons h2 h =>
        cases h; cases h1; cases h2
        exact ⟨_, rfl, e⟩
  | vis n =>
    cases h with
    | tup e h =>
      cases h with | cons h1 h => cases h with | cons h2 h =>
        cases h; cases h1; cases h2
        exact ⟨_, rfl, e⟩
def enV (e : Option Nat) : V := match e with
  | none => .non
  | some e => .int e
def fldV (r : Tr) : List (Str × V) := [("kind", .str (kdS r.mv)), ("source", .int r.s), ("target", .int r.t), ("began", .int r.bg), ("ended", enV r.en)]
section
variable {P : Program} {w : World} {K : PySem.W.Frag} {mg : Str → Option Value} {base : Heap}
def spInit (K : PySem.W.Frag) (C : Addr) : Sp := fun vs H Q _ => ∃ (p dx b : Addr) (n s t : Int) (mv : Bool) (j : Nat), vs = [.ref p, .ref b, .int j] ∧ H p = some (.ins C dx []) ∧ SqT K H b (evV (.beg n mv s t)) ∧
  Q .non (upd H p (.ins C dx (fldV ⟨n, mv, s, t, j, none⟩)))
theorem sc_init : FnScope ["self", "event", "began"] ["self", "event", "began"] (defScope s_Transfer_init) := ⟨rfl, rfl, rfl, by decide +kernel, rfl, by decide +kernel, by decide +kernel⟩
theorem ok_init {f C : Addr} {fd : FuncData} (F : Fun K "__init__" "Transfer.__init__" s_Transfer_init f fd) (TT : TrT K C) : FnOk P w K mg base CX0 1 f fd ["self", "event", "began"] (spInit K C) := by
  refine F.ok sc_init (fun vs H Q E h => ?_) (fun cdv A outer s H vs Q E hr h => ?_)
  · obtain ⟨p, dx, b, n, s, t, mv, j, rfl, _⟩ := h
    rfl
  · obtain ⟨p, dx, b, n, s, t, mv, j, rfl, hp, hb, k⟩ := h
    refine ⟨_, (pss_cons (ps_fld (pv 0) (pe_ix ix_tup (pv 1) pe_int (fun _ _ => rfl)) rfl)
      (pss_cons (ps_fld (pv 0) (pe_ix ix_tup (pv 1) pe_int (fun _ _ => rfl)) rfl)
      (pss_cons (ps_fld (pv 0) (pe_ix ix_tup (pv 1) pe_int (fun _ _ => rfl)) rfl)
      (pss_cons (ps_fld (pv 0) (pv 2) rfl)
      (pss_one (ps_fld (pv 0) pe_non rfl)))))), ?_⟩

    have sq : ∀ o : HO, SqT K (upd H p o) b (evV (.beg n mv s t)) := fun o => by
      rcases hb with (h | ⟨ob, h⟩) | h
      · exact .inl (.inl (by rw [upd_ne (fun z => by rw [z, hp] at h; cases h)]; exact h))
      · exact .inl (.inr ⟨ob, by rw [upd_ne (fun z => by rw [z, hp] at h; cases h)]; exact h⟩)
      · exact .inr h
    refine ⟨_, rfl, b, _, 2, _, rfl, rfl, hb, rfl, _, rfl, p, C, dx, _, rfl, hp, TT.cl, TT.n1, by decide, ?_⟩
    refine ⟨_, rfl, b, _, 3, _, rfl, rfl, sq _, rfl, _, rfl, p, C, dx, _, rfl, upd_same, TT.cl, TT.n2, (by show 1 < 1000; decide), ?_⟩
    rw [upd_upd]
    refine ⟨_, rfl, b, _, 4, _, rfl, rfl, sq _, rfl, _, rfl, p, C, dx, _, rfl, upd_same, TT.cl, TT.n3, (by show 2 < 1000; decide), ?_⟩
    rw [upd_upd]
    refine ⟨_, rfl, _, rfl, p, C, dx, _, rfl, upd_same, TT.cl, TT.n4, (by show 3 < 1000; decide), ?_⟩
    rw [upd_upd]
    refine ⟨_, rfl, p, C, dx, _, rfl, upd_same, TT.cl, TT.n5, (by show 4 < 1000; decide), ?_⟩
    rw [upd_upd]
    exact k
/-! takes -/
theorem okD_ev (e : Ev) : okD e.d := by
  have s : ∀ x : Str, PyData.strOk x = true → (PyData.str x).canLay0 = true := fun x h => by simp only [PyData.canLay0]; exact h
  have h1 := s (Str.ofString "begin") (by decide +kernel)
  have h2 := s (Str.ofString "end") (by decide +kernel)
  have h3 := s (Str.ofString "visit") (by decide +kernel)
  have h4 := s (Str.ofString "move") (by decide +kernel)
  have h5 := s (Str.ofString "copy") (by decide +kernel)
  have hi : ∀ i : Int, (PyData.int i).canLay0 = true := fun i => by simp only [PyData.canLay0]
  cases e with
  | beg n mv s t => cases mv <;> (refine ⟨rfl, ?_⟩; show ((PyData.tuple (D.pys _)).canLay0 && decide ((PyData.tuple (D.pys _)).depth ≤ 64)) = true; simp [D.pys, D.py, PyData.canLayAll0, PyData.depth, PyData.depthAll, kdS, PyData.canLay0, h1, h4, h5, hi]; first | exact ⟨by decide +kernel, by decide +kernel⟩ | decide +kernel)
  | fin n => refine ⟨rfl, ?_⟩; show ((PyData.tuple (D.pys _)).canLay0 && decide ((PyData.tuple (D.pys _)).depth ≤ 64)) = true; simp [D.pys, D.py, PyData.canLayAll0, PyData.depth, PyData.depthAll, PyData.canLay0]; first | exact ⟨by decide +kernel, by decide +kernel⟩ | decide +kernel
  | vis n => refine ⟨rfl, ?_⟩; show ((PyData.tuple (D.pys _)).canLay0 && decide ((PyData.tuple (D.pys _)).depth ≤ 64)) = true; simp [D.pys, D.py, PyData.canLayAll0, PyData.depth, PyData.depthAll, PyData.canLay0]; first | exact ⟨by decide +kernel, by decide +kernel⟩ | decide +kernel
theorem ev_da {K : PySem.W.Frag} {G : Hp} {b : Addr} {e : Ev} (h : SqT K G b (evV e)) : Da K G (.ref b) e.d := by
  cases e with
  | beg n mv s t => exact .tup h (.cons (.str _) (.cons (.int _) (.cons (.str _) (.cons (.int _) (.cons (.int _) .nil)))))
  | fin n => exact .tup h (.cons (.str _) (.cons (.int _) .nil))
  | vis n => exact .tup h (.cons (.str _) (.cons (.int _) .nil))
theorem sqT_grow {K : PySem.W.Frag} {H H' : Hp} {b : Addr} {xs : List V} (g : ∀ c o, H c = some o → (∀ ps, o ≠ .tbl ps) → H' c = some o) (h : SqT K H b xs) : SqT K H' b xs := (Le.ofN g).sqT h
theorem ifbF {b : Bool} {A B : Prop} (e : b = false) (h : B) : if b = true then A else B := by rw [e]; exact iteF h
theorem ifbT {b : Bool} {A B : Prop} (e : b = true) (h : A) : if b = true then A else B := by rw [e]; exact iteT h
def ev0 : Ev → Str
  | .beg _ _ _ _ => "begin"
  | .fin _ => "end"
  | .vis _ => "visit"
theorem evV_0 (e : Ev) : atI (evV e) 0 = some (.str (ev0 e)) := by cases e <;> rfl
abbrev Fnd := List (Tr × Addr × Addr)
def kvsF (F : Fnd) : List (Key × V) := F.map fun x => (.inl x.1.n, .ref x.2.1)
theorem valV_none {F : Fnd} {n : Int} (h : ∀ r ∈ F.map (·.1), r.n ≠ n) : valV (kvsF F) (.inl n) = none := by
  unfold valV kvsF
  rw [Option.map_eq_none_iff, List.find?_eq_none]
  intro p hp z
  obtain ⟨x, hx, rfl⟩ := List.mem_map.mp hp
  exact h x.1 (List.mem_map_of_mem hx) (by simpa using z)
theorem valV_mem {F : Fnd} {x : Tr × Addr × Addr} (nd : ((F.map (·.1)).map (·.n)).Nodup) (h : x ∈ F) : valV (kvsF F) (.inl x.1.n) = some (.ref x.2.1) := by
  induction F with
  | nil => cases h
  | cons y F ih =>
    rw [List.map_cons, List.map_cons] at nd
    have nd' := List.nodup_cons.mp nd
    unfold kvsF valV
    rw [List.map_cons]
    rcases List.mem_cons.mp h with rfl | h
    · rw [List.find?_cons_of_pos (by simp)]; rfl
    · have ne : y.1.n ≠ x.1.n := fun z => nd'.1 (by rw [z]; exact List.mem_map_of_mem (List.mem_map_of_mem h))
      rw [List.find?_cons_of_neg (by simpa using ne)]
      exact ih nd'.2 h
/-- what was found so far, and where it stands -/
structure FoA (C : Addr) (H : Hp) (a : Addr) (F : Fnd) : Prop where
  top : H a = some (.dK (kvsF F))
  each : ∀ x ∈ F, H x.2.1 = some (.ins C x.2.2 (fldV x.1))
  nd : (F.map fun x => x.2.1).Nodup
theorem FoA.grow {C : Addr} {H H' : Hp} {a : Addr} {F : Fnd} (h : FoA C H a F) (g : ∀ c o, H c = some o → (∀ ps, o ≠ .tbl ps) → H' c = some o) : FoA C H' a F := ⟨g _ _ h.top (fun _ z => nomatch z), fun x hx => g _ _ (h.each x hx) (fun _ z => nomatch z), h.nd⟩
def fpF (a : Addr) (F : Fnd) : List Addr := a :: F.map fun x => x.2.1
def endR (n : Int) (j : Nat) (r : Tr) : Tr := if r.n = n then { r with en := some j } else r
def take1 (j : Nat) (R : List Tr) : Ev → List Tr
  | .beg n mv s t => R ++ [⟨n, mv, s, t, j, none⟩]
  | .fin n => R.map (endR n j)
  | .vis _ => R
def okTake (R : List Tr) : Ev → Prop
  | .beg n _ s t => s ≠ t ∧ ∀ r ∈ R, r.n ≠ n
  | .fin n => ∃ r ∈ R, r.n = n ∧ r.en = none
  | .vis _ => True
theorem up_some {H : Hp} {p : Addr} {o : HO} (st : H p ≠ none ∨ True) : ∀ b, H b ≠ none → upd H p o b ≠ none := fun b n z => by
  by_cases y : b = p
  · rw [y, upd_same] at z; cases z
  · rw [upd_ne y] at z; exact n z
theorem putK_new {F : Fnd} {n : Int} {v : V} (h : ∀ r ∈ F.map (·.1), r.n ≠ n) : putK (kvsF F) (.inl n) v = kvsF F ++ [(.inl n, v)] := by
  unfold putK
  rw [if_neg]
  intro z
  rw [List.any_eq_true] at z
  obtain ⟨p, hp, e⟩ := z
  obtain ⟨x, hx, rfl⟩ := List.mem_map.mp hp
  exact h x.1 (List.mem_map_of_mem hx) (by simpa using e)
theorem foA_new {C : Addr} {H : Hp} {a x dx : Addr} {F : Fnd} {r : Tr} (fo : FoA C H a F) (nx : H x = none) (ndx : H dx = none) (ne : dx ≠ x) (h : ∀ y ∈ F.map (·.1), y.n ≠ r.n) :
    ∃ H4, upd (upd (upd (upd H dx (.own x)) x (.ins C dx [])) x (.ins C dx (fldV r))) a (.dK (putK (kvsF F) (.inl r.n) (.ref x))) = H4 ∧
    FoA C H4 a (F ++ [(r, x, dx)]) ∧ (∀ c o, H c = some o → c ≠ a → H4 c = some o) ∧ (∀ P q, LamX.TabS H P q → LamX.TabS H4 P q) ∧ ∀ b, H b ≠ none → H4 b ≠ none := by
  refine ⟨_, rfl, ?_, ?_, ?_, ?_⟩
  · have xa : x ≠ a := (ne_of_none fo.top nx).symm
    refine ⟨?_, fun y hy => ?_, ?_⟩
    · rw [upd_same, putK_new h]
      unfold kvsF
      rw [List.map_append]
      rfl
    · rcases List.mem_append.mp hy with hy | hy
      · have e := fo.each y hy
        have n1 : y.2.1 ≠ a := fun z => by rw [z, fo.top] at e; cases e
        rw [upd_ne n1, upd_ne (ne_of_none e nx), upd_ne (ne_of_none e nx), upd_ne (ne_of_none e ndx)]
        exact e
      · rw [List.mem_singleton.mp hy]
        show upd _ a _ x = _
        rw [upd_ne xa, upd_same]
    · rw [List.map_append]
      refine List.nodup_append.mpr ⟨fo.nd, by simp, fun y hy z hz => ?_⟩
      obtain ⟨w, hw, rfl⟩ := List.mem_map.mp hy
      simp only [List.map_cons, List.map_nil, List.mem_singleton] at hz
      rw [hz]
      exact ne_of_none (fo.each w hw) nx
  · intro c o e na
    rw [upd_ne na, upd_ne (ne_of_none e nx), upd_ne (ne_of_none e nx), upd_ne (ne_of_none e ndx)]
    exact e
  · intro P q t
    have k : ∀ c o, H c = some o → upd (upd (upd H dx (.own x)) x (.ins C dx [])) x (.ins C dx (fldV r)) c = some o := fun c o e => by
      rw [upd_ne (ne_of_none e nx), upd_ne (ne_of_none e nx), upd_ne (ne_of_none e ndx)]
      exact e
    exact tab_upd (t.ext k) (k _ _ fo.top) ⟨fun _ z => (nomatch z), fun _ z => (nomatch z)⟩
  · intro b n
    exact up_some (.inr trivial) b (up_some (.inr trivial) b (up_some (.inr trivial) b (up_some (.inr trivial) b n)))
theorem nd_inj {α β : Type} {f : α → β} : ∀ {F : List α}, (F.map f).Nodup → ∀ {x y : α}, x ∈ F → y ∈ F → f x = f y → x = y
  | [], _, _, _, h, _, _ => by cases h
  | a :: F, nd, x, y, hx, hy, e => by
    rw [List.map_cons] at nd
    have nd' := List.nodup_cons.mp nd
    rcases List.mem_cons.mp hx with h1 | h1 <;> rcases List.mem_cons.mp hy with h2 | h2
    · rw [h1, h2]
    · exact (nd'.1 (by rw [← h1, e]; exact List.mem_map_of_mem h2)).elim
    · exact (nd'.1 (by rw [← h2, ← e]; exact List.mem_map_of_mem h1)).elim
    · exact nd_inj nd'.2 h1 h2 e
theorem foA_end {C : Addr} {H : Hp} {a : Addr} {F : Fnd} {x : Tr × Addr × Addr} {j : Nat} (fo : FoA C H a F) (nd : ((F.map (·.1)).map (·.n)).Nodup) (hx : x ∈ F) :
    ∃ H4, upd H x.2.1 (.ins C x.2.2 (fldV { x.1 with en := some j })) = H4 ∧
    FoA C H4 a (F.map fun y => (endR x.1.n j y.1, y.2)) ∧ (∀ c o, H c = some o → c ∉ fpF a F → H4 c = some o) ∧ (∀ P q, LamX.TabS H P q → LamX.TabS H4 P q) ∧ ∀ b, H b ≠ none → H4 b ≠ none := by
  have ex := fo.each x hx
  have in_ : x.2.1 ∈ fpF a F := List.mem_cons_of_mem _ (List.mem_map_of_mem hx)
  refine ⟨_, rfl, ⟨?_, fun y hy => ?_, ?_⟩, ?_, ?_, ?_⟩
  · rw [upd_ne (fun z => by rw [← z, fo.top] at ex; cases ex), fo.top]
    unfold kvsF
    rw [List.map_map]
    congr 2
    refine List.map_congr_left fun y _ => ?_
    show _ = ((Sum.inl (endR x.1.n j y.1).n : Key), _)
    unfold endR
    split <;> rfl
  · obtain ⟨z, hz, rfl⟩ := List.mem_map.mp hy
    show upd H x.2.1 _ z.2.1 = some (.ins C z.2.2 (fldV (endR x.1.n j z.1)))
    by_cases q : z.2.1 = x.2.1
    · have zx : z = x := nd_inj fo.nd hz hx q
      subst zx
      rw [upd_same]
      unfold endR
      rw [if_pos rfl]
    · rw [upd_ne q]
      have nn : z.1.n ≠ x.1.n := fun e => by
        rw [List.map_map] at nd
        have := nd_inj (f := (fun r : Tr => r.n) ∘ fun y : Tr × Addr × Addr => y.1) nd hz hx e
        exact q (by rw [this])
      unfold endR
      rw [if_neg nn]
      exact fo.each z hz
  · rw [List.map_map]
    exact fo.nd
  · intro c o e nf
    rw [upd_ne (fun z => nf (by rw [z]; exact in_))]
    exact e
  · intro P q t
    exact tab_upd t ex ⟨fun _ z => (nomatch z), fun _ z => (nomatch z)⟩
  · exact up_some (.inr trivial)
def spTakes (K : PySem.W.Frag) (C : Addr) : Sp := fun vs H Q _ => ∃ (a b : Addr) (j : Nat) (e : Ev) (F : Fnd), vs = [.ref a, .ref b, .int j] ∧ SqT K H b (evV e) ∧ FoA C H a F ∧ ((F.map (·.1)).map (·.n)).Nodup ∧ okTake (F.map (·.1)) e ∧ F.length ≤ 100 ∧
  ∀ (H' : Hp) (F' : Fnd), FoA C H' a F' → F'.map (·.1) = take1 j (F.map (·.1)) e → (∀ c o, H c = some o → c ∉ fpF a F → (∀ ps, o ≠ .tbl ps) → H' c = some o) → (∀ P q, LamX.TabS H P q → LamX.TabS H' P q) → (∀ b, H b ≠ none → H' b ≠ none) → (∀ x ∈ F', x.2.1 ∈ fpF a F ∨ H x.2.1 = none) → Q (.bl true) H'
theorem sc_takes : FnScope ["found", "event", "at"] ["found", "event", "at"] (defScope s_takes) := ⟨rfl, rfl, rfl, by decide +kernel, rfl, by decide +kernel, by decide +kernel⟩
theorem ok_takes {f fI fB fN C : Addr} {fd fdI fdB fdN : FuncData} (F : Fun K "takes" "takes" s_takes f fd) (T : T0 mg) (TT : TrT K C) (gC : mg "Transfer" = some (.ref C)) (MT : Mk K C fI) (GT : FnOk P w K mg base CX0 1 fI fdI ["self", "event", "began"] (spInit K C)) (bT : L2.Binds K fdI ["self", "event", "began"] [])
    (GIB : FnG P w K mg base CX0 3 fB fdB ["event"] (spD K 1 t_is_begin)) (mIB : mg "is_begin" = some (.ref fB)) (kIB : PySem.W.keepIn K (.ref fB) = true) (bIB : L2.Binds K fdB ["event"] [])
    (GII : FnG P w K mg base CX0 2 fN fdN ["value"] (spD K 1 t_is_integer)) (mII : mg "is_integer" = some (.ref fN)) (kII : PySem.W.keepIn K (.ref fN) = true) (bII : L2.Binds K fdN ["value"] []) :
    FnG P w K mg base CX0 4 f fd ["found", "event", "at"] (spTakes K C) := by
  obtain ⟨oc, od, kV, doc, pm, an, cdv, ct, osl, rfl, lk, hcd⟩ := F.ex
  refine fn_g lk hcd sc_takes (fun vs H Q E h => ?_) fun A outer s H vs Q E gd hr h => ?_
  · obtain ⟨a, b, j, e, F, rfl, _⟩ := h
    rfl
  · obtain ⟨a, b, j, e, F, rfl, hb, fo, nd, ok, few, k⟩ := h
    have hu := hu_of hr
    have hr1 := hr.mono (show 2 ≤ 3 by decide)
    refine ⟨_, (pss_cons (ps_if (PW.pt (pw_or (pt_not (pt_val (pe_callB call_isV (by rfl) T.isinstance_ PyProof.Rows.boot_isinstance (pa_cons (pv 1) (pa_cons (pe_bltn (v := .ty "tuple") rfl T.tuple_ (by decide +kernel) rfl) pa_nil))))) (pw_or (pt_cmpR (op_eqD hr.units) (pv 1) (pe_tup pa_nil) (nomark _)) (pw_or1 (pt_not (pt_val (pe_callB call_isV (by rfl) T.isinstance_ PyProof.Rows.boot_isinstance (pa_cons (pe_ix ix_tup (pv 1) pe_int (fun _ _ => rfl)) (pa_cons (pe_bltn (v := .ty "str") rfl T.str_ (by decide +kernel) rfl) pa_nil)))))))))
        (pss_one (ps_ret pe_bl))
        pss_nil)
      (pss_cons (ps_if (pt_cmpR op_eq (pe_ix ix_tup (pv 1) pe_int (fun _ _ => rfl)) pe_str (nomark _))
        (pss_cons (ps_if (PW.pt (pw_or (pt_not (pt_val (pe_callG GIB gd (hr.mono (by decide)) rfl mIB kIB bIB .nil pass0 (pa_cons (pv 1) pa_nil)))) (pw_or1 (pt_cmp (pc_din hu (pe_ix ix_tup (pv 1) pe_int (fun _ _ => rfl)) (pv 0))))))
            (pss_one (ps_ret pe_bl))
            pss_nil)
          (pss_cons (ps_dput hu (pv 0) (pe_ix ix_tup (pv 1) pe_int (fun _ _ => rfl)) (pe_make MT GT hr1 rfl gC bT .nil pass0 (pa_cons (pv 1) (pa_cons (pv 2) pa_nil))) rfl)
          (pss_one (ps_ret pe_bl))))
        pss_nil)
      (pss_cons (ps_if (PW.pt (pw_or (pt_cmpR op_ne (pe_callB call_len_seq (by rfl) T.len_ PySem.boot_len (pa_cons (pv 1) pa_nil)) pe_int (nomark _)) (pw_or1 (pt_not (pt_val (pe_callG GII gd (hr.mono (by decide)) rfl mII kII bII .nil pass0 (pa_cons (pe_ix ix_tup (pv 1) pe_int (fun _ _ => rfl)) pa_nil)))))))
        (pss_one (ps_ret pe_bl))
        pss_nil)
      (pss_cons (ps_if (pt_cmpR op_eq (pe_ix ix_tup (pv 1) pe_int (fun _ _ => rfl)) pe_str (nomark _))
        (pss_cons (ps_if (PW.pt (pw_or (pt_cmp (pc_dnotin hu (pe_ix ix_tup (pv 1) pe_int (fun _ _ => rfl)) (pv 0))) (pw_or1 (pt_cmpR op_notN (pe_fld (pe_dget hu (pv 0) (pe_ix ix_tup (pv 1) pe_int (fun _ _ => rfl)) (fun _ _ => rfl)) rfl) pe_non (nomark _)))))
            (pss_one (ps_ret pe_bl))
            pss_nil)
          (pss_cons (ps_fld (pe_dget hu (pv 0) (pe_ix ix_tup (pv 1) pe_int (fun _ _ => rfl)) (fun _ _ => rfl)) (pv 2) rfl)
          (pss_one (ps_ret pe_bl))))
        pss_nil)
      (pss_one (ps_ret (pe_cmpR op_eq (pe_ix ix_tup (pv 1) pe_int (fun _ _ => rfl)) pe_str (nomark _)))))))), ?_⟩

    have ty1 : ∀ {H : Hp}, SqT K H b (evV e) → TyX K H (.ref b) (.type "tuple") := fun {H} h => by
      have := ty_db (K := K) (d := e.d) Le.refl (Db.ofDa Le.refl (ev_da h)) (by cases e <;> rfl)
      cases e <;> exact this
    -- isinstance(event, tuple)
    refine ⟨_, rfl, _, _, _, _, true, rfl, .ty "tuple", .base (ty1 hb), kit_ty (by decide +kernel), _, rfl, ?_⟩
    refine iteF ?_
    -- event == ()
    refine ⟨_, rfl, Nat.zero_le _, fun p0 n0 => ?_⟩
    have g0 : ∀ c o, H c = some o → (∀ ps, o ≠ .tbl ps) → upd H p0 (.tup []) c = some o := fun c o e _ => by rw [upd_ne (ne_of_none e n0)]; exact e
    have t0 : ∀ P q, LamX.TabS H P q → LamX.TabS (upd H p0 (.tup [])) P q := fun P q t => t.ext (upd_keep n0)
    have s0 : ∀ b, H b ≠ none → upd H p0 (.tup []) b ≠ none := fun b n z => by
      by_cases y : b = p0
      · rw [y, upd_same] at z; cases z
      · rw [upd_ne y] at z; exact n z
    have a0 : SqT K (upd H p0 (.tup [])) p0 [] := SqT.of upd_same
    generalize hH1 : upd H p0 (.tup []) = H1 at *
    have hb1 := sqT_grow g0 hb
    have fo1 := fo.grow g0
    have okd := okD_ev e
    refine ⟨e.d.py, (D.tup []).py, (ev_da hb1).dp okd.1, Da.dp (d := .tup []) (.tup (xs := []) a0 .nil) rfl, okd.2, by decide +kernel, ?_⟩
    refine ⟨_, rfl, ifbF (by cases e <;> simp [Ev.d, D.py, D.pys, PyData.eqv, PyData.eqvAll]) ?_⟩
    -- isinstance(event[0], str)
    refine ⟨_, rfl, b, _, _, _, rfl, rfl, hb1, evV_0 e, _, _, _, _, true, rfl, .ty "str", .base (show TyX K H1 (.str (ev0 e)) (.type "str") from ty_db (K := K) (H := H1) (d := .str (ev0 e)) Le.refl (Db.str _) rfl), kit_ty (by decide +kernel), _, rfl, ?_⟩
    refine iteF ?_
    cases e with
    | beg n mv s t =>
      refine ⟨_, rfl, b, _, _, _, rfl, rfl, hb1, rfl, rfl, _, rfl, ?_⟩
      refine ifbT (b := decide (Str.ofString "begin" = Str.ofString "begin")) (by decide +kernel) ?_
      -- is_begin(event)
      refine ⟨_, rfl, spD_use (q := fun r _ => r = .imm (.bl true)) (.cons (ev_da hb1) .nil) rfl ⟨n, mv, s, t, rfl, ok.1, fun _ => rfl⟩ fun r ρ v H2 hr2 g2 t2 st2 hd => ?_⟩
      have hd2 := hd _ hr2
      cases hd2
      have fo2 := fo1.grow g2
      have hb2 := sqT_grow g2 hb1
      refine ⟨_, rfl, iteF ?_⟩
      have nf : valV (kvsF F) (.inl n) = none := valV_none ok.2
      refine ⟨_, rfl, b, _, _, _, rfl, rfl, hb2, rfl, _, rfl, a, _, rfl, DGet.k (k := Sum.inl n) fo2.top, ?_⟩
      rw [nf]
      refine ⟨_, rfl, iteF ?_⟩
      refine ⟨_, rfl, _, rfl, fun x dx nx ndx ne => ?_⟩
      have sq : ∀ o : HO, SqT K (upd (upd H2 dx (.own x)) x o) b (evV (.beg n mv s t)) := fun o => by
        refine sqT_grow (fun c o' e _ => ?_) hb2
        rw [upd_ne (ne_of_none e nx), upd_ne (ne_of_none e ndx)]
        exact e
      obtain ⟨H4, e4, fo4, k4, t4, s4⟩ := foA_new (r := ⟨n, mv, s, t, j, none⟩) fo2 nx ndx ne ok.2
      refine ⟨x, dx, b, n, s, t, mv, j, rfl, upd_same, sq _, rfl, _, rfl, _, rfl, b, evV (.beg n mv s t), 1, .int n, rfl, rfl, ?_, rfl, a, H4, rfl, ?_, ?_⟩
      · rw [upd_upd]; exact sq _
      · rw [← e4]
        exact DPut.k (k := Sum.inl n) (by rw [upd_ne (ne_of_none fo2.top nx), upd_ne (ne_of_none fo2.top nx), upd_ne (ne_of_none fo2.top ndx)]; exact fo2.top) (by unfold kvsF; rw [List.length_map]; exact Nat.lt_of_le_of_lt few (by decide))
      · refine k H4 _ fo4 (by rw [List.map_append]; rfl) (fun c o e nf n2 => k4 c o (g2 _ _ (g0 _ _ e n2) n2) fun z => nf (z ▸ List.mem_cons_self)) (fun P q h => t4 P q (t2 P q (t0 P q h))) (fun b n => s4 b (st2 b (s0 b n))) fun y hy => ?_
        rcases List.mem_append.mp hy with hy | hy
        · exact .inl (List.mem_cons_of_mem _ (List.mem_map_of_mem hy))
        · right
          rw [List.mem_singleton.mp hy]
          cases z : H x with
          | none => rfl
          | some u => exact (st2 x (s0 x (by rw [z]; simp)) nx).elim
    | fin n =>
      refine ⟨_, rfl, b, _, _, _, rfl, rfl, hb1, rfl, rfl, _, rfl, ?_⟩
      refine ifbF (b := decide (Str.ofString "end" = Str.ofString "begin")) (by decide +kernel) ?_
      -- len(event) != 2
      refine ⟨_, rfl, b, _, rfl, .inr hb1, ?_⟩
      refine ⟨rfl, _, rfl, ?_⟩
      refine ifbF rfl ?_
      -- is_integer(event[1])
      refine ⟨_, rfl, b, _, _, _, rfl, rfl, hb1, rfl, spD_use (q := fun r _ => r = .imm (.bl true)) (ds := [.int n]) (.cons (.int n) .nil) rfl ⟨.int n, rfl, rfl, fun _ => rfl⟩ fun r ρ v H2 hr2 g2 t2 st2 hd => ?_⟩
      have hd2 := hd _ hr2
      cases hd2
      have fo2 := fo1.grow g2
      have hb2 := sqT_grow g2 hb1
      refine ⟨_, rfl, iteF ?_⟩
      -- event[0] == "end"
      refine ⟨_, rfl, b, _, _, _, rfl, rfl, hb2, rfl, rfl, _, rfl, ?_⟩
      refine ifbT (b := decide (Str.ofString "end" = Str.ofString "end")) (by decide +kernel) ?_
      -- event[1] not in found
      obtain ⟨r, hr, rn, re⟩ := ok
      obtain ⟨x, hx, rfl⟩ := List.mem_map.mp hr
      have lk2 : valV (kvsF F) (.inl n) = some (.ref x.2.1) := by rw [← rn]; exact valV_mem nd hx
      refine ⟨_, rfl, b, _, _, _, rfl, rfl, hb2, rfl, _, rfl, a, _, rfl, DGet.k (k := Sum.inl n) fo2.top, ?_⟩
      rw [lk2]
      refine ⟨_, rfl, iteF ?_⟩
      -- found[event[1]].ended is not None
      refine ⟨_, rfl, _, rfl, b, _, _, _, rfl, rfl, hb2, rfl, a, _, rfl, (by rw [← lk2]; exact DGet.k (k := Sum.inl n) fo2.top), ?_⟩
      refine ⟨_, C, _, _, _, rfl, fo2.each x hx, TT.cl, TT.n5, rfl, ?_⟩
      refine ⟨rfl, _, rfl, ?_⟩
      refine ifbF (b := !decide (enV x.1.en = V.non)) (by rw [re]; decide +kernel) ?_
      -- found[event[1]].ended = at
      obtain ⟨H4, e4, fo4, k4, t4, s4⟩ := foA_end (j := j) fo2 nd hx
      rw [rn] at fo4
      refine ⟨_, rfl, _, rfl, _, rfl, b, _, _, _, rfl, rfl, hb2, rfl, a, _, rfl, (by rw [← lk2]; exact DGet.k (k := Sum.inl n) fo2.top), ?_⟩
      refine ⟨_, C, _, _, rfl, fo2.each x hx, TT.cl, TT.n5, (by show 5 < 1000; decide), ?_⟩
      have fin := k H4 _ fo4 (by rw [List.map_map, take1, List.map_map]; rfl) (fun c o e nf n2 => k4 c o (g2 _ _ (g0 _ _ e n2) n2) nf) (fun P q h => t4 P q (t2 P q (t0 P q h))) (fun b n => s4 b (st2 b (s0 b n))) fun y hy => ?_
      · rw [← e4] at fin
        exact fin
      · obtain ⟨z, hz, rfl⟩ := List.mem_map.mp hy
        exact .inl (List.mem_cons_of_mem _ (List.mem_map_of_mem (f := fun x => x.2.1) hz))
    | vis n => 
      refine ⟨_, rfl, b, _, _, _, rfl, rfl, hb1, rfl, rfl, _, rfl, ?_⟩
      refine ifbF (b := decide (Str.ofString "visit" = Str.ofString "begin")) (by decide +kernel) ?_
      -- len(event) != 2
      refine ⟨_, rfl, b, _, rfl, .inr hb1, ?_⟩
      refine ⟨rfl, _, rfl, ?_⟩
      refine ifbF rfl ?_
      -- is_integer(event[1])
      refine ⟨_, rfl, b, _, _, _, rfl, rfl, hb1, rfl, spD_use (q := fun r _ => r = .imm (.bl true)) (ds := [.int n]) (.cons (.int n) .nil) rfl ⟨.int n, rfl, rfl, fun _ => rfl⟩ fun r ρ v H2 hr2 g2 t2 st2 hd => ?_⟩
      have hd2 := hd _ hr2
      cases hd2
      have fo2 := fo1.grow g2
      have hb2 := sqT_grow g2 hb1
      refine ⟨_, rfl, iteF ?_⟩
      -- event[0] == "end"
      refine ⟨_, rfl, b, _, _, _, rfl, rfl, hb2, rfl, rfl, _, rfl, ?_⟩
      refine ifbF (b := decide (Str.ofString "visit" = Str.ofString "end")) (by decide +kernel) ?_
      refine ⟨_, rfl, b, _, _, _, rfl, rfl, hb2, rfl, rfl, ?_⟩
      have e1 : decide (Str.ofString "visit" = Str.ofString "visit") = true := by decide +kernel
      have fin := k H2 F fo2 rfl (fun c o e nf n2 => g2 _ _ (g0 _ _ e n2) n2) (fun P q h => t2 P q (t0 P q h)) (fun b n => st2 b (s0 b n)) fun y hy => .inl (List.mem_cons_of_mem _ (List.mem_map_of_mem hy))
      rw [← e1] at fin
      exact fin
end
end Bm
set_option maxRecDepth 100000
set_option maxHeartbeats 4000000
/-! transfers_of: the heap by hand, between data and data -/
namespace Bm
open PySem PySem.Spec L2 L3 LamX Dl PyProof.Rows
theorem endOf_snoc {e : Ev} {n : Int} : ∀ {l : List Ev} {i : Nat}, endOf (l ++ [e]) i n = match endOf l i n with
    | some x => some x
    | none => (match e with | .fin m => if m = n then some (i + l.length) else none | _ => none)
  | [], i => by cases e <;> simp [endOf]
  | .fin m :: l, i => by
    show (if m = n then some i else endOf (l ++ [e]) (i + 1) n) = _
    by_cases z : m = n
    · simp [endOf, z]
    · simp only [endOf, if_neg z]
      rw [endOf_snoc (l := l) (i := i + 1)]
      simp only [List.length_cons, show i + 1 + l.length = i + (l.length + 1) from by omega]
  | .beg _ _ _ _ :: l, i => by
    show endOf (l ++ [e]) (i + 1) n = _
    simp only [endOf]
    rw [endOf_snoc (l := l) (i := i + 1)]
    simp only [List.length_cons, show i + 1 + l.length = i + (l.length + 1) from by omega]
  | .vis _ :: l, i => by
    show endOf (l ++ [e]) (i + 1) n = _
    simp only [endOf]
    rw [endOf_snoc (l := l) (i := i + 1)]
    simp only [List.length_cons, show i + 1 + l.length = i + (l.length + 1) from by omega]
theorem endOf_none {n : Int} : ∀ {l : List Ev} {i : Nat}, n ∉ ended l → endOf l i n = none
  | [], i, _ => rfl
  | .fin m :: l, i, h => by
    have h' : n ∉ m :: ended l := h
    have ne : m ≠ n := fun z => h' (z ▸ List.mem_cons_self)
    show (if m = n then some i else endOf l (i + 1) n) = none
    rw [if_neg ne]
    exact endOf_none fun m => h' (List.mem_cons_of_mem _ m)
  | .beg _ _ _ _ :: l, i, h => endOf_none (l := l) (i := i + 1) h
  | .vis _ :: l, i, h => endOf_none (l := l) (i := i + 1) h
theorem recsG_app (full : List Ev) : ∀ (l m : List Ev) (i : Nat), recsG full (l ++ m) i = recsG full l i ++ recsG full m (i + l.length)
  | [], m, i => rfl
  | .beg n mv s t :: l, m, i => by
    show _ :: recsG full (l ++ m) (i + 1) = _ :: _
    rw [recsG_app full l m (i + 1), List.length_cons, show i + 1 + l.length = i + (l.length + 1) from by omega]
    rfl
  | .fin _ :: l, m, i => by
    show recsG full (l ++ m) (i + 1) = _
    rw [recsG_app full l m (i + 1), List.length_cons, show i + 1 + l.length = i + (l.length + 1) from by omega]
    rfl
  | .vis _ :: l, m, i => by
    show recsG full (l ++ m) (i + 1) = _
    rw [recsG_app full l m (i + 1), List.length_cons, show i + 1 + l.length = i + (l.length + 1) from by omega]
    rfl
theorem recsG_full (f1 f2 : List Ev) : ∀ (l : List Ev) (i : Nat), recsG f2 l i = (recsG f1 l i).map fun r => { r with en := endOf f2 0 r.n }
  | [], i => rfl
  | .beg n mv s t :: l, i => by
    show _ :: recsG f2 l (i + 1) = _ :: _
    rw [recsG_full f1 f2 l (i + 1)]
  | .fin _ :: l, i => recsG_full f1 f2 l (i + 1)
  | .vis _ :: l, i => recsG_full f1 f2 l (i + 1)
theorem recs_en {l : List Ev} {r : Tr} (h : r ∈ recs l) : r.en = endOf l 0 r.n := by
  obtain ⟨_, _, _, e⟩ := mem_recs.mp h
  exact e
theorem recs_snoc {l : List Ev} {e : Ev} (g : Good l) (o : okEv l e) : recs (l ++ [e]) = take1 l.length (recs l) e := by
  unfold recs
  rw [recsG_app, recsG_full l (l ++ [e])]
  have same : (∀ m, e ≠ .fin m) → ∀ r ∈ recs l, ({ r with en := endOf (l ++ [e]) 0 r.n } : Tr) = r := fun ne r hr => by
    have : endOf (l ++ [e]) 0 r.n = r.en := by
      rw [endOf_snoc, recs_en hr]
      cases endOf l 0 r.n with
      | some x => rfl
      | none => cases e <;> first | rfl | exact (ne _ rfl).elim
    rw [this]
  have mp : (∀ m, e ≠ .fin m) → ((recsG l l 0).map fun r => ({ r with en := endOf (l ++ [e]) 0 r.n } : Tr)) = recsG l l 0 := fun ne => by
    conv => rhs; rw [← List.map_id (recsG l l 0)]
    exact List.map_congr_left fun r hr => same ne r hr
  cases e with
  | beg n mv s t =>
    rw [mp (fun _ z => nomatch z)]
    show recsG l l 0 ++ [_] = _
    have nb : n ∉ ended l := fun z => o.1 (ended_begun g n z)
    have : endOf (l ++ [.beg n mv s t]) 0 n = none := by rw [endOf_snoc, endOf_none nb]
    rw [this, Nat.zero_add]
    rfl
  | vis a =>
    rw [mp (fun _ z => nomatch z)]
    exact List.append_nil _
  | fin n =>
    show ((recsG l l 0).map fun r => ({ r with en := endOf (l ++ [.fin n]) 0 r.n } : Tr)) ++ [] = (recsG l l 0).map (endR n l.length)
    rw [List.append_nil]
    refine List.map_congr_left fun r hr => ?_
    unfold endR
    by_cases z : r.n = n
    · rw [if_pos z]
      have : endOf (l ++ [.fin n]) 0 r.n = some l.length := by
        rw [endOf_snoc, z, endOf_none o.2]
        simp
      rw [this]
    · rw [if_neg z]
      have : endOf (l ++ [.fin n]) 0 r.n = r.en := by
        rw [endOf_snoc, recs_en (l := l) hr]
        cases endOf l 0 r.n with
        | some x => rfl
        | none => simp [Ne.symm z]
      rw [this]
theorem okTake_of {l : List Ev} {e : Ev} (o : okEv l e) : okTake (recs l) e := by
  have nums : (recs l).map (·.n) = begun l := recs_nums l l 0
  cases e with
  | beg n mv s t => exact ⟨o.2, fun r hr z => o.1 (by rw [← nums, ← z]; exact List.mem_map_of_mem hr)⟩
  | vis a => trivial
  | fin n =>
    have m := o.1
    rw [← nums] at m
    obtain ⟨r, hr, e⟩ := List.mem_map.mp m
    exact ⟨r, hr, e, by rw [recs_en hr, e, endOf_none o.2]⟩
theorem recs_step {l : List Ev} {k : Nat} {e : Ev} (g : Good l) (h : l[k]? = some e) : recs (l.take (k + 1)) = take1 k (recs (l.take k)) e ∧ okTake (recs (l.take k)) e := by
  have o := good_at g h
  have lk := (List.getElem?_eq_some_iff.mp h).1
  refine ⟨?_, okTake_of o⟩
  rw [take_snoc h, recs_snoc (good_take g k) o, List.length_take, Nat.min_eq_left (Nat.le_of_lt lk)]
section
variable {P : Program} {w : World} {K : PySem.W.Frag} {mg : Str → Option Value} {base : Heap}
/-- a walk with places, by hand -/
theorem for_en {K : PySem.W.Frag} {a : Addr} {xs : List V} {g : TG} {tb : TS} {D : Ends} {σ : L2.St} {H : Hp} (Pv : Nat → L2.St → Hp → Prop) (J : It)
    (hJ : (J = Ite K a ∧ ∀ i σ H, i ≤ xs.length → Pv i σ H → SqL K H a xs) ∨ (J = Itet K a ∧ ∀ i σ H, i ≤ xs.length → Pv i σ H → SqT K H a xs)) (h0 : Pv 0 σ H)
    (hs : ∀ i x σ H T, xs[i]? = some x → Pv i σ H → H T = none → g (.ref T) σ (upd H T (.tup [.int (i : Nat), x])) fun σ2 H2 => tb { D with nx := Pv (i + 1), ct := Pv (i + 1), bk := D.nx } σ2 H2) (hd : ∀ σ H, Pv xs.length σ H → D.nx σ H) :
    ∃ W : Nat → Nat → L2.St → Hp → Prop, (∃ m, W 0 m σ H) ∧ ∀ i m σ H, W i m σ H →
      (J.stop i H ∧ D.nx σ H) ∨ (J.go i H ∧ ∃ N : L2.St → Hp → Prop, (∀ σ' H', N σ' H' → ∃ m', m' < m ∧ W (i + 1) m' σ' H') ∧ ∀ x H', J.yld i H x H' → g x σ H' fun σ2 H2 => tb { D with nx := N, ct := N, bk := D.nx } σ2 H2) := by
  refine ⟨fun i m σ H => m = xs.length - i ∧ i ≤ xs.length ∧ Pv i σ H, ⟨xs.length, by simp, Nat.zero_le _, h0⟩, ?_⟩
  rintro i m σ H ⟨rfl, hi, p⟩
  by_cases hlt : i < xs.length
  · refine .inr ⟨?_, Pv (i + 1), fun σ' H' p' => ⟨xs.length - (i + 1), by omega, rfl, hlt, p'⟩, fun x H' y => ?_⟩
    · rcases hJ with ⟨rfl, q⟩ | ⟨rfl, q⟩
      · exact ⟨xs, xs[i], q i σ H hi p, by simp [hlt]⟩
      · exact ⟨xs, xs[i], q i σ H hi p, by simp [hlt]⟩
    · rcases hJ with ⟨rfl, q⟩ | ⟨rfl, q⟩
      · obtain ⟨T, z, rfl, nT, rfl, y⟩ := y
        exact hs i z σ H T (y xs (q i σ H hi p)) p nT
      · obtain ⟨T, z, rfl, nT, rfl, y⟩ := y
        exact hs i z σ H T (y xs (q i σ H hi p)) p nT
  · have e : i = xs.length := by omega
    subst e
    refine .inl ⟨?_, hd σ H p⟩
    rcases hJ with ⟨rfl, q⟩ | ⟨rfl, q⟩
    · exact ⟨xs, q _ σ H hi p, Nat.le_refl _⟩
    · exact ⟨xs, q _ σ H hi p, Nat.le_refl _⟩
theorem sc_transfers_of : FnScope ["first", "events", "found", "at", "event"] ["first", "events"] (defScope s_transfers_of) := ⟨rfl, rfl, rfl, by decide +kernel, rfl, by decide +kernel, by decide +kernel⟩
def dTrs (C : Addr) : TDS := fun Dd ρ er => ∃ (d1 d2 : D) (l : List Ev), ρ = [.imm d1, .imm d2, .no, .no, .no] ∧ evsOf d2 l ∧ Good l ∧ l.length ≤ 100 ∧ Dd.rt (.imm (.dct (trsD C (recs l)))) ρ
/-- what the heap does while the transfers are found -/
structure Grw (H H' : Hp) : Prop where
  keep : ∀ c o, H c = some o → (∀ ps, o ≠ .tbl ps) → H' c = some o
  tab : ∀ P q, LamX.TabS H P q → LamX.TabS H' P q
  stay : ∀ b, H b ≠ none → H' b ≠ none
theorem Grw.refl (H : Hp) : Grw H H := ⟨fun _ _ e _ => e, fun _ _ t => t, fun _ n => n⟩
theorem Grw.trans {H H1 H2 : Hp} (a : Grw H H1) (b : Grw H1 H2) : Grw H H2 := ⟨fun c o e n => b.keep c o (a.keep c o e n) n, fun P q t => b.tab P q (a.tab P q t), fun c n => b.stay c (a.stay c n)⟩
theorem Grw.new {H : Hp} {p : Addr} {o : HO} (np : H p = none) : Grw H (upd H p o) := ⟨fun c u e _ => by rw [upd_ne (ne_of_none e np)]; exact e, fun P q t => t.ext (upd_keep np), up_some (.inr trivial)⟩
theorem das_at {K : PySem.W.Frag} {G : Hp} : ∀ {vs : List V} {ds : List D} {i : Nat} {v : V}, Das K G vs ds → vs[i]? = some v → ∃ d, ds[i]? = some d ∧ Da K G v d := fun h e => h.getV e
theorem fnd_das {K : PySem.W.Frag} {C : Addr} {G : Hp} : ∀ {F : Fnd}, (∀ x ∈ F, G x.2.1 = some (.ins C x.2.2 (fldV x.1))) → Das K G ((kvsF F).map (·.2)) ((trsD C (F.map (·.1))).map (·.2))
  | [], _ => .nil
  | x :: F, h => by
    refine .cons (Da.ins (h x List.mem_cons_self) rfl ?_) (fnd_das (F := F) fun y hy => h y (List.mem_cons_of_mem _ hy))
    refine .cons (.str _) (.cons (.int _) (.cons (.int _) (.cons (.int _) (.cons ?_ .nil))))
    cases x.1.en with
    | none => exact .non
    | some e => exact .int _
/-- slots of which nothing is known may be any -/
theorem Rel_st {B : Base} {π : List (V × Sl)} {ρ : Rho} {σ σ' : L2.St} {H : Hp} {ws : List Addr} (R : Rel K B π ρ σ H ws) (nh : NoH π) (hl : σ'.length = σ.length) (h : ∀ (i : Nat) (x : Sl), ρ[i]? = some x → x ≠ Sl.no → σ'[i]? = σ[i]?) : Rel K B π ρ σ' H ws := by
  have ent : ∀ {v x}, (∀ i, x ≠ .slot i) → Ent K B σ H ws v x → Ent K B σ' H ws v x := fun {v x} n e => by
    cases x with
    | slot i => exact (n i rfl).elim
    | _ => exact e
  have own : ∀ {x : Sl}, x.isOwn → x ≠ .no := fun h z => by rw [z] at h; exact h
  refine { R with len := R.len.trans hl.symm, sl := fun i x e n => ?_, pn := fun p hp => ent (fun i z => nh p hp i z) (R.pn p hp), apS := fun i j x y v w e1 e2 h1 h2 s1 s2 n => ?_, apX := fun p hp h1 i x v e h2 s => ?_, ps := fun i a m => ?_ }
  · obtain ⟨v, s, e2⟩ := R.sl i x e n
    exact ⟨v, by rw [h i x e n]; exact s, ent (fun j z => R.nsl i j (by rw [e, z])) e2⟩
  · exact R.apS i j x y v w e1 e2 h1 h2 (by rw [← h i x e1 (own h1)]; exact s1) (by rw [← h j y e2 (own h2)]; exact s2) n
  · exact R.apX p hp h1 i x v e h2 (by rw [← h i x e (own h2)]; exact s)
  · obtain ⟨s1, s2, d, s3⟩ := R.ps i a m
    exact ⟨s1, by rw [h i _ s3 (fun z => nomatch z)]; exact s2, d, s3⟩
theorem Grw.dr {H H' : Hp} (g : Grw H H') {d st : Addr} (h : Dl.Dr d st H) : Dl.Dr d st H' := by
  obtain ⟨ms, sp, mx, h1, h2, h3⟩ := h
  exact ⟨ms, sp, mx, g.keep _ _ h1 (fun _ z => nomatch z), g.keep _ _ h2 (fun _ z => nomatch z), h3⟩
theorem Grw.rel {B : Base} {π : List (V × Sl)} {ρ : Rho} {σ : L2.St} {H H' : Hp} {ws : List Addr} (R : Rel K B π ρ σ H ws) (g : Grw H H') : Rel K B π ρ σ H' ws :=
  R.heap (fun b o e _ n => g.keep b o e n) g.tab g.stay (fun d st e => g.dr (R.dr d st e).2.2.1) (fun _ m => m) fun _ m => .inl m
theorem hand_trs {f fT C : Addr} {fdT : FuncData} (T : T0 mg) (GT : FnG P w K mg base CX0 4 fT fdT ["found", "event", "at"] (spTakes K C)) (mT : mg "takes" = some (.ref fT)) (kT : PySem.W.keepIn K (.ref fT) = true) (bT : L2.Binds K fdT ["found", "event", "at"] [])
    (cdv : Value) (A : Around) (outer : List Env) (s : Shared) (H : Hp) (E : XK) (gd : (A.deeper (envOfC "transfers_of" (defScope s_transfers_of) s.heap.objs.size f cdv)).guards = some []) (hr : Room 4 (A.deeper (envOfC "transfers_of" (defScope s_transfers_of) s.heap.objs.size f cdv))) :
    ∃ ts, DSs (cxOf CX0 P w K mg base ["first", "events", "found", "at", "event"] "transfers_of" (defScope s_transfers_of) f cdv A outer s H E).nox E (defBody s_transfers_of).tail.tail ts (dTrs C) := by
  have hu := hu_of hr
  refine ⟨_, PSs.nox (pss_cons (ps_set (i := 2) sc_transfers_of.nd rfl (Or.inl rfl) pe_dnewK)
        (pss_cons (ps_for PassesOwn.never rfl (pi_en (by rfl) T.enumerate_ (pa_cons (pv 1) pa_nil)) (pg_tup (by rfl) (pgs_cons (pg_name (i := 3) sc_transfers_of.nd rfl (Or.inl rfl)) (pgs_cons (pg_name (i := 4) sc_transfers_of.nd rfl (Or.inl rfl)) pgs_nil)))
          (pss_one (ps_if (pt_not (pt_val (pe_callG GT gd hr rfl mT kT bT .nil pass0 (pa_cons (pv 2) (pa_cons (pv 4) (pa_cons (pv 3) pa_nil))))))
              (pss_one ps_never)
              pss_nil)))
        (pss_one (ps_ret (pv 2))))), fun B er π ρ σ H ws Dd D R nh hE h L => ?_⟩

  obtain ⟨d1, d2, l, rfl, hd2, g, few, k⟩ := h
  obtain ⟨v1, e1, h1⟩ := R.sl 0 (.imm d1) rfl (fun z => nomatch z)
  obtain ⟨v2, e2, h2⟩ := R.sl 1 (.imm d2) rfl (fun z => nomatch z)
  have h2' : Da K (mns ws H) v2 d2 := h2
  have len : 5 = σ.length := R.len
  match σ, len, e1, e2, R with
  | [a0, a1, a2, a3, a4], _, e1, e2, R =>
    cases e1
    cases e2
    refine fun p np => ?_
    obtain ⟨b2, xs, ev, eq2, das, hJ⟩ : ∃ (b2 : Addr) (xs : List V), v2 = .ref b2 ∧ xs.length = l.length ∧ Das K (mns ws H) xs (l.map Ev.d) ∧
        ((True ∧ ∀ H', Grw H H' → SqL K H' b2 xs) ∨ (True ∧ ∀ H', Grw H H' → SqT K H' b2 xs)) := by
      rcases hd2 with rfl | rfl
      · cases h2' with
        | @lst a xs ds e hd => exact ⟨a, xs, rfl, by rw [hd.length, List.length_map], hd, .inl ⟨trivial, fun H' gr => SqL.of (gr.keep _ _ (mns_some e).2 (fun _ z => nomatch z))⟩⟩
      · cases h2' with
        | @tup a xs ds e hd => exact ⟨a, xs, rfl, by rw [hd.length, List.length_map], hd, .inr ⟨trivial, fun H' gr => (Le.ofN gr.keep).sqT (mns_le.sqT e)⟩⟩
    subst ev
    have g0 : Grw H (upd H p (.dK [])) := Grw.new np
    rcases hJ with ⟨_, q⟩ | ⟨_, q⟩
    · refine ⟨_, rfl, .inl ⟨b2, xs, rfl, q _ g0, for_en (a := b2) (xs := xs) (fun i σ' H' => ∃ x3 x4 F, σ' = [some v1, some (.ref b2), some (.ref p), x3, x4] ∧ FoA C H' p F ∧ F.map (·.1) = recs (l.take i) ∧ Grw H H' ∧ ∀ x ∈ F, H x.2.1 = none) _ (.inl ⟨rfl, fun i σ' H' _ ⟨_, _, _, _, _, _, gr, _⟩ => q H' gr⟩) ?_ ?_ ?_⟩⟩
      · exact ⟨a3, a4, [], rfl, ⟨upd_same, fun x hx => absurd hx List.not_mem_nil, .nil⟩, rfl, g0, fun x hx => absurd hx List.not_mem_nil⟩
      · rintro i x σ' H' Tn ex ⟨x3, x4, F, rfl, fo, eF, gr, fr⟩ nT
        obtain ⟨dd, ed, hdd⟩ := das.getV ex
        rw [List.getElem?_map] at ed
        obtain ⟨e, ee, rfl⟩ := Option.map_eq_some_iff.mp ed
        obtain ⟨be, rfl, sqe⟩ := ev_das hdd
        have gT : Grw H' (upd H' Tn (.tup [.int (i : Nat), .ref be])) := Grw.new nT
        have gA := gr.trans gT
        refine ⟨Tn, _, rfl, SqT.of upd_same, rfl, _, _, rfl, _, _, rfl, rfl, ?_⟩
        obtain ⟨st1, st2⟩ := recs_step g ee
        refine ⟨_, rfl, _, rfl, _, rfl, p, be, i, e, F, rfl, (Le.ofN gA.keep).sqT (mns_le.sqT sqe), fo.grow gT.keep, ?_, by rw [eF]; exact st2, ?_, ?_⟩
        · rw [eF]; exact recs_nodup (good_take g i)
        · have := congrArg List.length eF
          rw [List.length_map] at this
          have h3 := recs_len (l.take i)
          rw [List.length_take] at h3
          omega
        · intro H2 F2 fo2 e2 k2 t2 s2 n2
          have g2 : Grw H H2 := ⟨fun c o ec nt => k2 c o (gA.keep c o ec nt) (fun m => ?_) nt, fun P q t => t2 P q (gA.tab P q t), fun c n => s2 c (gA.stay c n)⟩
          · refine ⟨_, rfl, iteF ?_⟩
            refine ⟨_, _, F2, rfl, fo2, by rw [e2, eF, st1], g2, fun y hy => ?_⟩
            rcases n2 y hy with m | m
            · rcases List.mem_cons.mp m with z | m
              · rw [z]; exact np
              · obtain ⟨z, hz, e⟩ := List.mem_map.mp m
                rw [← e]; exact fr z hz
            · cases z : H y.2.1 with
              | none => rfl
              | some u => exact (gA.stay _ (by rw [z]; simp) m).elim
          · rcases List.mem_cons.mp m with z | m
            · rw [z, np] at ec; cases ec
            · obtain ⟨z, hz, e⟩ := List.mem_map.mp m
              rw [← e, fr z hz] at ec; cases ec
      · rintro σ' H' ⟨x3, x4, F, rfl, fo, eF, gr, fr⟩
        rw [eq2, List.take_length] at eF
        have R2 : Rel K B π [.imm d1, .imm d2, .no, .no, .no] [some v1, some (.ref b2), some (.ref p), x3, x4] H' ws := Rel_st (gr.rel R) nh rfl fun i x e n => by
          match i, e with
          | 0, _ => rfl
          | 1, _ => rfl
          | 2, e => cases e; exact (n rfl).elim
          | 3, e => cases e; exact (n rfl).elim
          | 4, e => cases e; exact (n rfl).elim
        have off : ∀ c, H c = none → c ∉ ws := fun c e m => R.wsH c m e
        have da : Da K (mns ws H') (.ref p) (.dct (trsD C (recs l))) := by
          rw [← eF]
          refine .dct (.inl (mns_of (off p np) fo.top)) ?_ (fnd_das fun x hx => mns_of (off _ (fr x hx)) (fo.each x hx))
          unfold kvsF trsD
          rw [List.map_map, List.map_map, List.map_map]
          rfl
        exact ⟨_, rfl, L.rt _ _ _ _ _ _ k trivial (R2.imm da)⟩

    · refine ⟨_, rfl, .inr ⟨b2, xs, rfl, q _ g0, for_en (a := b2) (xs := xs) (fun i σ' H' => ∃ x3 x4 F, σ' = [some v1, some (.ref b2), some (.ref p), x3, x4] ∧ FoA C H' p F ∧ F.map (·.1) = recs (l.take i) ∧ Grw H H' ∧ ∀ x ∈ F, H x.2.1 = none) _ (.inr ⟨rfl, fun i σ' H' _ ⟨_, _, _, _, _, _, gr, _⟩ => q H' gr⟩) ?_ ?_ ?_⟩⟩
      · exact ⟨a3, a4, [], rfl, ⟨upd_same, fun x hx => absurd hx List.not_mem_nil, .nil⟩, rfl, g0, fun x hx => absurd hx List.not_mem_nil⟩
      · rintro i x σ' H' Tn ex ⟨x3, x4, F, rfl, fo, eF, gr, fr⟩ nT
        obtain ⟨dd, ed, hdd⟩ := das.getV ex
        rw [List.getElem?_map] at ed
        obtain ⟨e, ee, rfl⟩ := Option.map_eq_some_iff.mp ed
        obtain ⟨be, rfl, sqe⟩ := ev_das hdd
        have gT : Grw H' (upd H' Tn (.tup [.int (i : Nat), .ref be])) := Grw.new nT
        have gA := gr.trans gT
        refine ⟨Tn, _, rfl, SqT.of upd_same, rfl, _, _, rfl, _, _, rfl, rfl, ?_⟩
        obtain ⟨st1, st2⟩ := recs_step g ee
        refine ⟨_, rfl, _, rfl, _, rfl, p, be, i, e, F, rfl, (Le.ofN gA.keep).sqT (mns_le.sqT sqe), fo.grow gT.keep, ?_, by rw [eF]; exact st2, ?_, ?_⟩
        · rw [eF]; exact recs_nodup (good_take g i)
        · have := congrArg List.length eF
          rw [List.length_map] at this
          have h3 := recs_len (l.take i)
          rw [List.length_take] at h3
          omega
        · intro H2 F2 fo2 e2 k2 t2 s2 n2
          have g2 : Grw H H2 := ⟨fun c o ec nt => k2 c o (gA.keep c o ec nt) (fun m => ?_) nt, fun P q t => t2 P q (gA.tab P q t), fun c n => s2 c (gA.stay c n)⟩
          · refine ⟨_, rfl, iteF ?_⟩
            refine ⟨_, _, F2, rfl, fo2, by rw [e2, eF, st1], g2, fun y hy => ?_⟩
            rcases n2 y hy with m | m
            · rcases List.mem_cons.mp m with z | m
              · rw [z]; exact np
              · obtain ⟨z, hz, e⟩ := List.mem_map.mp m
                rw [← e]; exact fr z hz
            · cases z : H y.2.1 with
              | none => rfl
              | some u => exact (gA.stay _ (by rw [z]; simp) m).elim
          · rcases List.mem_cons.mp m with z | m
            · rw [z, np] at ec; cases ec
            · obtain ⟨z, hz, e⟩ := List.mem_map.mp m
              rw [← e, fr z hz] at ec; cases ec
      · rintro σ' H' ⟨x3, x4, F, rfl, fo, eF, gr, fr⟩
        rw [eq2, List.take_length] at eF
        have R2 : Rel K B π [.imm d1, .imm d2, .no, .no, .no] [some v1, some (.ref b2), some (.ref p), x3, x4] H' ws := Rel_st (gr.rel R) nh rfl fun i x e n => by
          match i, e with
          | 0, _ => rfl
          | 1, _ => rfl
          | 2, e => cases e; exact (n rfl).elim
          | 3, e => cases e; exact (n rfl).elim
          | 4, e => cases e; exact (n rfl).elim
        have off : ∀ c, H c = none → c ∉ ws := fun c e m => R.wsH c m e
        have da : Da K (mns ws H') (.ref p) (.dct (trsD C (recs l))) := by
          rw [← eF]
          refine .dct (.inl (mns_of (off p np) fo.top)) ?_ (fnd_das fun x hx => mns_of (off _ (fr x hx)) (fo.each x hx))
          unfold kvsF trsD
          rw [List.map_map, List.map_map, List.map_map]
          rfl
        exact ⟨_, rfl, L.rt _ _ _ _ _ _ k trivial (R2.imm da)⟩

theorem ok_transfers_of {f fT C : Addr} {fd fdT : FuncData} (F : Fun K "transfers_of" "transfers_of" s_transfers_of f fd) (T : T0 mg) (HN : HasD P w K mg base CX0 4 "need_first" ["first"] 1 t_need_first)
    (GT : FnG P w K mg base CX0 4 fT fdT ["found", "event", "at"] (spTakes K C)) (mT : mg "takes" = some (.ref fT)) (kT : PySem.W.keepIn K (.ref fT) = true) (bT : L2.Binds K fdT ["found", "event", "at"] []) :
    FnG P w K mg base CX0 5 f fd ["first", "events"] (spD K 2 (t_transfers C)) := by
  refine fun_d F sc_transfers_of (fun cdv A outer s H E gd hr => ⟨_, have hu := hu_of hr; dss_cons (ds_expr (de_callH [false] HN gd hr (by decide) (by rfl) pass0 (da_cons (dv 0) da_nil))) (dss_cons (ds_if (dt_not (dt_val (de_isi2 (K := K) (T1 := "list") (T2 := "tuple") (by decide) (by decide) (dv 1) T.isinstance_ (by rfl) (by rfl) T.list_ (by decide +kernel) (by rfl) T.tuple_ (by decide +kernel))))
        (dss_one ds_never)
        dss_nil) (hand_trs T GT mT kT bT cdv A outer s H E gd hr).choose_spec)⟩) fun args er q hl h => ?_

  obtain ⟨d1, d2, o, l, rfl, hd1, nd, few1, hd2, g, few, k⟩ := h
  simp only [dBody, dSeq, dNext, dBreak, dCont, dDrop, dRet, dRetN, dIfS, dAsg, dgName, dgNil, dgsName, dgsPut, dgUn, dPar, dPar3, dVar, dC, dTake, dFrz, mkS, dBin, dBinO, dTest, dTru, dUn, dIsN, isNonB, dAnd, dOr, dNot, dAndV, dOrV, dNotV, asB, dIf, cnd, dNil, dCons, dTup, dLst, dNewD, dSub, dSl, dSlO, dNoPart, dPart, dIsi, dCallB, dCallO, wds, sds, wd, sd, rsv, Sl.dat, stv, notPar, Sl.with_, dCall, dCallK, argC, arC, useS, kindsB, Ar.sl, cond, ownL, ownD, upS, dLM, dLM0, isOwnL, isOwnD, dPop1, dPop2, dGet1, dGet2, isDct, dDput, dLput, dLput.known, dFld, dMth, dMth0, tyOk, dChain, dAugI, List.map_cons, List.map_nil, List.cons_append, List.nil_append, List.append_nil, List.length_cons, List.length_nil, List.replicate, List.getElem?_cons_zero, List.getElem?_cons_succ, List.getElem?_nil, List.set_cons_zero, List.set_cons_succ, Option.getD_some, Option.getD_none, Nat.reduceAdd, Nat.reduceSub, dNever, dYes, Nat.zero_le, dLc, dG, dSeqI, dOwnI, dLcD, dctS, dDc, dDcD, dFor, dForD, dRng1, dRng2, dEnum, noPar, wipeD, eqW, neW, D.key, itemsOf, keysOf, valsOf, gdT, isTy, tyD, notIns, List.any_cons, List.any_nil, Bool.or_false, Bool.or_true, Bool.true_or, Bool.false_or, Bool.not_true, Bool.not_false, String.reduceBEq, beq_self_eq_true, true_and, and_true, selN, sel, List.filterMap_cons, List.filterMap_nil, backR, back1, cleanR, clean1, clnR, List.tail_cons, List.head?_cons, List.not_mem_nil, false_implies, implies_true, List.nodup_nil, List.nodup_cons, not_false_eq_true, Ev.len_lst, Ev.len_tup, Ev.len_dct, Ev.len_set, Ev.len_str, Ev.add_int, Ev.add_str, Ev.add_tup, Ev.add_lst, Ev.mul_int, Ev.mul_lst, Ev.sub_lst, Ev.sub_tup, Ev.sub_str, Ev.sub_dctI, Ev.sub_dctS, Ev.cut_lst, Ev.cut_tup, Ev.cutL_lst, Ev.in_lst, Ev.in_tup, Ev.in_dctI, Ev.in_dctS, Ev.wI0_int, Ev.wII_int, Ev.neg_int, Ev.index_lst, Ev.set_lst, Ev.set_tup, Ev.all_lst, Ev.any_lst, Ev.list_lst, Ev.list_tup, Ev.list_dct, Ev.repr_one, Ev.dict_lst, Ev.tup_lst, Ev.tup_tup, Ev.append_one, Ev.pop_none, Ev.popAt_one, Ev.clear_none, Ev.extend_one, Ev.remove_one, Ev.seq_lst, Ev.seq_tup, Ev.enum_lst, Ev.enum_tup, Ev.int1_int, Ev.int2_int, Ev.int_int, Ev.max_int, Ev.min_int, Ev.opt_some, Ev.tru_lst, Ev.tru_tup, Ev.tru_int, Ev.par_imm, Ev.par_own, Ev.par_no, Ev.par_drw]
  refine ⟨d1, o, rfl, hd1, few1, nd, fun ρ' => ?_⟩
  simp only [dBody, dSeq, dNext, dBreak, dCont, dDrop, dRet, dRetN, dIfS, dAsg, dgName, dgNil, dgsName, dgsPut, dgUn, dPar, dPar3, dVar, dC, dTake, dFrz, mkS, dBin, dBinO, dTest, dTru, dUn, dIsN, isNonB, dAnd, dOr, dNot, dAndV, dOrV, dNotV, asB, dIf, cnd, dNil, dCons, dTup, dLst, dNewD, dSub, dSl, dSlO, dNoPart, dPart, dIsi, dCallB, dCallO, wds, sds, wd, sd, rsv, Sl.dat, stv, notPar, Sl.with_, dCall, dCallK, argC, arC, useS, kindsB, Ar.sl, cond, ownL, ownD, upS, dLM, dLM0, isOwnL, isOwnD, dPop1, dPop2, dGet1, dGet2, isDct, dDput, dLput, dLput.known, dFld, dMth, dMth0, tyOk, dChain, dAugI, List.map_cons, List.map_nil, List.cons_append, List.nil_append, List.append_nil, List.length_cons, List.length_nil, List.replicate, List.getElem?_cons_zero, List.getElem?_cons_succ, List.getElem?_nil, List.set_cons_zero, List.set_cons_succ, Option.getD_some, Option.getD_none, Nat.reduceAdd, Nat.reduceSub, dNever, dYes, Nat.zero_le, dLc, dG, dSeqI, dOwnI, dLcD, dctS, dDc, dDcD, dFor, dForD, dRng1, dRng2, dEnum, noPar, wipeD, eqW, neW, D.key, itemsOf, keysOf, valsOf, gdT, isTy, tyD, notIns, List.any_cons, List.any_nil, Bool.or_false, Bool.or_true, Bool.true_or, Bool.false_or, Bool.not_true, Bool.not_false, String.reduceBEq, beq_self_eq_true, true_and, and_true, selN, sel, List.filterMap_cons, List.filterMap_nil, backR, back1, cleanR, clean1, clnR, List.tail_cons, List.head?_cons, List.not_mem_nil, false_implies, implies_true, List.nodup_nil, List.nodup_cons, not_false_eq_true, Ev.len_lst, Ev.len_tup, Ev.len_dct, Ev.len_set, Ev.len_str, Ev.add_int, Ev.add_str, Ev.add_tup, Ev.add_lst, Ev.mul_int, Ev.mul_lst, Ev.sub_lst, Ev.sub_tup, Ev.sub_str, Ev.sub_dctI, Ev.sub_dctS, Ev.cut_lst, Ev.cut_tup, Ev.cutL_lst, Ev.in_lst, Ev.in_tup, Ev.in_dctI, Ev.in_dctS, Ev.wI0_int, Ev.wII_int, Ev.neg_int, Ev.index_lst, Ev.set_lst, Ev.set_tup, Ev.all_lst, Ev.any_lst, Ev.list_lst, Ev.list_tup, Ev.list_dct, Ev.repr_one, Ev.dict_lst, Ev.tup_lst, Ev.tup_tup, Ev.append_one, Ev.pop_none, Ev.popAt_one, Ev.clear_none, Ev.extend_one, Ev.remove_one, Ev.seq_lst, Ev.seq_tup, Ev.enum_lst, Ev.enum_tup, Ev.int1_int, Ev.int2_int, Ev.int_int, Ev.max_int, Ev.min_int, Ev.opt_some, Ev.tru_lst, Ev.tru_tup, Ev.tru_int, Ev.par_imm, Ev.par_own, Ev.par_no, Ev.par_drw]
  rcases hd2 with rfl | rfl
  · simp only [dBody, dSeq, dNext, dBreak, dCont, dDrop, dRet, dRetN, dIfS, dAsg, dgName, dgNil, dgsName, dgsPut, dgUn, dPar, dPar3, dVar, dC, dTake, dFrz, mkS, dBin, dBinO, dTest, dTru, dUn, dIsN, isNonB, dAnd, dOr, dNot, dAndV, dOrV, dNotV, asB, dIf, cnd, dNil, dCons, dTup, dLst, dNewD, dSub, dSl, dSlO, dNoPart, dPart, dIsi, dCallB, dCallO, wds, sds, wd, sd, rsv, Sl.dat, stv, notPar, Sl.with_, dCall, dCallK, argC, arC, useS, kindsB, Ar.sl, cond, ownL, ownD, upS, dLM, dLM0, isOwnL, isOwnD, dPop1, dPop2, dGet1, dGet2, isDct, dDput, dLput, dLput.known, dFld, dMth, dMth0, tyOk, dChain, dAugI, List.map_cons, List.map_nil, List.cons_append, List.nil_append, List.append_nil, List.length_cons, List.length_nil, List.replicate, List.getElem?_cons_zero, List.getElem?_cons_succ, List.getElem?_nil, List.set_cons_zero, List.set_cons_succ, Option.getD_some, Option.getD_none, Nat.reduceAdd, Nat.reduceSub, dNever, dYes, Nat.zero_le, dLc, dG, dSeqI, dOwnI, dLcD, dctS, dDc, dDcD, dFor, dForD, dRng1, dRng2, dEnum, noPar, wipeD, eqW, neW, D.key, itemsOf, keysOf, valsOf, gdT, isTy, tyD, notIns, List.any_cons, List.any_nil, Bool.or_false, Bool.or_true, Bool.true_or, Bool.false_or, Bool.not_true, Bool.not_false, String.reduceBEq, beq_self_eq_true, true_and, and_true, selN, sel, List.filterMap_cons, List.filterMap_nil, backR, back1, cleanR, clean1, clnR, List.tail_cons, List.head?_cons, List.not_mem_nil, false_implies, implies_true, List.nodup_nil, List.nodup_cons, not_false_eq_true, Ev.len_lst, Ev.len_tup, Ev.len_dct, Ev.len_set, Ev.len_str, Ev.add_int, Ev.add_str, Ev.add_tup, Ev.add_lst, Ev.mul_int, Ev.mul_lst, Ev.sub_lst, Ev.sub_tup, Ev.sub_str, Ev.sub_dctI, Ev.sub_dctS, Ev.cut_lst, Ev.cut_tup, Ev.cutL_lst, Ev.in_lst, Ev.in_tup, Ev.in_dctI, Ev.in_dctS, Ev.wI0_int, Ev.wII_int, Ev.neg_int, Ev.index_lst, Ev.set_lst, Ev.set_tup, Ev.all_lst, Ev.any_lst, Ev.list_lst, Ev.list_tup, Ev.list_dct, Ev.repr_one, Ev.dict_lst, Ev.tup_lst, Ev.tup_tup, Ev.append_one, Ev.pop_none, Ev.popAt_one, Ev.clear_none, Ev.extend_one, Ev.remove_one, Ev.seq_lst, Ev.seq_tup, Ev.enum_lst, Ev.enum_tup, Ev.int1_int, Ev.int2_int, Ev.int_int, Ev.max_int, Ev.min_int, Ev.opt_some, Ev.tru_lst, Ev.tru_tup, Ev.tru_int, Ev.par_imm, Ev.par_own, Ev.par_no, Ev.par_drw]
    exact ⟨d1, _, l, rfl, .inl rfl, g, few, k _⟩
  · simp only [dBody, dSeq, dNext, dBreak, dCont, dDrop, dRet, dRetN, dIfS, dAsg, dgName, dgNil, dgsName, dgsPut, dgUn, dPar, dPar3, dVar, dC, dTake, dFrz, mkS, dBin, dBinO, dTest, dTru, dUn, dIsN, isNonB, dAnd, dOr, dNot, dAndV, dOrV, dNotV, asB, dIf, cnd, dNil, dCons, dTup, dLst, dNewD, dSub, dSl, dSlO, dNoPart, dPart, dIsi, dCallB, dCallO, wds, sds, wd, sd, rsv, Sl.dat, stv, notPar, Sl.with_, dCall, dCallK, argC, arC, useS, kindsB, Ar.sl, cond, ownL, ownD, upS, dLM, dLM0, isOwnL, isOwnD, dPop1, dPop2, dGet1, dGet2, isDct, dDput, dLput, dLput.known, dFld, dMth, dMth0, tyOk, dChain, dAugI, List.map_cons, List.map_nil, List.cons_append, List.nil_append, List.append_nil, List.length_cons, List.length_nil, List.replicate, List.getElem?_cons_zero, List.getElem?_cons_succ, List.getElem?_nil, List.set_cons_zero, List.set_cons_succ, Option.getD_some, Option.getD_none, Nat.reduceAdd, Nat.reduceSub, dNever, dYes, Nat.zero_le, dLc, dG, dSeqI, dOwnI, dLcD, dctS, dDc, dDcD, dFor, dForD, dRng1, dRng2, dEnum, noPar, wipeD, eqW, neW, D.key, itemsOf, keysOf, valsOf, gdT, isTy, tyD, notIns, List.any_cons, List.any_nil, Bool.or_false, Bool.or_true, Bool.true_or, Bool.false_or, Bool.not_true, Bool.not_false, String.reduceBEq, beq_self_eq_true, true_and, and_true, selN, sel, List.filterMap_cons, List.filterMap_nil, backR, back1, cleanR, clean1, clnR, List.tail_cons, List.head?_cons, List.not_mem_nil, false_implies, implies_true, List.nodup_nil, List.nodup_cons, not_false_eq_true, Ev.len_lst, Ev.len_tup, Ev.len_dct, Ev.len_set, Ev.len_str, Ev.add_int, Ev.add_str, Ev.add_tup, Ev.add_lst, Ev.mul_int, Ev.mul_lst, Ev.sub_lst, Ev.sub_tup, Ev.sub_str, Ev.sub_dctI, Ev.sub_dctS, Ev.cut_lst, Ev.cut_tup, Ev.cutL_lst, Ev.in_lst, Ev.in_tup, Ev.in_dctI, Ev.in_dctS, Ev.wI0_int, Ev.wII_int, Ev.neg_int, Ev.index_lst, Ev.set_lst, Ev.set_tup, Ev.all_lst, Ev.any_lst, Ev.list_lst, Ev.list_tup, Ev.list_dct, Ev.repr_one, Ev.dict_lst, Ev.tup_lst, Ev.tup_tup, Ev.append_one, Ev.pop_none, Ev.popAt_one, Ev.clear_none, Ev.extend_one, Ev.remove_one, Ev.seq_lst, Ev.seq_tup, Ev.enum_lst, Ev.enum_tup, Ev.int1_int, Ev.int2_int, Ev.int_int, Ev.max_int, Ev.min_int, Ev.opt_some, Ev.tru_lst, Ev.tru_tup, Ev.tru_int, Ev.par_imm, Ev.par_own, Ev.par_no, Ev.par_drw]
    exact ⟨d1, _, l, rfl, .inr rfl, g, few, k _⟩
end
end Bm
set_option maxRecDepth 100000
set_option maxHeartbeats 4000000
namespace Bm
open PySem PySem.Spec L2 L3 LamX Dl PyProof.Rows

theorem all_mk {l : PySem.W.OpenLaw} {w : World} {K : PySem.W.Frag} {h : Heap} {mg : Str → Option Value} {fa : Addr} (X : K.In h) (G : h.Ns mainGlobals mg) (hfa : mg "law" = some (.ref fa))
    {tNE : Tok} {C : Addr} {aKi : Addr} {odKi : Option Addr} {nKi : Nat} {slKi : Array (Option Value)} {tKa tKb : Tok} {fII : Addr} {odII anII : Option Addr} {slII : Array (Option Value)} {ocII kVII dcII pmII ctII : Value} {cdII : Value} {fAD : Addr} {odAD anAD : Option Addr} {slAD : Array (Option Value)} {ocAD kVAD dcAD pmAD ctAD : Value} {cdAD : Value} {fNF : Addr} {odNF anNF : Option Addr} {slNF : Array (Option Value)} {ocNF kVNF dcNF pmNF ctNF : Value} {cdNF : Value} {fIB : Addr} {odIB anIB : Option Addr} {slIB : Array (Option Value)} {ocIB kVIB dcIB pmIB ctIB : Value} {cdIB : Value} {fTa : Addr} {odTa anTa : Option Addr} {slTa : Array (Option Value)} {ocTa kVTa dcTa pmTa ctTa : Value} {cdTa : Value} {fTO : Addr} {odTO anTO : Option Addr} {slTO : Array (Option Value)} {ocTO kVTO dcTO pmTO ctTO : Value} {cdTO : Value} {fUW : Addr} {odUW anUW : Option Addr} {slUW : Array (Option Value)} {ocUW kVUW dcUW pmUW ctUW : Value} {cdUW : Value} {fSp : Addr} {odSp anSp : Option Addr} {slSp : Array (Option Value)} {ocSp kVSp dcSp pmSp ctSp : Value} {cdSp : Value} {fDi : Addr} {odDi anDi : Option Addr} {slDi : Array (Option Value)} {ocDi kVDi dcDi pmDi ctDi : Value} {cdDi : Value} {fPi : Addr} {odPi anPi : Option Addr} {slPi : Array (Option Value)} {ocPi kVPi dcPi pmPi ctPi : Value} {cdPi : Value} {fSh : Addr} {odSh anSh : Option Addr} {slSh : Array (Option Value)} {ocSh kVSh dcSh pmSh ctSh : Value} {cdSh : Value} {fAr : Addr} {odAr anAr : Option Addr} {slAr : Array (Option Value)} {ocAr kVAr dcAr pmAr ctAr : Value} {cdAr : Value} {fLi : Addr} {odLi anLi : Option Addr} {slLi : Array (Option Value)} {ocLi kVLi dcLi pmLi ctLi : Value} {cdLi : Value} {fSo : Addr} {odSo anSo : Option Addr} {slSo : Array (Option Value)} {ocSo kVSo dcSo pmSo ctSo : Value} {cdSo : Value} {fLe : Addr} {odLe anLe : Option Addr} {slLe : Array (Option Value)} {ocLe kVLe dcLe pmLe ctLe : Value} {cdLe : Value} {fRu : Addr} {odRu anRu : Option Addr} {slRu : Array (Option Value)} {ocRu kVRu dcRu pmRu ctRu : Value} {cdRu : Value} {fSt : Addr} {odSt anSt : Option Addr} {slSt : Array (Option Value)} {ocSt kVSt dcSt pmSt ctSt : Value} {cdSt : Value} {fDr : Addr} {odDr anDr : Option Addr} {slDr : Array (Option Value)} {ocDr kVDr dcDr pmDr ctDr : Value} {cdDr : Value} {fLa : Addr} {odLa anLa : Option Addr} {slLa : Array (Option Value)} {ocLa kVLa dcLa pmLa ctLa : Value} {cdLa : Value} {fIn : Addr} {odIn anIn : Option Addr} {slIn : Array (Option Value)} {ocIn kVIn dcIn pmIn ctIn : Value} {cdIn : Value}
    (zisinstance : PySem.W.nsIn K mainGlobals "isinstance" = some none)
    (zint : PySem.W.nsIn K mainGlobals "int" = some none)
    (zbool : PySem.W.nsIn K mainGlobals "bool" = some none)
    (zstr : PySem.W.nsIn K mainGlobals "str" = some none)
    (zlist : PySem.W.nsIn K mainGlobals "list" = some none)
    (ztuple : PySem.W.nsIn K mainGlobals "tuple" = some none)
    (zdict : PySem.W.nsIn K mainGlobals "dict" = some none)
    (zset : PySem.W.nsIn K mainGlobals "set" = some none)
    (zlen : PySem.W.nsIn K mainGlobals "len" = some none)
    (zall : PySem.W.nsIn K mainGlobals "all" = some none)
    (zabs : PySem.W.nsIn K mainGlobals "abs" = some none)
    (zrange : PySem.W.nsIn K mainGlobals "range" = some none)
    (zenumerate : PySem.W.nsIn K mainGlobals "enumerate" = some none)
    (zsorted : PySem.W.nsIn K mainGlobals "sorted" = some none)
    (zrepr : PySem.W.nsIn K mainGlobals "repr" = some none)
    (aNE : PySem.W.nsIn K mainGlobals "NEVER" = some (some (.int (-1) tNE)))
    (aC : PySem.W.nsIn K mainGlobals "Transfer" = some (some (.ref C)))
    (aKI : PySem.W.nsIn K mainGlobals "KINDS" = some (some (.ref aKi)))
    (lKI : K.lookup aKi = some ⟨.type "tuple", odKi, .seq #[.str "copy" tKa, .str "move" tKb] nKi, slKi⟩)
    (aII : PySem.W.nsIn K mainGlobals "is_integer" = some (some (.ref fII)))
    (lII : K.lookup fII = some ⟨ocII, odII, .func (PySem.W.fnOf "is_integer" "is_integer" (defArgs s_is_integer) (defBody s_is_integer) (defScope s_is_integer) .none kVII dcII pmII anII cdII ctII), slII⟩)
    (cII : PySem.W.codeIn K cdII "is_integer" = true)
    (kII : PySem.W.keepIn K (.ref fII) = true)
    (aAD : PySem.W.nsIn K mainGlobals "are_different" = some (some (.ref fAD)))
    (lAD : K.lookup fAD = some ⟨ocAD, odAD, .func (PySem.W.fnOf "are_different" "are_different" (defArgs s_are_different) (defBody s_are_different) (defScope s_are_different) .none kVAD dcAD pmAD anAD cdAD ctAD), slAD⟩)
    (cAD : PySem.W.codeIn K cdAD "are_different" = true)
    (kAD : PySem.W.keepIn K (.ref fAD) = true)
    (aNF : PySem.W.nsIn K mainGlobals "need_first" = some (some (.ref fNF)))
    (lNF : K.lookup fNF = some ⟨ocNF, odNF, .func (PySem.W.fnOf "need_first" "need_first" (defArgs s_need_first) (defBody s_need_first) (defScope s_need_first) .none kVNF dcNF pmNF anNF cdNF ctNF), slNF⟩)
    (cNF : PySem.W.codeIn K cdNF "need_first" = true)
    (kNF : PySem.W.keepIn K (.ref fNF) = true)
    (aIB : PySem.W.nsIn K mainGlobals "is_begin" = some (some (.ref fIB)))
    (lIB : K.lookup fIB = some ⟨ocIB, odIB, .func (PySem.W.fnOf "is_begin" "is_begin" (defArgs s_is_begin) (defBody s_is_begin) (defScope s_is_begin) .none kVIB dcIB pmIB anIB cdIB ctIB), slIB⟩)
    (cIB : PySem.W.codeIn K cdIB "is_begin" = true)
    (kIB : PySem.W.keepIn K (.ref fIB) = true)
    (aTa : PySem.W.nsIn K mainGlobals "takes" = some (some (.ref fTa)))
    (lTa : K.lookup fTa = some ⟨ocTa, odTa, .func (PySem.W.fnOf "takes" "takes" (defArgs s_takes) (defBody s_takes) (defScope s_takes) .none kVTa dcTa pmTa anTa cdTa ctTa), slTa⟩)
    (cTa : PySem.W.codeIn K cdTa "takes" = true)
    (kTa : PySem.W.keepIn K (.ref fTa) = true)
    (aTO : PySem.W.nsIn K mainGlobals "transfers_of" = some (some (.ref fTO)))
    (lTO : K.lookup fTO = some ⟨ocTO, odTO, .func (PySem.W.fnOf "transfers_of" "transfers_of" (defArgs s_transfers_of) (defBody s_transfers_of) (defScope s_transfers_of) .none kVTO dcTO pmTO anTO cdTO ctTO), slTO⟩)
    (cTO : PySem.W.codeIn K cdTO "transfers_of" = true)
    (kTO : PySem.W.keepIn K (.ref fTO) = true)
    (aUW : PySem.W.nsIn K mainGlobals "under_way" = some (some (.ref fUW)))
    (lUW : K.lookup fUW = some ⟨ocUW, odUW, .func (PySem.W.fnOf "under_way" "under_way" (defArgs s_under_way) (defBody s_under_way) (defScope s_under_way) .none kVUW dcUW pmUW anUW cdUW ctUW), slUW⟩)
    (cUW : PySem.W.codeIn K cdUW "under_way" = true)
    (kUW : PySem.W.keepIn K (.ref fUW) = true)
    (aSp : PySem.W.nsIn K mainGlobals "spread" = some (some (.ref fSp)))
    (lSp : K.lookup fSp = some ⟨ocSp, odSp, .func (PySem.W.fnOf "spread" "spread" (defArgs s_spread) (defBody s_spread) (defScope s_spread) .none kVSp dcSp pmSp anSp cdSp ctSp), slSp⟩)
    (cSp : PySem.W.codeIn K cdSp "spread" = true)
    (kSp : PySem.W.keepIn K (.ref fSp) = true)
    (aDi : PySem.W.nsIn K mainGlobals "dirty" = some (some (.ref fDi)))
    (lDi : K.lookup fDi = some ⟨ocDi, odDi, .func (PySem.W.fnOf "dirty" "dirty" (defArgs s_dirty) (defBody s_dirty) (defScope s_dirty) .none kVDi dcDi pmDi anDi cdDi ctDi), slDi⟩)
    (cDi : PySem.W.codeIn K cdDi "dirty" = true)
    (kDi : PySem.W.keepIn K (.ref fDi) = true)
    (aPi : PySem.W.nsIn K mainGlobals "_law_pick" = some (some (.ref fPi)))
    (lPi : K.lookup fPi = some ⟨ocPi, odPi, .func (PySem.W.fnOf "_law_pick" "_law_pick" (defArgs s__law_pick) (defBody s__law_pick) (defScope s__law_pick) .none kVPi dcPi pmPi anPi cdPi ctPi), slPi⟩)
    (cPi : PySem.W.codeIn K cdPi "_law_pick" = true)
    (kPi : PySem.W.keepIn K (.ref fPi) = true)
    (aSh : PySem.W.nsIn K mainGlobals "_law_shuffled" = some (some (.ref fSh)))
    (lSh : K.lookup fSh = some ⟨ocSh, odSh, .func (PySem.W.fnOf "_law_shuffled" "_law_shuffled" (defArgs s__law_shuffled) (defBody s__law_shuffled) (defScope s__law_shuffled) .none kVSh dcSh pmSh anSh cdSh ctSh), slSh⟩)
    (cSh : PySem.W.codeIn K cdSh "_law_shuffled" = true)
    (kSh : PySem.W.keepIn K (.ref fSh) = true)
    (aAr : PySem.W.nsIn K mainGlobals "_law_areas" = some (some (.ref fAr)))
    (lAr : K.lookup fAr = some ⟨ocAr, odAr, .func (PySem.W.fnOf "_law_areas" "_law_areas" (defArgs s__law_areas) (defBody s__law_areas) (defScope s__law_areas) .none kVAr dcAr pmAr anAr cdAr ctAr), slAr⟩)
    (cAr : PySem.W.codeIn K cdAr "_law_areas" = true)
    (kAr : PySem.W.keepIn K (.ref fAr) = true)
    (aLi : PySem.W.nsIn K mainGlobals "_law_line" = some (some (.ref fLi)))
    (lLi : K.lookup fLi = some ⟨ocLi, odLi, .func (PySem.W.fnOf "_law_line" "_law_line" (defArgs s__law_line) (defBody s__law_line) (defScope s__law_line) .none kVLi dcLi pmLi anLi cdLi ctLi), slLi⟩)
    (cLi : PySem.W.codeIn K cdLi "_law_line" = true)
    (kLi : PySem.W.keepIn K (.ref fLi) = true)
    (aSo : PySem.W.nsIn K mainGlobals "_law_some" = some (some (.ref fSo)))
    (lSo : K.lookup fSo = some ⟨ocSo, odSo, .func (PySem.W.fnOf "_law_some" "_law_some" (defArgs s__law_some) (defBody s__law_some) (defScope s__law_some) .none kVSo dcSo pmSo anSo cdSo ctSo), slSo⟩)
    (cSo : PySem.W.codeIn K cdSo "_law_some" = true)
    (kSo : PySem.W.keepIn K (.ref fSo) = true)
    (aLe : PySem.W.nsIn K mainGlobals "_law_led" = some (some (.ref fLe)))
    (lLe : K.lookup fLe = some ⟨ocLe, odLe, .func (PySem.W.fnOf "_law_led" "_law_led" (defArgs s__law_led) (defBody s__law_led) (defScope s__law_led) .none kVLe dcLe pmLe anLe cdLe ctLe), slLe⟩)
    (cLe : PySem.W.codeIn K cdLe "_law_led" = true)
    (kLe : PySem.W.keepIn K (.ref fLe) = true)
    (aRu : PySem.W.nsIn K mainGlobals "_law_ruled" = some (some (.ref fRu)))
    (lRu : K.lookup fRu = some ⟨ocRu, odRu, .func (PySem.W.fnOf "_law_ruled" "_law_ruled" (defArgs s__law_ruled) (defBody s__law_ruled) (defScope s__law_ruled) .none kVRu dcRu pmRu anRu cdRu ctRu), slRu⟩)
    (cRu : PySem.W.codeIn K cdRu "_law_ruled" = true)
    (kRu : PySem.W.keepIn K (.ref fRu) = true)
    (aSt : PySem.W.nsIn K mainGlobals "_law_begun" = some (some (.ref fSt)))
    (lSt : K.lookup fSt = some ⟨ocSt, odSt, .func (PySem.W.fnOf "_law_begun" "_law_begun" (defArgs sState) (defBody sState) (defScope sState) .none kVSt dcSt pmSt anSt cdSt ctSt), slSt⟩)
    (cSt : PySem.W.codeIn K cdSt "_law_begun" = true)
    (kSt : PySem.W.keepIn K (.ref fSt) = true)
    (aDr : PySem.W.nsIn K mainGlobals "_law_draw" = some (some (.ref fDr)))
    (lDr : K.lookup fDr = some ⟨ocDr, odDr, .func (PySem.W.fnOf "_law_draw" "_law_draw" (defArgs sDraw) (defBody sDraw) (defScope sDraw) .none kVDr dcDr pmDr anDr cdDr ctDr), slDr⟩)
    (cDr : PySem.W.codeIn K cdDr "_law_draw" = true)
    (kDr : PySem.W.keepIn K (.ref fDr) = true)
    (aLa : PySem.W.nsIn K mainGlobals "law" = some (some (.ref fLa)))
    (lLa : K.lookup fLa = some ⟨ocLa, odLa, .func (PySem.W.fnOf "law" "law" (defArgs s_law) (defBody s_law) (defScope s_law) .none kVLa dcLa pmLa anLa cdLa ctLa), slLa⟩)
    (cLa : PySem.W.codeIn K cdLa "law" = true)
    (kLa : PySem.W.keepIn K (.ref fLa) = true)
    (pgC : PySem.W.plainGet K C Str.empty = true)
    (hdC : PySem.W.hasDictIn K C = true)
    (poC : PySem.W.plainOver K C = true)
    (saC : PySem.W.findIn K (.ref C) "__setattr__" = some (some (.builtin "object.__setattr__")))
    (mkC : PySem.W.makesIn K C = true)
    (kC : PySem.W.keepIn K (.ref C) = true)
    (n1C : PySem.W.findIn K (.ref C) "kind" = some none)
    (n2C : PySem.W.findIn K (.ref C) "source" = some none)
    (n3C : PySem.W.findIn K (.ref C) "target" = some none)
    (n4C : PySem.W.findIn K (.ref C) "began" = some none)
    (n5C : PySem.W.findIn K (.ref C) "ended" = some none)
    (ccC : PySem.W.findIn K (.ref C) "__class__" = some (some (.builtin "object.__class__")))
    (cmC : PySem.W.mroIn K C (.type "object") = some true)
    (aIn : PySem.W.findIn K (.ref C) "__init__" = some (some (.ref fIn)))
    (iIn : PySem.W.isFn K (.ref fIn) = true)
    (lIn : K.lookup fIn = some ⟨ocIn, odIn, .func (PySem.W.fnOf "__init__" "Transfer.__init__" (defArgs s_Transfer_init) (defBody s_Transfer_init) (defScope s_Transfer_init) .none kVIn dcIn pmIn anIn cdIn ctIn), slIn⟩)
    (cIn : PySem.W.codeIn K cdIn "Transfer.__init__" = true)
    (kIn : PySem.W.keepIn K (.ref fIn) = true)
     : LawG l w K CX0 8 63 "_law_script" mg fa h := by
  have e := hfa.symm.trans (PySem.W.mg_of X G aLa)
  cases e
  refine ⟨PySem.W.fnOf "law" "law" (defArgs s_law) (defBody s_law) (defScope s_law) .none kVLa dcLa pmLa anLa cdLa ctLa, [], spLaw K, fun p hp => (by cases hp), fun p hp => (by cases hp), fun p hp => (by cases hp), fun s v => .of_eq rfl, fun H a ns hl hH hS => ⟨a, ns, rfl, hS, hl, fun _ => rfl⟩, fun base kb hb hTB => ?_⟩
  have isinstance_ := PySem.W.mg_none_of X G zisinstance
  have int_ := PySem.W.mg_none_of X G zint
  have bool_ := PySem.W.mg_none_of X G zbool
  have str_ := PySem.W.mg_none_of X G zstr
  have list_ := PySem.W.mg_none_of X G zlist
  have tuple_ := PySem.W.mg_none_of X G ztuple
  have dict_ := PySem.W.mg_none_of X G zdict
  have set_ := PySem.W.mg_none_of X G zset
  have len_ := PySem.W.mg_none_of X G zlen
  have all_ := PySem.W.mg_none_of X G zall
  have abs_ := PySem.W.mg_none_of X G zabs
  have range_ := PySem.W.mg_none_of X G zrange
  have enumerate_ := PySem.W.mg_none_of X G zenumerate
  have sorted_ := PySem.W.mg_none_of X G zsorted
  have repr_ := PySem.W.mg_none_of X G zrepr
  have gNE := PySem.W.mg_of X G aNE
  have gC := PySem.W.mg_of X G aC
  have gKI := PySem.W.mg_of X G aKI
  have FII := fun_mk (st := s_is_integer) lII cII kII
  have bII := FII.binds (ps := ["value"]) fun _ _ _ _ _ _ us hl => match us, hl with | [_], _ => rfl
  have mII := PySem.W.mg_of X G aII
  have FAD := fun_mk (st := s_are_different) lAD cAD kAD
  have bAD := FAD.binds (ps := ["value"]) fun _ _ _ _ _ _ us hl => match us, hl with | [_], _ => rfl
  have mAD := PySem.W.mg_of X G aAD
  have FNF := fun_mk (st := s_need_first) lNF cNF kNF
  have bNF := FNF.binds (ps := ["first"]) fun _ _ _ _ _ _ us hl => match us, hl with | [_], _ => rfl
  have mNF := PySem.W.mg_of X G aNF
  have FIB := fun_mk (st := s_is_begin) lIB cIB kIB
  have bIB := FIB.binds (ps := ["event"]) fun _ _ _ _ _ _ us hl => match us, hl with | [_], _ => rfl
  have mIB := PySem.W.mg_of X G aIB
  have FTa := fun_mk (st := s_takes) lTa cTa kTa
  have bTa := FTa.binds (ps := ["found", "event", "at"]) fun _ _ _ _ _ _ us hl => match us, hl with | [_, _, _], _ => rfl
  have mTa := PySem.W.mg_of X G aTa
  have FTO := fun_mk (st := s_transfers_of) lTO cTO kTO
  have bTO := FTO.binds (ps := ["first", "events"]) fun _ _ _ _ _ _ us hl => match us, hl with | [_, _], _ => rfl
  have mTO := PySem.W.mg_of X G aTO
  have FUW := fun_mk (st := s_under_way) lUW cUW kUW
  have bUW := FUW.binds (ps := ["transfers", "many"]) fun _ _ _ _ _ _ us hl => match us, hl with | [_, _], _ => rfl
  have mUW := PySem.W.mg_of X G aUW
  have FSp := fun_mk (st := s_spread) lSp cSp kSp
  have bSp := FSp.binds (ps := ["dates", "transfers", "many"]) fun _ _ _ _ _ _ us hl => match us, hl with | [_, _, _], _ => rfl
  have mSp := PySem.W.mg_of X G aSp
  have FDi := fun_mk (st := s_dirty) lDi cDi kDi
  have bDi := FDi.binds (ps := ["first", "events"]) fun _ _ _ _ _ _ us hl => match us, hl with | [_, _], _ => rfl
  have mDi := PySem.W.mg_of X G aDi
  have FPi := fun_mk (st := s__law_pick) lPi cPi kPi
  have bPi := FPi.binds (ps := ["_law_state", "_law_some_here"]) fun _ _ _ _ _ _ us hl => match us, hl with | [_, _], _ => rfl
  have mPi := PySem.W.mg_of X G aPi
  have FSh := fun_mk (st := s__law_shuffled) lSh cSh kSh
  have bSh := FSh.binds (ps := ["_law_state", "_law_some_here"]) fun _ _ _ _ _ _ us hl => match us, hl with | [_, _], _ => rfl
  have mSh := PySem.W.mg_of X G aSh
  have FAr := fun_mk (st := s__law_areas) lAr cAr kAr
  have bAr := FAr.binds (ps := ["_law_state", "_law_most"]) fun _ _ _ _ _ _ us hl => match us, hl with | [_, _], _ => rfl
  have mAr := PySem.W.mg_of X G aAr
  have FLi := fun_mk (st := s__law_line) lLi cLi kLi
  have bLi := FLi.binds (ps := ["_law_state", "_law_nodes", "_law_size", "_law_most", "_law_is_free"]) fun _ _ _ _ _ _ us hl => match us, hl with | [_, _, _, _, _], _ => rfl
  have mLi := PySem.W.mg_of X G aLi
  have FSo := fun_mk (st := s__law_some) lSo cSo kSo
  have bSo := FSo.binds (ps := ["_law_state", "_law_things"]) fun _ _ _ _ _ _ us hl => match us, hl with | [_, _], _ => rfl
  have mSo := PySem.W.mg_of X G aSo
  have FLe := fun_mk (st := s__law_led) lLe cLe kLe
  have bLe := FLe.binds (ps := ["_law_dates", "_law_running", "_law_date"]) fun _ _ _ _ _ _ us hl => match us, hl with | [_, _, _], _ => rfl
  have mLe := PySem.W.mg_of X G aLe
  have FRu := fun_mk (st := s__law_ruled) lRu cRu kRu
  have bRu := FRu.binds (ps := ["_law_origin", "_law_line_here"]) fun _ _ _ _ _ _ us hl => match us, hl with | [_, _], _ => rfl
  have mRu := PySem.W.mg_of X G aRu
  have FSt := fun_mk (st := sState) lSt cSt kSt
  have bSt := FSt.binds (ps := ["_law_script"]) fun _ _ _ _ _ _ us hl => match us, hl with | [_], _ => rfl
  have mSt := PySem.W.mg_of X G aSt
  have FDr := fun_mk (st := sDraw) lDr cDr kDr
  have bDr := FDr.binds (ps := ["_law_state", "_law_bound"]) fun _ _ _ _ _ _ us hl => match us, hl with | [_, _], _ => rfl
  have mDr := PySem.W.mg_of X G aDr
  have FLa := fun_mk (st := s_law) lLa cLa kLa
  have bLa := FLa.binds (ps := ["_law_script"]) fun _ _ _ _ _ _ us hl => match us, hl with | [_], _ => rfl
  have mLa := PySem.W.mg_of X G aLa
  have clC : Cls K C := ⟨pgC, hdC, poC, saC⟩
  have FIn := fun_mk (st := s_Transfer_init) lIn cIn kIn
  have bIn := FIn.binds (ps := ["self", "event", "began"]) fun _ _ _ _ _ _ us hl => match us, hl with | [_, _, _], _ => rfl
  have mmIn : Meth K C "__init__" fIn := ⟨aIn, iIn, kIn⟩
  have TB0 : TB mg := ⟨int_, len_, abs_⟩
  have T : T0 mg := ⟨isinstance_, int_, bool_, str_, list_, tuple_, dict_, set_, len_, all_, abs_, range_, enumerate_, sorted_, repr_⟩
  have TT : TrT K C := ⟨clC, n1C, n2C, n3C, n4C, n5C⟩
  have KI : mg "KINDS" = some (.ref aKi) ∧ ∀ G, Da K G (.ref aKi) kindsD := ⟨gKI, fun G => .tup (xs := [.str "copy", .str "move"]) (.inr ⟨_, _, _, lKI, rfl, rfl, (by show 2 ≤ sizeLine; decide), .cons ⟨_, rfl⟩ (.cons ⟨_, rfl⟩ .nil)⟩) (.cons (.str _) (.cons (.str _) .nil))⟩
  have GDr := ok_draw (P := l.prog) (w := w) (base := base) FDr TB0
  have HDr : HDr l.prog w K mg base := ⟨_, _, draw_d (FnG.of GDr) (fun d st b H Q E dr b0 b1 kk => ⟨d, st, b, rfl, dr, b0, b1, fun r H' r0 r1 dr' kp => kk r H' r0 r1 dr' kp⟩), mDr, kDr, bDr, drawS_len⟩
  have HII : HasD l.prog w K mg base CX0 2 "is_integer" ["value"] 1 t_is_integer := ⟨_, _, ok_is_integer FII T, mII, kII, bII, len_is_integer⟩
  have HAD : HasD l.prog w K mg base CX0 3 "are_different" ["value"] 1 t_are_different := ⟨_, _, ok_are_different FAD T HII, mAD, kAD, bAD, len_are_different⟩
  have HNF : HasD l.prog w K mg base CX0 4 "need_first" ["first"] 1 t_need_first := ⟨_, _, ok_need_first FNF HAD, mNF, kNF, bNF, len_need_first⟩
  have GIn := ok_init (P := l.prog) (w := w) (mg := mg) (base := base) FIn TT
  have MC : Mk K C fIn := ⟨mkC, aIn, iIn, kC⟩
  have GIB := ok_is_begin (P := l.prog) (w := w) (base := base) FIB T KI HII
  have GII := ok_is_integer (P := l.prog) (w := w) (base := base) FII T
  have GTa := ok_takes FTa T TT gC MC GIn bIn GIB mIB kIB bIB GII mII kII bII
  have HTO : HasD l.prog w K mg base CX0 5 "transfers_of" ["first", "events"] 2 (t_transfers C) := ⟨_, _, ok_transfers_of FTO T HNF GTa mTa kTa bTa, mTO, kTO, bTO, len_transfers C⟩
  have HUW : HasD l.prog w K mg base CX0 2 "under_way" ["transfers", "many"] 2 (t_under_way C) := ⟨_, _, ok_under_way FUW T TT, mUW, kUW, bUW, len_under_way C⟩
  have HSp : HasD l.prog w K mg base CX0 3 "spread" ["dates", "transfers", "many"] 3 (t_spread C) := ⟨_, _, ok_spread FSp T TT HUW, mSp, kSp, bSp, len_spread C⟩
  have GDi := ok_dirty (P := l.prog) (w := w) (base := base) FDi T TT gNE HTO HSp
  have HDi : HasD l.prog w K mg base CX0 6 "dirty" ["first", "events"] 2 t_dirty := ⟨_, _, GDi, mDi, kDi, bDi, len_dirty⟩
  have KHDi : HasK l.prog w K mg base CX0 6 "dirty" ["first", "events"] 2 t_dirty 0 ["events", "first"] [1, 0] := ⟨_, _, GDi, mDi, kDi, kbD [1, 0] (fun us ws h1 h2 => match us, ws, h1, h2 with | [], [_, _], _, _ => rfl), len_dirty⟩
  have HSh : HasD l.prog w K mg base CX0 3 "_law_shuffled" ["_law_state", "_law_some_here"] 2 t_shuffled := ⟨_, _, ok_shuffled FSh T HDr, mSh, kSh, bSh, len_shuffled⟩
  have HPi : HasD l.prog w K mg base CX0 3 "_law_pick" ["_law_state", "_law_some_here"] 2 t_pick := ⟨_, _, ok_pick FPi T HDr, mPi, kPi, bPi, len_pick⟩
  have HAr : HasD l.prog w K mg base CX0 4 "_law_areas" ["_law_state", "_law_most"] 2 t_areas := ⟨_, _, ok_areas FAr HDr HSh, mAr, kAr, bAr, len_areas⟩
  have HSo : HasD l.prog w K mg base CX0 4 "_law_some" ["_law_state", "_law_things"] 2 t_some := ⟨_, _, ok_some FSo HDr HSh, mSo, kSo, bSo, len_some⟩
  have HLi : HasD l.prog w K mg base CX0 4 "_law_line" ["_law_state", "_law_nodes", "_law_size", "_law_most", "_law_is_free"] 5 t_line := ⟨_, _, ok_line FLi T HDr HSh HPi, mLi, kLi, bLi, len_line⟩
  have HLe : HasD l.prog w K mg base CX0 2 "_law_led" ["_law_dates", "_law_running", "_law_date"] 3 t_led := ⟨_, _, ok_led FLe T, mLe, kLe, bLe, len_led⟩
  have HRu : HasD l.prog w K mg base CX0 3 "_law_ruled" ["_law_origin", "_law_line_here"] 2 t_ruled := ⟨_, _, ok_ruled FRu T HLe, mRu, kRu, bRu, len_ruled⟩
  have GSt := ok_state (P := l.prog) (w := w) (base := base) FSt TB0
  exact ok_law FLa T (FnG.of GSt) mSt kSt bSt HDr HAr HLi HSo HRu HDi KHDi HSh
end Bm
open PySem PySem.W PyProof.Rows
set_option maxRecDepth 100000 in
set_option maxHeartbeats 0 in
theorem PySem.Challenge.cw_backmaps_k41_the_simple_rule_holds : PySem.Challenge.rw_backmaps_k41_the_simple_rule.Holds := by
  w_on; o_law; k_head; (case hw => w_witness2)
  k_fill
  refine L3.walk_g (l := PySem.Challenge.rw_backmaps_k41_the_simple_rule) (n := 63) (k := 8) (CX := fun _ => L2.CX0) (x := "_law_script") rfl (by decide) rfl ⟨rfl, by decide, by decide⟩ (fun w h Y => PySem.W.kIn_of Y) ?F (fun _ _ _ _ _ z => z)
  case F =>
    intro w mg fa h Y KX G hmg
    refine' Bm.all_mk KX G hmg ?zisinstance ?zint ?zbool ?zstr ?zlist ?ztuple ?zdict ?zset ?zlen ?zall ?zabs ?zrange ?zenumerate ?zsorted ?zrepr ?aNE ?aC ?aKI ?lKI ?aII ?lII ?cII ?kII ?aAD ?lAD ?cAD ?kAD ?aNF ?lNF ?cNF ?kNF ?aIB ?lIB ?cIB ?kIB ?aTa ?lTa ?cTa ?kTa ?aTO ?lTO ?cTO ?kTO ?aUW ?lUW ?cUW ?kUW ?aSp ?lSp ?cSp ?kSp ?aDi ?lDi ?cDi ?kDi ?aPi ?lPi ?cPi ?kPi ?aSh ?lSh ?cSh ?kSh ?aAr ?lAr ?cAr ?kAr ?aLi ?lLi ?cLi ?kLi ?aSo ?lSo ?cSo ?kSo ?aLe ?lLe ?cLe ?kLe ?aRu ?lRu ?cRu ?kRu ?aSt ?lSt ?cSt ?kSt ?aDr ?lDr ?cDr ?kDr ?aLa ?lLa ?cLa ?kLa ?pgC ?hdC ?poC ?saC ?mkC ?kC ?n1C ?n2C ?n3C ?n4C ?n5C ?ccC ?cmC ?aIn ?iIn ?lIn ?cIn ?kIn
    (case zisinstance => k_is)
    (case zint => k_is)
    (case zbool => k_is)
    (case zstr => k_is)
    (case zlist => k_is)
    (case ztuple => k_is)
    (case zdict => k_is)
    (case zset => k_is)
    (case zlen => k_is)
    (case zall => k_is)
    (case zabs => k_is)
    (case zrange => k_is)
    (case zenumerate => k_is)
    (case zsorted => k_is)
    (case zrepr => k_is)
    (case aNE => k_is)
    (case aC => k_is)
    (case aKI => k_is)
    (case lKI => k_is)
    (case aII => k_is)
    (case lII => k_is)
    (case cII => k_is)
    (case kII => k_is)
    (case aAD => k_is)
    (case lAD => k_is)
    (case cAD => k_is)
    (case kAD => k_is)
    (case aNF => k_is)
    (case lNF => k_is)
    (case cNF => k_is)
    (case kNF => k_is)
    (case aIB => k_is)
    (case lIB => k_is)
    (case cIB => k_is)
    (case kIB => k_is)
    (case aTa => k_is)
    (case lTa => k_is)
    (case cTa => k_is)
    (case kTa => k_is)
    (case aTO => k_is)
    (case lTO => k_is)
    (case cTO => k_is)
    (case kTO => k_is)
    (case aUW => k_is)
    (case lUW => k_is)
    (case cUW => k_is)
    (case kUW => k_is)
    (case aSp => k_is)
    (case lSp => k_is)
    (case cSp => k_is)
    (case kSp => k_is)
    (case aDi => k_is)
    (case lDi => k_is)
    (case cDi => k_is)
    (case kDi => k_is)
    (case aPi => k_is)
    (case lPi => k_is)
    (case cPi => k_is)
    (case kPi => k_is)
    (case aSh => k_is)
    (case lSh => k_is)
    (case cSh => k_is)
    (case kSh => k_is)
    (case aAr => k_is)
    (case lAr => k_is)
    (case cAr => k_is)
    (case kAr => k_is)
    (case aLi => k_is)
    (case lLi => k_is)
    (case cLi => k_is)
    (case kLi => k_is)
    (case aSo => k_is)
    (case lSo => k_is)
    (case cSo => k_is)
    (case kSo => k_is)
    (case aLe => k_is)
    (case lLe => k_is)
    (case cLe => k_is)
    (case kLe => k_is)
    (case aRu => k_is)
    (case lRu => k_is)
    (case cRu => k_is)
    (case kRu => k_is)
    (case aSt => k_is)
    (case lSt => k_is)
    (case cSt => k_is)
    (case kSt => k_is)
    (case aDr => k_is)
    (case lDr => k_is)
    (case cDr => k_is)
    (case kDr => k_is)
    (case aLa => k_is)
    (case lLa => k_is)
    (case cLa => k_is)
    (case kLa => k_is)
    (case pgC => k_is)
    (case hdC => k_is)
    (case poC => k_is)
    (case saC => k_is)
    (case mkC => k_is)
    (case kC => k_is)
    (case n1C => k_is)
    (case n2C => k_is)
    (case n3C => k_is)
    (case n4C => k_is)
    (case n5C => k_is)
    (case ccC => k_is)
    (case cmC => k_is)
    (case aIn => k_is)
    (case iIn => k_is)
    (case lIn => k_is)
    (case cIn => k_is)
    (case kIn => k_is)
