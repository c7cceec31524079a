import PyProof.Rows.All
import Wide.All
import OpenK.AllK
import Wide.FinOn
import HandS.ForMost
import HandS.Evl
import HandS.Exc
import HandS.ExcField
import HandS.WordsExc
import HandS.HotCalls
import HandS.IsInst
import HandS.FStr
import HandS.ClsMeth
import HandS.Deep
import KE.KCallOwn
import KE.KFmtOwn
import HandS.Wide
import HandS.Gcd
import KE.KOpsOwn
import HandS.Defaults
import HandS.MakeKwOnly
import HandS.Zip
import HandS.Walk
import HandS.ExcInit
import HandS.Lambda
import HandS.Text
import HandS.RaiseMore
import HandS.Style
import KE.KDflt
import HandS.TupAny
import HandS.Conv
import HandS.CallSlots
import HandS.Property
import PyProof.StrBlock2
import PyProof.StrLawsTight
import PyProof.StrLawsChain
import KE.KIntText
import PySem.Challenge.RW_unseenslopes_k02_ratios_made
import HandS.EndOwn
import HandS.MakeKw
import KE.KNestM
set_option Elab.async false
set_option linter.all false
set_option maxRecDepth 100000
set_option maxHeartbeats 4000000
namespace Mine
open PySem PySem.Spec PyProof.Rows L2
/-! ### clauses «except t as n», t any expression whose match is known -/
theorem fly_ext {B h h' : Heap} {l : List Env} {a : Addr} {Z : Obj → Prop} (k : ∀ b o, h.get? b = some o → h'.get? b = some o) (f : HandSPX.FlyingZ B l a Z h) : HandSPX.FlyingZ B l a Z h' := by
  obtain ⟨f1, f2, f3, oe, vs, T, oT, ts, h1, h2, h3, h4, h5, h6, h7, h8⟩ := f
  exact ⟨fun b o e => k b o (f1 b o e), f2, f3.of_keeps fun b o e _ => ⟨o, k b o e, rfl⟩, oe, vs, T, oT, ts, k _ _ h1, h2, h3, h4, h5, h6, k _ _ h7, h8⟩
theorem slots_ext {h h' : Heap} (k : ∀ b o, h.get? b = some o → h'.get? b = some o) : h.UpToSlots h' := fun b o e _ => ⟨o.slots, k b o e⟩
/-- the test of a clause: t is evaluated while a is handled, and its match with a is m of a's class -/
def ExcTest (X : Cx) (t : Expr) (m : Value → Option Bool) : Prop :=
  ∀ (a : Addr) (pn pins : List (Addr × Obj)) (s : Shared) (σ : L2.St) (H : Hp) (cls : Value) (b : Bool) (Q : Bool → Shared → Prop) (E : Value → Shared → Prop), Inv (X.suite a pn) pins σ H s →
    PySem.W.Looks (model X.prog X.w) s.heap (typeOf (.ref a)) cls → m cls = some b → (∀ h', (∀ q o, s.heap.get? q = some o → h'.get? q = some o) → Q b { s with heap := h' }) →
    wpAny (model X.prog X.w) (X.A.mark (some (.ref a))) (eval t X.env) (fun c s₁ => wpAny (model X.prog X.w) (X.A.mark (some (.ref a))) (excMatches (.ref a) c) Q E s₁) E s
theorem name_in {X : Cx} {x : Str} {c : Value} {np : Pos} (n : Names X x c) {a : Addr} {pn pins : List (Addr × Obj)} {s : Shared} {σ : L2.St} {H : Hp} (I : Inv (X.suite a pn) pins σ H s) {Q : Value → Shared → Prop} {E : Value → Shared → Prop} (q : Q c s) :
    wpAny (model X.prog X.w) (X.A.mark (some (.ref a))) (eval (.Name x np) X.env) Q E s := by
  obtain ⟨h1, h2, h3⟩ := n
  rcases h3 with h3 | ⟨h3, h4, h5⟩
  · exact ld_glob I h1 h3 q h2
  · exact ld_blt I h1 h3 h4 q h5 h2
theorem test1 {X : Cx} {x : Str} {c : Value} {np : Pos} (n : Names X x c) : ExcTest X (.Name x np) (fun cls => PySem.W.exmOne X.K cls c) := by
  intro a pn pins s σ H cls b Q E I L e q
  exact name_in n I ((PySem.W.exm_one I.kIn L e).here (q s.heap fun _ _ z => z))
theorem test2 {X : Cx} {x1 x2 : Str} {c1 c2 : Value} {p1 p2 p3 : Pos} {kk : Nat} (n1 : Names X x1 c1) (n2 : Names X x2 c2) : ExcTest X (.Tuple [.Name x1 p1, .Name x2 p2] kk p3) (fun cls => PySem.W.exmAny X.K cls [c1, c2]) := by
  intro a pn pins s σ H cls b Q E I L e q
  refine wpAny_Tuple (wpAny_items_cons (name_in n1 I (wpAny_items_cons (name_in n2 I (wpAny_items_nil ⟨by size_fits, ?_⟩)))))
  have kp : ∀ y o, s.heap.get? y = some o → (s.heap.push { cls := .type "tuple", data := .seq [c1, c2].toArray }).get? y = some o := fun _ _ z => Heap.get?_push_of_some _ z
  exact (PySem.W.exm_tup2 (I.kIn.keeps kp) (L.keeps kp) (Heap.get?_push_size s.heap rfl) e).here (q _ kp)
/-- what a clause asks: the match, its name's slot, its suite -/
structure Clause where
  m : Value → Option Bool
  i : Nat
  ts : Addr → Value → Option Addr → TS
def unname (D : Ends) (i : Nat) : Ends := ⟨fun σ H => D.nx (σ.set i none) H, D.rt, fun σ H => D.bk (σ.set i none) H, fun σ H => D.ct (σ.set i none) H⟩
def wClauses (Wout : WX) (D : Ends) : List Clause → WX
  | [] => Wout
  | c :: r => fun cls d σ H => ∃ b, c.m cls = some b ∧ (b = true → ∀ a, H a = none → c.ts a cls d (unname D c.i) (σ.set c.i (some (.ref a))) H) ∧ (b = false → wClauses Wout D r cls d σ H)
inductive ClausesOk (X : Cx) : List ExceptHandler → List Clause → Prop
  | nil : ClausesOk X [] []
  | cons {t : Expr} {n : Str} {c : Clause} {b₀ : Stmt} {suite : List Stmt} {hp : Pos} {hds : List ExceptHandler} {l : List Clause} (ht : ExcTest X t c.m) (hi : X.N[c.i]? = some n) (hl : X.env.kindOf n = some .local)
      (hsu : ∀ (a : Addr) (oe : Obj) (cls : Value) (d : Option Addr) (pn : List (Addr × Obj)), Zc cls d oe → (∃ vs, oe.data = .fields vs) → PSs (X.suite a ((a, oe) :: pn)) (b₀ :: suite) (c.ts a cls d)) (r : ClausesOk X hds l) :
      ClausesOk X (.ExceptHandler (some t) (some n) (b₀ :: suite) hp :: hds) (c :: l)
section
variable {X : Cx} {pins : List (Addr × Obj)} {Wout : WX} {D : Ends}
/-- a thrown exception on the ground at h meets the clauses -/
theorem meet_clauses (hs : X.stack = X.env :: X.outer) (hf : X.env.frame = some X.env.locals) (hN : X.N.Nodup) (tk : Takes X Wout) {a : Addr} {B : Heap} {sI : Shared} {σ : L2.St} {H : Hp} {cls : Value} {d : Option Addr}
    (J : Inv X pins σ H sI) (nb : ∀ b o, sI.heap.get? b = some o → b ∉ frs X.stack → B.get? b = some o) (na : H a = none) {hds : List ExceptHandler} {l : List Clause} (ok : ClausesOk X hds l) :
    ∀ (s : Shared), HandSPX.FlyingZ B (X.env :: X.outer) a (Zc cls d) s.heap → sI.heap.UpToSlots s.heap → s.os = sI.os → AllBare s.gens → wClauses Wout D l cls d σ H →
      wpAny (model X.prog X.w) X.A (handleBy (.ref a) X.env hds) (SP X pins D) X.xe s := by
  induction ok with
  | nil =>
    intro s fl up os ag hw
    refine wpAny_handleBy_nil ?_
    obtain ⟨_, _, _, oe, vs, T, oT, ts', he, _, hd, h1, _⟩ := id fl
    have go : wpAny (model X.prog X.w) X.A (setFlight (.ref a) X.env.frame) (fun _ s4 => wpAny (model X.prog X.w) X.A (throw (.ref a) : Sem Flow) (SP X pins D) X.xe s4) X.xe s := by
      rw [hf]
      exact HandSPX.setFlight_upZ fl fun h4 hh4 up4 => wpAny_throw (tk _ _ ⟨a, B, sI, pins, σ, H, cls, d, rfl, J, nb, up.trans up4, .inr (.inr (by rw [hs]; exact hh4)), na, os, ag, hw⟩)
    unfold PySem.passOn
    refine wpAny_bind (wpAny_field he hd h1 ?_)
    rw [if_neg (show ¬ ((Value.ref T == Value.none) = true) by simp)]
    first
      | exact wpAny_bind (wpAny_pure (wpAny_bind go))
      | exact wpAny_bind go
  | @cons t n c b₀ suite hp hds' l' ht hi hl hsu _ ih =>
    intro s fl up os ag hw
    obtain ⟨b, hb, yes, no⟩ := hw
    have J1 : Inv X pins σ H s := J.landed nb fl.1 up os ag
    have away : ∀ {h : Heap} {o : Obj} {vs : Array Value}, h.FunFrames B (X.env :: X.outer) → h.get? a = some o → o.data = .fields vs → a ≠ X.env.locals ∧ a ∉ X.fs := by
      intro h o vs ff e dd
      have nm : a ∉ frs (X.env :: X.outer) := by
        intro hm
        obtain ⟨_, o', e', hnf⟩ := ff.mem hm
        rw [e] at e'
        cases e'
        exact hnf _ dd
      refine ⟨fun z => nm (List.mem_filterMap.mpr ⟨X.env, List.mem_cons_self, by rw [hf, z]⟩), fun hm => ?_⟩
      obtain ⟨e2, he2, q⟩ := List.mem_filterMap.mp hm
      exact nm (List.mem_filterMap.mpr ⟨e2, List.mem_cons_of_mem _ he2, q⟩)
    obtain ⟨oe, vs, he, hz, hd⟩ := fl.there
    obtain ⟨nL, nF⟩ := away fl.2.2.1 he hd
    have S1 := J1.suite he hd na nL nF
    refine wpAny_handleBy_cons (codeAny_handlers_test ?_) (fun q => nomatch q)
    have LT : PySem.W.Looks (model X.prog X.w) s.heap (typeOf (.ref a)) cls := fun A Q E s' k q => wpAny_typeOf_ref (k _ _ he) (by rw [hz.1]; exact q)
    refine ht a _ [] s σ H cls b _ _ S1 LT hb fun h2 k2 => ?_
    have fl2 := fly_ext k2 fl
    have up2 : sI.heap.UpToSlots h2 := up.trans (slots_ext k2)
    cases b with
    | false => exact ih { s with heap := h2 } fl2 up2 os ag (no rfl)
    | true =>
      refine codeAny_handlers_suite_as (HandSPX.lands_againZ fl2 fun h4 fl4 up4 => ?_)
      have J4 : Inv X pins σ H { s with heap := h4 } := J.landed nb fl4.1 (up2.trans up4) os ag
      obtain ⟨oe4, vs4, he4, hz4, hd4⟩ := fl4.there
      have S4 := J4.suite he4 hd4 na nL nF
      refine store_ok (X := X.suite a ((a, oe4) :: (X.pn ++ pins))) (v := .ref a) S4 hN hi (.inl hl) rfl (fun s5 S5 => ?_) (.inr hl)
      refine wpAny_mono ((hsu a oe4 cls d (X.pn ++ pins) hz4 ⟨_, hd4⟩).run [] s5 _ H _ S5 (yes rfl a na)) (fun f s6 q6 => ?_) (fun _ _ z => z.elim)
      have back : ∀ {σ6 : L2.St} {H6 : Hp} {R : Shared → Prop}, Inv (X.suite a ((a, oe4) :: (X.pn ++ pins))) [] σ6 H6 s6 → (∀ s7, Inv X pins (σ6.set c.i none) H6 s7 → R s7) →
          wpAny (model X.prog X.w) X.A (do bindName X.env n .none; unbindBehindTheSuite X.env n hp) (fun _ s7 => R s7) X.xe s6 := fun S6 r => gone_ok (S6.unsuite J.ok) hN hi hl r
      cases f with
      | next =>
        obtain ⟨σ6, H6, S6, r6⟩ := q6
        exact back S6 fun s7 J7 => ⟨_, _, J7, r6⟩
      | brk =>
        obtain ⟨σ6, H6, S6, r6⟩ := q6
        exact back S6 fun s7 J7 => ⟨_, _, J7, r6⟩
      | cont =>
        obtain ⟨σ6, H6, S6, r6⟩ := q6
        exact back S6 fun s7 J7 => ⟨_, _, J7, r6⟩
      | ret u =>
        obtain ⟨v6, σ6, H6, S6, rv, r6⟩ := q6
        exact back S6 fun s7 J7 => ⟨_, _, _, J7, rv, r6⟩
/-- try: body, several clauses «except t as n: suite» -/
theorem ps_clauses {body : List Stmt} {h₀ : ExceptHandler} {hds : List ExceptHandler} {l : List Clause} {pos : Pos} {tb : WX → TS} (hs : X.stack = X.env :: X.outer) (hf : X.env.frame = some X.env.locals) (hN : X.N.Nodup) (tk : Takes X Wout)
    (hb : ∀ (W : WX) (pn : List (Addr × Obj)) (xe : Value → Shared → Prop), Takes (X.tr pn xe) W → PassesOwn (model X.prog X.w) X.A X.env xe → PSs (X.tr pn xe) body (tb W)) (hh : ClausesOk X (h₀ :: hds) l) :
    PS X (.Try body (h₀ :: hds) [] [] pos) (fun D σ H => tb (wClauses Wout D l) D σ H) := by
  refine ⟨fun pins s σ H D I h => ?_⟩
  have ok := I.ok
  have fr : X.A.frames = some (X.env :: X.outer) := by rw [ok.frames, hs]
  refine wpAny_Try_except ?_
  refine wpAny_mono ((hb (wClauses Wout D l) (X.pn ++ pins) _ (fun u s' xx => ?_) PassesOwn.looking).run [] s σ H D (I.toTry _) h) (fun f s1 q => ?_) (fun e s1 he => he)
  · obtain ⟨a, B, sI, pins', σ', H', cls, d, rfl, J', nb, up, sky, na, os, ag, hw⟩ := xx
    have sky' : Sky B (X.env :: X.outer) a (Zc cls d) X.env.locals s'.heap := by rw [← hs]; exact sky
    exact Sky.land Zc.steady fr hf sky' fun h3 fl3 up3 => meet_clauses hs hf hN tk (J'.ofTry ok) nb na hh { s' with heap := h3 } fl3 (up.trans up3) os ag hw
  · cases f with
    | next =>
      obtain ⟨σ1, H1, J1, r⟩ := q
      exact wpAny_execs_nil ⟨σ1, H1, J1.ofTry ok, r⟩
    | brk =>
      obtain ⟨σ1, H1, J1, r⟩ := q
      exact ⟨σ1, H1, J1.ofTry ok, r⟩
    | cont =>
      obtain ⟨σ1, H1, J1, r⟩ := q
      exact ⟨σ1, H1, J1.ofTry ok, r⟩
    | ret u =>
      obtain ⟨v1, σ1, H1, J1, rv, r⟩ := q
      exact ⟨v1, σ1, H1, J1.ofTry ok, rv, r⟩
end
end Mine
namespace Mine
open PySem PySem.Spec PyProof.Rows L2
/-! ### a field of the handled exception; a def that gets it as an argument -/
def tXg (K : PySem.W.Frag) (a : Addr) (cls : Value) (d : Option Addr) (f : Str) (te : TE) : TE := fun σ H Q => te σ H fun x H1 => x = .ref a ∧ ∃ (C dd : Addr) (fs : List (Str × V)) (v : V),
  cls = .ref C ∧ XfC K C ∧ PySem.W.findIn K (.ref C) f = some none ∧ d = some dd ∧ H1 dd = some (.xd fs) ∧ fs.lookup f = some v ∧ Q v H1
theorem pe_xg {X : Cx} {p : Addr × Obj} {cls : Value} {d : Option Addr} {e : Expr} {te : TE} {pos : Pos} {n : Str} (hp : p ∈ X.pn) (hz : Zc cls d p.2) (hf : ∃ vs, p.2.data = .fields vs) (he : PE X e te)
    (hb : attributeBase e n X.env (eval e X.env) = eval e X.env := by rfl) : PE X (.Attribute e n pos) (tXg X.K p.1 cls d n te) := by
  refine ⟨fun pins s σ H Q I h => ?_⟩
  refine attr_of hb (thn (he.run pins s σ H _ I h) fun u s1 hh => ?_)
  obtain ⟨x, H1, I1, rx, rfl, C, dd, fs, v, rfl, T, hno, rfl, ea, l, q⟩ := hh
  obtain rfl : u = Value.ref p.1 := rx
  have P1 := (I1.pin p (List.mem_append_left _ hp)).1
  obtain ⟨vs, hd⟩ := hf
  obtain ⟨mA, hns, hr⟩ := (show ObjOk X.prog X.w H1 s1.heap dd (.xd fs) from I1.hok dd _ ea)
  obtain ⟨od, ho, hl⟩ := lookIn_ns hns
  obtain ⟨u, hu, ru⟩ := RelO.some_of (v := v) (o := mA n) (by rw [← l]; exact hr n)
  have J : PySem.W.InstAt s1.heap p.1 p.2 C (some od) := ⟨P1, hz.1, by unfold PySem.W.notCls; rw [hd] <;> rfl, by rw [hz.2]; exact ho⟩
  exact HandSPX.exc_get I1.kIn J T.ga T.gg T.exC (PySem.W.findObj_own T.hdC hno rfl (by rw [hl, hu])) (handed_of ru) ⟨v, H1, I1.tok _, ru, q⟩
/-- what a def promises that is called while the exception at a (its class cls, its dict d) is handled -/
abbrev SpE := Addr → Value → Option Addr → List V → Hp → VK → Prop
structure FnE (P : Program) (w : World) (K : PySem.W.Frag) (mg : Str → Option Value) (base : Heap) (k : Nat) (f : Addr) (fd : FuncData) (ps : List Str) (sp : SpE) : Prop where
  len : ∀ a cls d vs H Q, sp a cls d vs H Q → vs.length = ps.length
  run : ∀ (A : Around) (outer : List Env) (s : Shared) (H : Hp) (args : Args) (us : List Value) (vs : List V) (Q : VK) (p : Addr × Obj) (cls : Value) (d : Option Addr), L2H.RoomH k A → L2H.PinOk outer H s p → Zc cls d p.2 → (∃ ws, p.2.data = .fields ws) →
    Env0 P w K mg base A outer s H → BindsTo s fd args (ps.zip us) → Vals vs us → sp p.1 cls d vs H Q → codeAny (model P w) A (.call (.ref f) args) (CR CX0 outer P w H s Q E0) s
section
variable {P : Program} {w : World} {K : PySem.W.Frag} {mg : Str → Option Value} {base : Heap}
theorem Fun.okE {x qual : Str} {st : Stmt} {f : Addr} {fd : FuncData} {N ps : List Str} {k : Nat} {sp : SpE} (F : Fun K x qual st f fd) (S : FnScope N ps (defScope st)) (len : ∀ a cls d vs H Q, sp a cls d vs H Q → vs.length = ps.length)
    (hbody : ∀ (cdv : Value) (A : Around) (outer : List Env) (s : Shared) (H : Hp) (vs : List V) (Q : VK) (p : Addr × Obj) (cls : Value) (d : Option Addr), L2H.RoomH k (A.deeper (envOfC qual (defScope st) s.heap.objs.size f cdv)) → Zc cls d p.2 → (∃ ws, p.2.data = .fields ws) →
      sp p.1 cls d vs H Q → ∃ t, PSs (L2H.cxH CX0 P w K mg base N qual (defScope st) f cdv A outer s H E0 p) (defBody st) t ∧ t { nx := fun _ H' => Q .non H', rt := Q } (L2.start N vs) H) : FnE P w K mg base (k + 1) f fd ps sp := by
  obtain ⟨oc, od, kV, doc, pm, an, cdv, ct, osl, rfl, lk, hcd⟩ := F.ex
  refine ⟨len, ?_⟩
  intro A outer s H args us vs Q p cls d hr hpin hz hf e0 hb r hsp
  have hl := len _ _ _ _ _ _ hsp
  have keeps := fun b o e => (e0.bs b o e).1
  have KX : K.In s.heap := e0.mod.kin.keeps keeps
  have kinds : ∀ y ∈ ps.zip us, (defScope st).names.lookup y.1 = some .local ∨ ((defScope st).names.lookup y.1 = some .cell ∧ ((cellsFrom (s.heap.objs.size + 1) (defScope st).names []).lookup y.1).isSome = true) := by
    rintro ⟨n, v⟩ hy
    rcases S.par n (List.of_mem_zip hy).1 with q | q
    · exact .inl q
    · exact .inr ⟨q, PySem.W.cellsFrom_some _ _ _ (.inl q)⟩
  refine codeAny_call_function hr.depth (KX _ _ lk) rfl S.co S.gen rfl (PySem.W.codeRec_of KX hcd) (hb _ _ _ _ (wpAny_newFunctionEnv_cells S.kind kinds fun env he s1 x => ?_))
  subst he
  refine ⟨(e0.mod.nolimit.keeps keeps).keeps x.toInCall.keep, codeAny_func ?_⟩
  obtain ⟨t, ht, hq⟩ := hbody cdv A outer s H vs Q p cls d (hr.deeper _) hz hf hsp
  have I : Inv (L2H.cxH CX0 P w K mg base N qual (defScope st) f cdv A outer s H E0 p) [] (L2.start N vs) H s1 := L2H.inv_startH S hpin e0 hl r x
  refine wpAny_mono (ht.run [] s1 _ H _ I hq) (fun fl s' hs => ?_) fun e s' hs => hs
  cases fl with
  | ret u =>
    obtain ⟨v, σ', H', J, rv, q⟩ := hs
    exact ⟨v, H', J.os, J.bare, J.base, J.hok, rv, q⟩
  | next =>
    obtain ⟨σ', H', J, q⟩ := hs
    exact ⟨V.non, H', J.os, J.bare, J.base, J.hok, rfl, q⟩
  | brk =>
    obtain ⟨_, _, _, q⟩ := hs
    exact q.elim
  | cont =>
    obtain ⟨_, _, _, q⟩ := hs
    exact q.elim
end
/-- f(e), while an exception is handled that f gets to know -/
def tCallE (sp : SpE) (a : Addr) (cls : Value) (d : Option Addr) (t : TA) : TE := fun σ H Q => t σ H fun vs H1 => sp a cls d vs H1 Q
theorem pe_callE {X : Cx} {k : Nat} {f : Addr} {fd : FuncData} {ps : List Str} {sp : SpE} {x : Str} {q pos : Pos} {e : Expr} {es : List Expr} {t : TA} {p : Addr × Obj} {cls : Value} {d : Option Addr} (F : FnE X.prog X.w X.K X.mg X.base k f fd ps sp) (hr : L2H.RoomH k X.A)
    (hp : p ∈ X.pn) (hz : Zc cls d p.2) (hf : ∃ ws, p.2.data = .fields ws) (hg : Gl X x) (hm : X.mg x = some (.ref f)) (hk : PySem.W.keepIn X.K (.ref f) = true) (hb : Binds X.K fd ps []) (ha : PA X (e :: es) t)
    (hdb : (x == ("__debug__" : Str)) = false := by decide) (he : starEach (e :: es) X.env = (false, eval e X.env) :: starEach es X.env := by rfl) (hpl : (backTo pos (starEach es X.env)).any (·.1) = false := by rfl) :
    PE X (.Call (.Name x q) (e :: es) [] pos) (tCallE sp p.1 cls d t) := by
  refine ⟨fun pins s σ H Q I h => ?_⟩
  refine wpAny_Call_Name_kw (ld_glob I hg hm ?_ hdb)
  refine PySem.W.callWith_K (h₀ := X.base) I.ok.mod.kin hk (thn (ha.run pos pins s σ H _ I h) fun us s1 ⟨vs, H1, I1, r, q1⟩ => ⟨I1.kIn, ?_⟩) he hpl
  have hl : us.length = ps.length := by rw [← r.length]; exact F.len _ _ _ _ _ _ q1
  have b := hb s1 us I1.kIn (by rw [List.append_nil]; exact hl)
  rw [List.append_nil] at b
  obtain ⟨p1, p2, p3, p4, p5⟩ := I1.pin p (List.mem_append_left _ hp)
  have hpin : L2H.PinOk X.stack H1 s1 p := ⟨p1, p2, fun hm => (List.mem_cons.mp (I1.stkSub p.1 hm)).elim p3 p4, p5⟩
  refine wpAny_call (codeAny_mono (F.run X.A X.stack s1 H1 ⟨us, []⟩ us vs Q p cls d hr hpin hz hf I1.env0 b r q1) fun rr s' hq => ?_)
  cases rr with
  | error er => exact (show False from hq).elim
  | ok fl =>
    cases fl with
    | ret u => exact I1.after hq
    | next => exact (show False from hq).elim
    | brk => exact (show False from hq).elim
    | cont => exact (show False from hq).elim
end Mine
namespace Mine
open PySem PySem.Spec PyProof.Rows L2
/-! ### in, not in: a tuple of data -/
section
variable {X : Cx}
def rInT (K : PySem.W.Frag) (neg : Bool) : R2 := fun x y H Q => ∃ d ds, Dp K H x d ∧ Dp K H y (.tuple ds) ∧ SeqAt.shaped d = true ∧ SeqAt.shaped (.tuple ds) = true ∧ Q (.bl (if neg then !(ds.any fun z => PyData.eqv z d) else ds.any fun z => PyData.eqv z d)) H
theorem room_T {A : Around} {ds : List PyData} {d : PyData} (sd : SeqAt.shaped d = true) (hu : A.units + 65 < cLine) : A.units + 1 + min (PyData.depthAll ds) d.depth < cLine := by
  have h1 := SeqAt.depth_of_shaped sd
  have h2 : min (PyData.depthAll ds) d.depth ≤ d.depth := Nat.min_le_right _ _
  omega
theorem op_inT (hu : X.A.units + 65 < cLine) : OpR X (compareOp .In) (rInT X.K false) := by
  intro pins s σ H x y v u Q I rx ry h
  obtain ⟨d, ds, hd, he, sd, se, q⟩ := h
  obtain ⟨as, r1⟩ := Dp.reads I d x v hd rx
  obtain ⟨bs, r2⟩ := Dp.reads I (.tuple ds) y u he ry
  exact SeqAt.in_tuple_reads r2 r1 (SeqAt.canLay_of_shaped se) (SeqAt.canLay_of_shaped sd) (room_T sd hu) ⟨.bl _, H, I, rfl, q⟩
theorem op_notInT (hu : X.A.units + 65 < cLine) : OpR X (compareOp .NotIn) (rInT X.K true) := by
  intro pins s σ H x y v u Q I rx ry h
  obtain ⟨d, ds, hd, he, sd, se, q⟩ := h
  obtain ⟨as, r1⟩ := Dp.reads I d x v hd rx
  obtain ⟨bs, r2⟩ := Dp.reads I (.tuple ds) y u he ry
  exact SeqAt.notIn_tuple_reads r2 r1 (SeqAt.canLay_of_shaped se) (SeqAt.canLay_of_shaped sd) (room_T sd hu) ⟨.bl _, H, I, rfl, q⟩
end
/-! ### static methods off the class -/
structure SMet (K : PySem.W.Frag) (C : Addr) (mc : Value) (m : Str) (p g : Addr) : Prop where
  at_ : PySem.W.findCls K (.ref C) mc m = some (.get (.builtin "staticmethod.__get__") (.ref p) .none (.ref C))
  rc : ∃ rest, PySem.W.recIn K p "staticmethod" = some (.ref g :: rest)
  kp : PySem.W.keepIn K (.ref g) = true
/-- C.m(..) -/
def tSMeth (C : Addr) (sp : Sp) (dvs : List V) (E : XK) (ta : TE) (t : TA) : TE := fun σ H Q => ta σ H fun x H1 => x = .ref C ∧ t σ H1 fun vs H2 => sp (vs ++ dvs) H2 Q E
section
variable {X : Cx} {CX : CXT} {k : Nat} {C p g : Addr} {mc : Value} {m : Str} {fd : FuncData} {ps : List Str} {sp : Sp} {dvs : List V} {ds : List Value} {E : XK} {o e : Expr} {es : List Expr} {ta : TE} {t : TA} {apos pos : Pos}
theorem getmethsm {pins : List (Addr × Obj)} {σ : L2.St} {H : Hp} {s : Shared} {A : Around} {E : Value → Shared → Prop} {pl : Sem Bool} {Q : Value × List Value → Shared → Prop} (I : Inv X pins σ H s) (r : ClX.CRead X.K C mc) (c : SMet X.K C mc m p g)
    (h : ∀ s', Inv X pins σ H s' → Q (.ref g, []) s') : wpAny (model X.prog X.w) A (getMethod (.ref C) m pl) Q E s := by
  obtain ⟨rest, hp⟩ := c.rc
  exact PySem.W.method_cls I.kIn r.ga (PySem.W.cls_bind I.kIn r.rd c.at_ (wpAny_call (PySem.W.sm_get (s := { s with toks := s.toks + 1 }) I.kIn hp (PySem.W.handed_on rfl (h _ (I.tok _))))))
theorem pe_smeth {pl : Sem Bool} (he : PE X o ta) (r : ClX.CRead X.K C mc) (c : SMet X.K C mc m p g) (F : FnOk X.prog X.w X.K X.mg X.base CX k g fd ps sp) (hr : Room k X.A) (hb : Binds X.K fd ps ds) (hd : Vals dvs ds) (hx : Passes CX X E) (ha : PA X (e :: es) t)
    (hst : starEach (e :: es) X.env = (false, eval e X.env) :: starEach es X.env := by rfl) (hpl : (backTo pos (starEach es X.env)).any (·.1) = false := by rfl)
    (ht : eval (.Call (.Attribute o m apos) (e :: es) [] pos) X.env = (do
      let ov ← eval o X.env
      standAt apos.atName
      let (f, first) ← holding [ov] (getMethod ov m pl)
      callWith pos f first (backTo pos (starEach (e :: es) X.env)) (backToKw pos (keywordEach [] X.env))) := by rfl) :
    PE X (.Call (.Attribute o m apos) (e :: es) [] pos) (tSMeth C sp dvs E ta t) := by
  refine ⟨fun pins s σ H Q I h => ?_⟩
  refine PySem.W.methodCall_KW (pl := pl) (thn (he.run pins s σ H _ I h) fun u s1 ⟨x, H1, I1, rx, ex, q⟩ => ?_) ht
  subst ex
  obtain rfl : u = Value.ref C := rx
  refine getmethsm I1 r c fun s2 I2 => ?_
  exact PySem.W.callWith_K (first := []) (h₀ := X.base) I.ok.mod.kin c.kp (thn (ha.run pos pins s2 σ H1 _ I2 q) fun us s3 ⟨vs, H2, I3, rv, q2⟩ => ⟨I3.kIn, run_fn F hr hb hd hx I3 rv q2⟩) hst hpl
theorem pe_smeth0 {pl : Sem Bool} (he : PE X o ta) (r : ClX.CRead X.K C mc) (c : SMet X.K C mc m p g) (F : FnOk X.prog X.w X.K X.mg X.base CX k g fd ps sp) (hr : Room k X.A) (hb : Binds X.K fd ps ds) (hd : Vals dvs ds) (hx : Passes CX X E)
    (ht : eval (.Call (.Attribute o m apos) [] [] pos) X.env = (do
      let ov ← eval o X.env
      standAt apos.atName
      let (f, first) ← holding [ov] (getMethod ov m pl)
      callWith pos f first (backTo pos (starEach [] X.env)) (backToKw pos (keywordEach [] X.env))) := by rfl) :
    PE X (.Call (.Attribute o m apos) [] [] pos) (tSMeth C sp dvs E ta tNil) := by
  refine ⟨fun pins s σ H Q I h => ?_⟩
  refine PySem.W.methodCall_KW (pl := pl) (thn (he.run pins s σ H _ I h) fun u s1 ⟨x, H1, I1, rx, ex, q⟩ => ?_) ht
  subst ex
  obtain rfl : u = Value.ref C := rx
  refine getmethsm I1 r c fun s2 I2 => ?_
  exact PySem.W.callWith_K0 (first := []) I2.kIn c.kp (run_fn (us := []) F hr hb hd hx I2 .nil q)
end
/-! ### special methods of an instance: ==, !=, str, repr, an f-string's field -/
section
variable {X : Cx} {CX : CXT} {k : Nat} {C f : Addr} {fd : FuncData} {ps : List Str} {sp : Sp} {E : XK}
/-- the def runs in the surroundings A, which have the frames of X -/
theorem run_at {pins : List (Addr × Obj)} {σ : L2.St} {H : Hp} {s : Shared} {Q : VK} {us : List Value} {vs : List V} {A : Around} (F : FnOk X.prog X.w X.K X.mg X.base CX0 k f fd ps sp) (hr : Room k A) (hA : A.frames = X.A.frames) (hb : Binds X.K fd ps []) (I : Inv X pins σ H s) (r : Vals vs us) (h : sp vs H Q E0)
    {E' : Value → Shared → Prop} : wpAny (model X.prog X.w) A (call (.ref f) us) (EP X pins σ Q) E' s := by
  have hl : us.length = ps.length := by rw [← r.length]; exact F.len _ _ _ _ h
  have b := hb s us I.kIn (by rw [List.append_nil]; exact hl)
  rw [List.append_nil] at b
  have e := I.env0
  have e0 : Env0 X.prog X.w X.K X.mg X.base A X.stack s H := ⟨by rw [hA]; exact e.frames, e.mod, e.bs, e.bsz, e.funs, e.frf, e.hok, e.bare⟩
  refine wpAny_call (codeAny_mono (F.run A X.stack s H ⟨us, []⟩ us vs Q E0 hr e0 b r h) fun rr s' hq => ?_)
  cases rr with
  | error er => exact (show False from hq).elim
  | ok fl =>
    cases fl with
    | ret u => exact I.after hq
    | next => exact (show False from hq).elim
    | brk => exact (show False from hq).elim
    | cont => exact (show False from hq).elim
/-- what the class says of a special method of its own -/
structure Spec (K : PySem.W.Frag) (C : Addr) (m : Str) (f : Addr) : Prop where
  at_ : PySem.W.findIn K (.ref C) m = some (some (.ref f))
  fn : PySem.W.isFn K (.ref f) = true
theorem ty_looks {pins : List (Addr × Obj)} {σ : L2.St} {H : Hp} {s : Shared} {y : V} {u t : Value} (I : Inv X pins σ H s) (ry : RelV y u) (ty : TyX X.K H y t) {M : Model} : PySem.W.Looks M s.heap (typeOf u) t := by
  obtain ⟨P, Z, p, _⟩ := kit_of I ry ty
  exact Z.ty M s.heap I.kIn p
/-- x == y, x an instance whose class has an own __eq__ that gives a bool -/
def rEqO (K : PySem.W.Frag) (C : Addr) (sp : Sp) (neg : Bool) : R2 := fun x y H Q => ∃ a dx fs tb, x = .ref a ∧ H a = some (.ins C dx fs) ∧ TyX K H y tb ∧ PySem.W.notFirst K C tb = true ∧ sp [x, y] H (fun v H' => ∃ b, v = .bl b ∧ Q (.bl (if neg then !b else b)) H') E0
theorem op_eqO (F : FnOk X.prog X.w X.K X.mg X.base CX0 k f fd ps sp) (S : Spec X.K C "__eq__" f) (hr : Room k X.A) (hb : Binds X.K fd ps []) : OpR X (compareOp .Eq) (rEqO X.K C sp false) := by
  intro pins s σ H x y v u Q I rx ry h
  obtain ⟨a, dx, fs, tb, rfl, ha, ty, hn, q⟩ := h
  obtain rfl : v = Value.ref a := rx
  obtain ⟨mA, J, _⟩ := ins_get I.hok ha
  obtain ⟨od, J, _⟩ := J.look
  obtain ⟨m, hF⟩ := I.fr
  show wpAny (model X.prog X.w) X.A (richCompare .Eq (.ref a) u) (EP X pins σ Q) X.xe s
  refine PySem.W.cmp_K (op := .Eq) (tb := tb) hr.units0 hF I.ok.mod.kin J (ty_looks I ry ty) hn S.at_ S.fn ?_
  refine wpAny_mono (run_at (vs := [.ref a, y]) (us := [.ref a, u]) F hr rfl hb I (.cons rfl (.cons ry .nil)) q) (fun r s' z => ?_) fun _ _ z => z
  obtain ⟨z, H', I', rz, b, rfl, q'⟩ := z
  obtain rfl : r = Value.bool b := rz
  exact ⟨.bl b, H', I', rfl, q'⟩
theorem ifBoundB {M : Model} {A : Around} {E : Value → Shared → Prop} {s : Shared} {K : PySem.W.Frag} {x C : Addr} {ox : Obj} {od : Option Obj} {name : Str} {id : String} {args : List Value} {Q : Option Value → Shared → Prop} (KX : K.In s.heap) (J : PySem.W.InstAt s.heap x ox C od)
    (hs : PySem.W.findIn K (.ref C) name = some (some (.builtin id))) (hb : ∀ self, bindSpecial (.builtin id) self = pure (.builtin id, [self])) (h : wpAny M A (call (.builtin id) (.ref x :: args)) (fun v => Q (some v)) E s) : wpAny M A (callSpecialIfBound? (.ref x) name args) Q E s := by
  have fin : wpAny M A (call (.builtin id) ([.ref x] ++ args) >>= fun v => pure (some v)) Q E s := wpAny_bind (wpAny_mono h (fun _ _ z => wpAny_pure z) fun _ _ z => z)
  simp only [callSpecialIfBound?, bindSpecialIfBound?]
  refine wpAny_holding (wpAny_bind (wpAny_bind (wpAny_bind (J.type.here ((PySem.W.looks_findIn KX hs).here (wpAny_bind (wpAny_askSetting (wpAny_ite ?_))))))))
  split
  · exact wpAny_bind ((PySem.W.Looks.of_pure (hb _)).here (wpAny_pure (by exact fin)))
  · exact wpAny_tryCatch (wpAny_bind ((PySem.W.Looks.of_pure (hb _)).here (wpAny_pure (by exact fin))))
open Builtin in
theorem op_neO (F : FnOk X.prog X.w X.K X.mg X.base CX0 k f fd ps sp) (S : Spec X.K C "__eq__" f) (hne : PySem.W.findIn X.K (.ref C) "__ne__" = some (some (.builtin "object.__ne__"))) (hm : PySem.W.mroIn X.K C (.type "object") = some true) (hr : Room (k + 1) X.A) (hb : Binds X.K fd ps []) :
    OpR X (compareOp .NotEq) (rEqO X.K C sp true) := by
  intro pins s σ H x y v u Q I rx ry h
  obtain ⟨a, dx, fs, tb, rfl, ha, ty, hn, q⟩ := h
  obtain rfl : v = Value.ref a := rx
  obtain ⟨mA, J, _⟩ := ins_get I.hok ha
  obtain ⟨od, J, _⟩ := J.look
  have KX := I.kIn
  have hr1 : Room k X.A.in1 := hr.in1
  have bind : ∀ self : Value, bindSpecial (.builtin "object.__ne__") self = pure (.builtin "object.__ne__", [self]) := fun self => by with_unfolding_all rfl
  have inner : wpAny (model X.prog X.w) X.A (call (.builtin "object.__ne__") [.ref a, u]) (fun r s' => ∃ b, r = Value.bool b ∧ EP X pins σ Q r s') X.xe s := by
    refine wpAny_call (codeAny_call_builtin (by decide +kernel) PySem.F.cmpEntry_ne (PySem.W.check_slot PySem.F.cmpKind_ne PySem.F.cmpSplit_ne (J.type.andThen (PySem.W.looks_mroIn KX hm)) (PySem.F.cmpArgs_ne _ _) ?_))
    unfold Builtin.«object.__ne__»
    refine wpAny_bind (m := slotArgs "__ne__" 1 _) (wpAny_pure ?_)
    refine wpAny_bind (m := cRoomFor _ _) (wpAny_cRoomFor hr1.units0 ?_)
    refine wpAny_bind (m := callSpecialIfBound? (.ref a) (Str.ofString "__eq__") [u]) (PySem.W.ifBound_K KX J S.at_ S.fn ?_)
    refine wpAny_mono (run_at (vs := [.ref a, y]) (us := [.ref a, u]) F hr1 rfl hb I (.cons rfl (.cons ry .nil)) q) (fun r s' z => ?_) fun _ _ z => z
    obtain ⟨z, H', I', rz, b, rfl, q'⟩ := z
    obtain rfl : r = Value.bool b := rz
    refine wpAny_bind (m := truthy (.bool b)) (wpAny_truthy_bool ?_)
    exact wpAny_pure ⟨!b, rfl, .bl (!b), H', I', rfl, q'⟩
  have one : wpAny (model X.prog X.w) X.A (tryCompare (.ref a) "__ne__" u) (fun r s' => ∃ v, r = some v ∧ EP X pins σ Q v s') X.xe s := by
    unfold tryCompare
    refine wpAny_bind (ifBoundB KX J hne bind (wpAny_mono inner (fun r s' z => ?_) fun _ _ z => z))
    obtain ⟨b, rfl, z⟩ := z
    exact wpAny_pure ⟨_, rfl, z⟩
  show wpAny (model X.prog X.w) X.A (richCompare .NotEq (.ref a) u) (EP X pins σ Q) X.xe s
  unfold richCompare
  simp only [oneThing_ref]
  refine wpAny_holding (wpAny_bind (wpAny_cRoomFor hr.units0 (wpAny_bind (J.type.here (wpAny_bind ((ty_looks I ry ty).here ?_))))))
  split
  · rename_i c
    have e : PySem.W.subIn X.K tb (.ref C) = some false := by
      rcases Bool.or_eq_true_iff.mp hn with e | e
      · rw [beq_iff_eq.mp e] at c
        simp at c
      · exact beq_iff_eq.mp e
    refine wpAny_bind ((PySem.W.looks_subIn KX e).here ?_)
    simp only [Bool.false_eq_true, if_false]
    refine wpAny_bind (wpAny_mono one (fun r s' z => ?_) fun _ _ z => z)
    obtain ⟨v, rfl, z⟩ := z
    exact wpAny_pure z
  · refine wpAny_bind (wpAny_pure ?_)
    simp only [Bool.false_eq_true, if_false]
    refine wpAny_bind (wpAny_mono one (fun r s' z => ?_) fun _ _ z => z)
    obtain ⟨v, rfl, z⟩ := z
    exact wpAny_pure z
end
end Mine
namespace Mine
open PySem PySem.Spec PyProof.Rows L2
/-! ### the text of an instance by its own __str__, __repr__ -/
def spStrs (C : Addr) (sp : Sp) (x : V) (H : Hp) (Q : VK) : Prop := ∃ a dx fs, x = .ref a ∧ H a = some (.ins C dx fs) ∧ sp [x] H (fun v H' => ∃ z, v = .str z ∧ Q (.str z) H') E0
def rStrO (C : Addr) (sp : Sp) : List V → Hp → VK → Prop := fun xs H Q => ∃ x, xs = [x] ∧ spStrs C sp x H Q
def tFmtO (C : Addr) (sp : Sp) (te : TE) : TE := fun σ H Q => te σ H fun x H1 => spStrs C sp x H1 Q
section
variable {X : Cx} {k : Nat} {C f : Addr} {fd : FuncData} {ps : List Str} {sp : Sp}
theorem str_at {pins : List (Addr × Obj)} {σ : L2.St} {H : Hp} {s : Shared} {Q : VK} {A : Around} {E' : Value → Shared → Prop} {a : Addr} (F : FnOk X.prog X.w X.K X.mg X.base CX0 k f fd ps sp) (hr : Room k A) (hA : A.frames = X.A.frames) (hb : Binds X.K fd ps []) (I : Inv X pins σ H s)
    (q : sp [.ref a] H (fun v H' => ∃ z, v = .str z ∧ Q (.str z) H') E0) : wpAny (model X.prog X.w) A (call (.ref f) [.ref a]) (PySem.W.StrBack (EP X pins σ Q)) E' s := by
  refine wpAny_mono (run_at (vs := [.ref a]) (us := [.ref a]) F hr hA hb I (.cons rfl .nil) q) (fun r s' z => ?_) fun _ _ z => z
  obtain ⟨v, H', I', rv, z, rfl, q'⟩ := z
  obtain ⟨t, rfl⟩ := rv
  exact ⟨.str z, H', I', ⟨t, rfl⟩, q'⟩
theorem call_strO (F : FnOk X.prog X.w X.K X.mg X.base CX0 k f fd ps sp) (S : Spec X.K C "__str__" f) (hr : Room (k + 2) X.A) (hb : Binds X.K fd ps []) : CallR X (.type "str") (rStrO C sp) := by
  intro pins s σ H xs us Q I r h
  obtain ⟨x, rfl, a, dx, fs, rfl, ha, q⟩ := h
  obtain ⟨u, rfl, rx⟩ := vals1 r
  obtain rfl : u = Value.ref a := rx
  obtain ⟨mA, J, _⟩ := ins_get I.hok ha
  obtain ⟨od, J, _⟩ := J.look
  have hr2 : Room k X.A.in1.in1 := hr.in1.in1
  exact PySem.W.kso_call hr2.units0 I.kIn J S.at_ S.fn (str_at F hr2 rfl hb I q)
theorem call_reprO (F : FnOk X.prog X.w X.K X.mg X.base CX0 k f fd ps sp) (S : Spec X.K C "__repr__" f) (hr : Room (k + 1) X.A) (hb : Binds X.K fd ps []) : CallR X (.builtin "repr") (rStrO C sp) := by
  intro pins s σ H xs us Q I r h
  obtain ⟨x, rfl, a, dx, fs, rfl, ha, q⟩ := h
  obtain ⟨u, rfl, rx⟩ := vals1 r
  obtain rfl : u = Value.ref a := rx
  obtain ⟨mA, J, _⟩ := ins_get I.hok ha
  obtain ⟨od, J, _⟩ := J.look
  obtain ⟨m, hF⟩ := I.fr
  have hr1 : Room k X.A.in1 := hr.in1
  exact PySem.W.repr_K hr1.units0 hF I.ok.mod.kin J S.at_ S.fn (str_at F hr1 rfl hb I q)
/-- the class's texts are asked by an f-string's field -/
structure FmtC (K : PySem.W.Frag) (C : Addr) : Prop where
  fm : PySem.W.findIn K (.ref C) "__format__" = some (some (.builtin "object.__format__"))
  ob : PySem.W.mroIn K C (.type "object") = some true
theorem pe_fmtO {e : Expr} {te : TE} {pos : Pos} (F : FnOk X.prog X.w X.K X.mg X.base CX0 k f fd ps sp) (S : Spec X.K C "__str__" f) (M : FmtC X.K C) (hr : Room (k + 1) X.A) (hb : Binds X.K fd ps []) (he : PE X e te) : PE X (.FormattedValue e (-1) none pos) (tFmtO C sp te) := by
  refine ⟨fun pins s σ H Q I h => ?_⟩
  refine wpAny_FormattedValue_plain (thn (he.run pins s σ H _ I h) fun v s1 hv => ?_)
  obtain ⟨x, H1, I1, rx, a, dx, fs, rfl, ha, q⟩ := hv
  obtain rfl : v = Value.ref a := rx
  obtain ⟨mA, J, _⟩ := ins_get I1.hok ha
  obtain ⟨od, J, _⟩ := J.look
  have hr1 : Room k X.A.in1 := hr.in1
  exact PySem.W.kfo_fieldS hr1.units0 I1.kIn J M.fm M.ob S.at_ S.fn (str_at F hr1 rfl hb (I1.tok _) q)
end
end Mine
namespace Mine
open PySem PySem.Spec PyProof.Rows L2
/-! ### code that is never reached -/
def tDead : TE := fun _ _ _ => False
section
variable {X : Cx}
theorem pe_dead {e : Expr} : PE X e tDead := ⟨fun _ _ _ _ _ _ h => h.elim⟩
/-! ### one rule or another -/
theorem op_any {f : Value → Value → Sem Value} {r1 r2 : R2} (h1 : OpR X f r1) (h2 : OpR X f r2) : OpR X f (fun x y H Q => r1 x y H Q ∨ r2 x y H Q) := fun pins s σ H x y v u Q I rx ry h => h.elim (h1 pins s σ H x y v u Q I rx ry) (h2 pins s σ H x y v u Q I rx ry)
theorem un_any {f : Value → Sem Value} {r1 r2 : V → Hp → VK → Prop} (h1 : UnR X f r1) (h2 : UnR X f r2) : UnR X f (fun x H Q => r1 x H Q ∨ r2 x H Q) := fun pins s σ H x v Q I rx h => h.elim (h1 pins s σ H x v Q I rx) (h2 pins s σ H x v Q I rx)
theorem call_any {f : Value} {r1 r2 : List V → Hp → VK → Prop} (h1 : CallR X f r1) (h2 : CallR X f r2) : CallR X f (fun x H Q => r1 x H Q ∨ r2 x H Q) := fun pins s σ H x v Q I rx h => h.elim (h1 pins s σ H x v Q I rx) (h2 pins s σ H x v Q I rx)
/-! ### // by any divisor below 2 ^ 9000 -/
def CDivG (_ j : Int) : Prop := j ≠ 0 ∧ j.natAbs.log2 < 9000
theorem op_fdivG : OpR X (binaryOp .FloorDiv) (rI CDivG fun i j => .int (i.fdiv j)) := opI fun _ _ _ _ _ _ _ hc q => floordiv_int hc.1 q (.inl (PyProof.noPylong_of_log2 hc.2))
end
/-! ### operators of own classes -/
/-- what is known of the operator nm of the class at C: f its own def, g the reflected one -/
structure OpC (K : PySem.W.Frag) (C : Addr) (nm : String) (f g : Addr) : Prop where
  sf : PySem.W.selfFirst K C = true
  hs : PySem.W.findIn K (.ref C) (PySem.dunder nm) = some (some (.ref f))
  hf : PySem.W.isFn K (.ref f) = true
  hr : PySem.W.findIn K (.ref C) (dunderR nm) = some (some (.ref g))
  hg : PySem.W.isFn K (.ref g) = true
  s1 : PySem.W.subIn K (.type "int") (.ref C) = some false
  s2 : PySem.W.subIn K (.ref C) (.type "int") = some false
section
variable {X : Cx} {k : Nat} {C f g : Addr} {fd : FuncData} {ps : List Str} {sp : Sp} {op : Operator}
theorem cmpBack_of {pins : List (Addr × Obj)} {σ : L2.St} {Q : VK} {u : Value} {s : Shared} (h : EP X pins σ Q u s) : PySem.W.CmpBack (EP X pins σ Q) u s := by
  cases u <;> first | exact h | skip
  obtain ⟨x, H, I, r, _⟩ := h
  cases x <;> first | (obtain ⟨_, h⟩ := r; cases h) | cases r
/-- x op y, both instances -/
def rBinO (C : Addr) (sp : Sp) : R2 := fun x y H Q => ∃ a dx fs b dy gs, x = .ref a ∧ y = .ref b ∧ H a = some (.ins C dx fs) ∧ H b = some (.ins C dy gs) ∧ sp [x, y] H Q E0
theorem op_binO (F : FnOk X.prog X.w X.K X.mg X.base CX0 k f fd ps sp) (S : OpC X.K C op.info.2 f g) (hr : Room k X.A) (hb : Binds X.K fd ps []) : OpR X (binaryOp op) (rBinO C sp) := by
  intro pins s σ H x y v u Q I rx ry h
  obtain ⟨a, dx, fs, b, dy, gs, rfl, rfl, ha, hb', q⟩ := h
  obtain rfl : v = Value.ref a := rx
  obtain rfl : u = Value.ref b := ry
  obtain ⟨mA, J, _⟩ := ins_get I.hok ha
  obtain ⟨od, J, _⟩ := J.look
  obtain ⟨mB, J2, _⟩ := ins_get I.hok hb'
  obtain ⟨od2, J2, _⟩ := J2.look
  obtain ⟨m, hF⟩ := I.fr
  refine PySem.W.binop_K (op := op) hF I.ok.mod.kin J J2.type S.sf S.hs S.hf ?_
  exact wpAny_mono (run_at (vs := [.ref a, .ref b]) (us := [.ref a, .ref b]) F hr rfl hb I (.cons rfl (.cons rfl .nil)) q) (fun r s' z => cmpBack_of z) fun _ _ z => z
/-- x op y, x an instance, y an int -/
def rBinI (C : Addr) (sp : Sp) : R2 := fun x y H Q => ∃ a dx fs i, x = .ref a ∧ y = .int i ∧ H a = some (.ins C dx fs) ∧ sp [x, y] H Q E0
theorem op_binI {fo ro : Option Value} (F : FnOk X.prog X.w X.K X.mg X.base CX0 k f fd ps sp) (S : OpC X.K C op.info.2 f g) (h1 : PySem.W.findIn X.K (.type "int") (PySem.dunder op.info.2) = some fo) (h2 : PySem.W.findIn X.K (.type "int") (dunderR op.info.2) = some ro)
    (hr : Room k X.A) (hb : Binds X.K fd ps []) : OpR X (binaryOp op) (rBinI C sp) := by
  intro pins s σ H x y v u Q I rx ry h
  obtain ⟨a, dx, fs, i, rfl, rfl, ha, q⟩ := h
  obtain rfl : v = Value.ref a := rx
  obtain ⟨t, rfl⟩ := ry
  obtain ⟨mA, J, _⟩ := ins_get I.hok ha
  obtain ⟨od, J, _⟩ := J.look
  obtain ⟨m, hF⟩ := I.fr
  refine PySem.W.ksp_binT (op := op) (T := "int") hF I.ok.mod.kin J rfl S.sf S.hs S.hf S.hr (.inr ⟨g, rfl⟩) h1 h2 S.s1 ?_
  exact wpAny_mono (run_at (vs := [.ref a, .int i]) (us := [.ref a, .int i t]) F hr rfl hb I (.cons rfl (.cons ⟨t, rfl⟩ .nil)) q) (fun r s' z => cmpBack_of z) fun _ _ z => z
/-- -x -/
def rUnO (C : Addr) (sp : Sp) : V → Hp → VK → Prop := fun x H Q => ∃ a dx fs, x = .ref a ∧ H a = some (.ins C dx fs) ∧ sp [x] H Q E0
theorem un_negO (F : FnOk X.prog X.w X.K X.mg X.base CX0 k f fd ps sp) (S : Spec X.K C "__neg__" f) (hr : Room k X.A) (hb : Binds X.K fd ps []) : UnR X (unaryOp .USub) (rUnO C sp) := by
  intro pins s σ H x v Q I rx h
  obtain ⟨a, dx, fs, rfl, ha, q⟩ := h
  obtain rfl : v = Value.ref a := rx
  obtain ⟨mA, J, _⟩ := ins_get I.hok ha
  obtain ⟨od, J, _⟩ := J.look
  obtain ⟨m, hF⟩ := I.fr
  refine PySem.W.ksp_neg hF I.ok.mod.kin J S.at_ S.fn ?_
  exact run_at (vs := [.ref a]) (us := [.ref a]) F hr rfl hb I (.cons rfl .nil) q
/-- abs(x) -/
def rAbsO (C : Addr) (sp : Sp) : List V → Hp → VK → Prop := fun xs H Q => ∃ x, xs = [x] ∧ rUnO C sp x H Q
theorem call_absO (F : FnOk X.prog X.w X.K X.mg X.base CX0 k f fd ps sp) (S : Spec X.K C "__abs__" f) (hr : Room (k + 1) X.A) (hb : Binds X.K fd ps []) : CallR X (.builtin "abs") (rAbsO C sp) := by
  intro pins s σ H xs us Q I r h
  obtain ⟨x, rfl, a, dx, fs, rfl, ha, q⟩ := h
  obtain ⟨u, rfl, rx⟩ := vals1 r
  obtain rfl : u = Value.ref a := rx
  obtain ⟨mA, J, _⟩ := ins_get I.hok ha
  obtain ⟨od, J, _⟩ := J.look
  have hr1 : Room k X.A.in1 := hr.in1
  refine Calls.call_function_entry kind_abs plain_abs entry_abs (args_abs _) ?_
  unfold Builtin.«abs»
  refine wpAny_bind (m := oneArg "abs" _) (wpAny_pure ?_)
  refine wpAny_bind (m := callSpecial? (.ref a) (Str.ofString "__abs__") []) (PySem.W.special_fn I.kIn J S.at_ (beq_iff_eq.mp S.fn) ?_)
  refine wpAny_mono (run_at (vs := [.ref a]) (us := [.ref a]) F hr1 rfl hb I (.cons rfl .nil) q) (fun r s' z => ?_) fun _ _ z => z
  exact wpAny_pure ⟨_, rfl, z⟩
/-- an int's own operator does not know an instance -/
theorem int_declines {nm : String} {fI : Int → Int → Sem Fin} {M : Model} {A : Around} {E : Value → Shared → Prop} {s : Shared} {i : Int} {t : Tok} {x : Addr} {ox : Obj} {Q : Fin → Shared → Prop} (hx : s.heap.get? x = some ox) (hd : ox.data = .plain)
    (h : Q (.done (.ret .notImplemented)) s) : wpAny M A (Builtin.Int.intBinary nm fI false ⟨[.int i t, .ref x], []⟩) Q E s := by
  unfold Builtin.Int.intBinary
  refine wpAny_bind (m := slotArgs nm 1 _) (wpAny_pure ?_)
  refine wpAny_bind (m := Builtin.Int.intOfSelf (.int i t)) (wpAny_pure ?_)
  refine wpAny_bind (m := asInt? (.ref x)) (wpAny_bind (wpAny_load hx ?_))
  rw [hd]
  exact wpAny_pure (wpAny_bind (wpAny_rule (wpAny_pure h)))
/-- what is known of the int's side -/
structure IntOp (nm : String) (id : String) (B : Builtin) : Prop where
  fl : fillsNumberSlot (.type "int") nm = pure true
  sl : Slot "int" (PySem.dunder nm) id
  en : entryFor table id = some B
  ar : ∀ a b : Value, argsOk id ⟨[a, b], []⟩
  bi : ∃ (n : String) (fI : Int → Int → Sem Fin), B = Builtin.Int.intBinary n fI false
theorem intOp_add : IntOp "add" "int.__add__" Builtin.«int.__add__» := ⟨PySem.F.fills_int_add, PySem.F.slot_int_add, PySem.F.entry_int_add, PySem.F.args_int_add_2, _, _, rfl⟩
theorem intOp_sub : IntOp "sub" "int.__sub__" Builtin.«int.__sub__» := ⟨PySem.F.fills_int_sub, PySem.F.slot_int_sub, PySem.F.entry_int_sub, PySem.F.args_int_sub_2, _, _, rfl⟩
theorem intOp_mul : IntOp "mul" "int.__mul__" Builtin.«int.__mul__» := ⟨PySem.F.fills_int_mul, PySem.F.slot_int_mul, PySem.F.entry_int_mul, PySem.F.args_int_mul_2, _, _, rfl⟩
/-- y op x, y an int, x an instance with the reflected def -/
def rBinR (C : Addr) (sp : Sp) : R2 := fun y x H Q => ∃ a dx fs i, x = .ref a ∧ y = .int i ∧ H a = some (.ins C dx fs) ∧ sp [x, y] H Q E0
theorem op_binR {id : String} {B : Builtin} (W : IntOp op.info.2 id B) (F : FnOk X.prog X.w X.K X.mg X.base CX0 k g fd ps sp) (S : OpC X.K C op.info.2 f g) (hr : Room k X.A) (hb : Binds X.K fd ps []) : OpR X (binaryOp op) (rBinR C sp) := by
  intro pins s σ H y x u v Q I ry rx h
  obtain ⟨a, dx, fs, i, rfl, rfl, ha, q⟩ := h
  obtain rfl : v = Value.ref a := rx
  obtain ⟨t, rfl⟩ := ry
  obtain ⟨mA, J0, _⟩ := ins_get I.hok ha
  obtain ⟨od, J, _⟩ := J0.look
  have KX := I.kIn
  obtain ⟨cd, rest, hcd, hm⟩ := PySem.W.ksp_first S.sf
  have run : wpAny (model X.prog X.w) X.A (call (.ref g) [.ref a, .int i t]) (PySem.W.CmpBack (EP X pins σ Q)) X.xe s :=
    wpAny_mono (run_at (vs := [.ref a, .int i]) (us := [.ref a, .int i t]) F hr rfl hb I (.cons rfl (.cons ⟨t, rfl⟩ .nil)) q) (fun r s' z => cmpBack_of z) fun _ _ z => z
  rcases hi : op.info with ⟨sym, nm'⟩
  have W' := W
  rw [hi] at W'
  have S' := S
  rw [hi] at S'
  dsimp only at W' S'
  obtain ⟨n, fI, hB⟩ := W'.bi
  have ti : s.TypeIs (.int i t) "int" := typeIs_int s i t
  have dec : wpAny (model X.prog X.w) X.A (call (.builtin id) [.int i t, .ref a]) (fun v s' => v = .notImplemented ∧ s' = s) X.xe s := by
    refine wpAny_call (codeAny_call_builtin W'.sl.plain W'.en (W'.sl.check _ _ _ _ _ _ _ _ ti (W'.ar _ _) ?_))
    rw [hB]
    exact int_declines J0.obj rfl ⟨rfl, rfl⟩
  have one := PySem.W.ksp_try KX J S'.hr S'.hg run
  have hne : (Value.type "int" == Value.ref C) = false := Bool.eq_false_iff.mpr fun q => by cases beq_iff_eq.mp q
  simp only [binaryOp, hi]
  refine wpAny_holding (wpAny_bind ?_)
  unfold binaryOp1
  refine wpAny_bind (wpAny_typeOf ti (wpAny_bind (J.type.here (wpAny_bind (wpAny_of_eq W'.fl ?_)))))
  simp only [hne, Bool.false_eq_true, if_false]
  refine wpAny_bind ((PySem.W.fills_K KX hcd hm S'.hs).here ?_)
  simp only [Bool.and_self, if_true]
  refine wpAny_bind ((PySem.W.looks_subIn KX S'.s2).here ?_)
  have hpy : numberSlotInPython (.type "int") nm' = pure false := rfl
  simp only [Bool.false_eq_true, if_false, pure_bind, Bool.not_false, Bool.and_self, if_true, hpy]
  refine wpAny_bind (wpAny_tryMethod_declines ti W'.sl (wpAny_mono dec (fun v s' z => ⟨z.1, ?_⟩) fun _ _ z => z))
  rw [z.2]
  refine wpAny_bind (wpAny_mono one (fun r s' z => ?_) fun _ _ z => z)
  obtain ⟨v, rfl, z⟩ := z
  exact wpAny_bind (wpAny_rule (wpAny_pure (wpAny_pure z)))
end
end Mine
namespace Mine
open PySem PySem.Spec PyProof.Rows L2
/-! ### o.m(.., k = v, ..), C.m(k = v, ..) -/
def tMethK (C : Addr) (m : Str) (n l : Nat) (sp : Sp) (gV : List V → List V → List V) (E : XK) (ta : TE) (t tk : TA) : TE := fun σ H Q => ta σ H fun x H1 => ∃ a dx fs, x = .ref a ∧ H1 a = some (.ins C dx fs) ∧ fs.lookup m = none ∧
  t σ H1 fun vs H2 => tk σ H2 fun zs H3 => vs.length = n ∧ zs.length = l ∧ sp (gV (x :: vs) zs) H3 Q E
section
variable {X : Cx} {CX : CXT} {k n : Nat} {f C : Addr} {fd : FuncData} {ps ks : List Str} {sp : Sp} {E : XK} {m : Str} {pos apos : Pos} {e o : Expr} {es : List Expr} {kws : List Keyword} {ta : TE} {t tk : TA} {g : List Value → List Value → List Value} {gV : List V → List V → List V}
theorem run_kn {pins : List (Addr × Obj)} {σ : L2.St} {H : Hp} {s : Shared} {Q : VK} {us ws : List Value} {vs zs : List V} (F : FnOk X.prog X.w X.K X.mg X.base CX k f fd ps sp) (hr : Room k X.A) (hb : KBn X.K fd ps n ks g gV) (hx : Passes CX X E)
    (I : Inv X pins σ H s) (r : Vals vs us) (rz : Vals zs ws) (l1 : vs.length = n) (l2 : zs.length = ks.length) (h : sp (gV vs zs) H Q E) : wpAny (model X.prog X.w) X.A (call (.ref f) us (ks.zip ws)) (EP X pins σ Q) X.xe s := by
  have r2 := hb.rel r rz
  refine wpAny_call (codeAny_mono (F.run X.A X.stack s H ⟨us, ks.zip ws⟩ (g us ws) (gV vs zs) Q E hr I.env0 (hb.to s us ws I.kIn (r.length.symm.trans l1) (rz.length.symm.trans l2)) r2 h) fun r s' hq => ?_)
  cases r with
  | error e => exact hx pins σ H s e s' I hq
  | ok fl =>
    cases fl with
    | ret u => exact I.after hq
    | next => exact False.elim hq
    | brk => exact False.elim hq
    | cont => exact False.elim hq
theorem pe_methK0 {pl : Sem Bool} (he : PE X o ta) (c : Cls X.K C) (hm : Meth X.K C m f) (F : FnOk X.prog X.w X.K X.mg X.base CX k f fd ps sp) (hr : Room k X.A) (hb : KBn X.K fd ps 1 ks g gV) (hx : Passes CX X E) (hkw : PK X kws tk)
    (hall : (backToKw pos (keywordEach kws X.env)).all (·.1.isSome) = true := by rfl) (hks : (backToKw pos (keywordEach kws X.env)).filterMap (·.1) = ks := by rfl)
    (hpl : ((backTo pos (starEach [] X.env)).any (·.1) || (backToKw pos (keywordEach kws X.env)).any (·.1.isNone)) = false := by rfl)
    (ht : eval (.Call (.Attribute o m apos) [] kws pos) X.env = (do
      let ov ← eval o X.env
      standAt apos.atName
      let (f, first) ← holding [ov] (getMethod ov m pl)
      callWith pos f first (backTo pos (starEach [] X.env)) (backToKw pos (keywordEach kws X.env))) := by rfl) :
    PE X (.Call (.Attribute o m apos) [] kws pos) (tMethK C m 0 ks.length sp gV E ta tNil tk) := by
  refine ⟨fun pins s σ H Q I h => ?_⟩
  refine PySem.W.methodCall_KW (pl := pl) (thn (he.run pins s σ H _ I h) fun u s1 ⟨x, H1, I1, rx, a, dx, fs, ex, ea, l, q⟩ => ?_) ht
  subst ex
  obtain rfl : u = Value.ref a := rx
  refine getmeth_ok I1 ea c hm l ?_
  refine PySem.W.callWith_KW0 (first := [.ref a]) (h₀ := X.base) I.ok.mod.kin hm.kp hall ?_ hpl
  refine thn (hkw.run pos pins s1 σ H1 _ I1 q) fun ws s2 ⟨zs, H2, I2, rz, _, l2, q2⟩ => ⟨I2.kIn, ?_⟩
  rw [hks]
  exact run_kn (us := [.ref a]) (vs := [.ref a]) F hr hb hx I2 (.cons rfl .nil) rz rfl l2 q2
/-- f(k = v, ..) -/
def tCallK0 (n : Nat) (sp : Sp) (gV : List V → List V → List V) (E : XK) (tk : TA) : TE := fun σ H Q => tk σ H fun zs H2 => zs.length = n ∧ sp (gV [] zs) H2 Q E
theorem pe_callK0 {x : Str} {p : Pos} (F : FnOk X.prog X.w X.K X.mg X.base CX k f fd ps sp) (hr : Room k X.A) (hg : Gl X x) (hm : X.mg x = some (.ref f)) (hk : PySem.W.keepIn X.K (.ref f) = true) (hb : KBn X.K fd ps 0 ks g gV) (hx : Passes CX X E) (hkw : PK X kws tk)
    (hall : (backToKw pos (keywordEach kws X.env)).all (·.1.isSome) = true := by rfl) (hks : (backToKw pos (keywordEach kws X.env)).filterMap (·.1) = ks := by rfl) (hdb : (x == ("__debug__" : Str)) = false := by decide)
    (hpl : ((backTo pos (starEach [] X.env)).any (·.1) || (backToKw pos (keywordEach kws X.env)).any (·.1.isNone)) = false := by rfl) :
    PE X (.Call (.Name x p) [] kws pos) (tCallK0 ks.length sp gV E tk) := by
  refine ⟨fun pins s σ H Q I h => ?_⟩
  refine wpAny_Call_Name_kw (ld_glob I hg hm ?_ hdb)
  refine PySem.W.callWith_KW0 (h₀ := X.base) I.ok.mod.kin hk hall ?_ hpl
  refine thn (hkw.run pos pins s σ H _ I h) fun ws s2 ⟨zs, H2, I2, rz, l2, q2⟩ => ⟨I2.kIn, ?_⟩
  rw [hks]
  exact run_kn (us := []) (vs := []) F hr hb hx I2 .nil rz rfl l2 q2
end
end Mine
namespace Mine
open PySem PySem.Spec PyProof.Rows L2
/-! ### the bag of draws -/
def bagO (l : Addr) (i r m n : Int) : HO := .lst [.ref l, .int i, .int r, .int m, .int n]
structure BagV (H : Hp) (l : Addr) (i r m : Int) : Prop where
  ls : ∃ ns : List Int, H l = some (.lst (ns.map V.int))
  i0 : 0 ≤ i
  r0 : 0 ≤ r
  m0 : 0 ≤ m
  m1 : m < 2147483549
def Bag (H : Hp) (b : Addr) : Prop := ∃ l i r m n, H b = some (bagO l i r m n) ∧ BagV H l i r m ∧ l ≠ b
theorem Bag.put {H : Hp} {b l : Addr} {i r m n : Int} (ne : l ≠ b) (h : BagV H l i r m) : Bag (upd H b (bagO l i r m n)) b :=
  ⟨l, i, r, m, n, upd_same, ⟨(let ⟨ns, e⟩ := h.ls; ⟨ns, by rw [upd_ne ne]; exact e⟩), h.i0, h.r0, h.m0, h.m1⟩, ne⟩
theorem Bag.same {H H' : Hp} {b : Addr} (h : Bag H b) (e : ∀ c o, H c = some o → H' c = some o) : Bag H' b := by
  obtain ⟨l, i, r, m, n, hb, hV, ne⟩ := h
  obtain ⟨ns, hl⟩ := hV.ls
  exact ⟨l, i, r, m, n, e _ _ hb, ⟨⟨ns, e _ _ hl⟩, hV.i0, hV.r0, hV.m0, hV.m1⟩, ne⟩
def spPull : Sp := fun vs H Q _ => ∃ (b : Addr) (many : Int), vs = [.ref b, .int many] ∧ Bag H b ∧ 0 < many ∧ many < 1073741824 ∧
  ∀ (d : Int) (o : HO), 0 ≤ d → d < many → Bag (upd H b o) b → Q (.int d) (upd H b o)
structure TxtL (mg : Str → Option Value) : Prop where
  len : mg "len" = none
  abs : mg "abs" = none
  int : mg "int" = none
  list : mg "list" = none
section
variable {P : Program} {w : World} {K : PySem.W.Frag} {mg : Str → Option Value} {base : Heap}
theorem itT {c : Bool} {A B : Prop} (hc : c = true) (h : A) : if c = true then A else B := by
  rw [if_pos hc]
  exact h
theorem itF {c : Bool} {A B : Prop} (hc : c = false) (h : B) : if c = true then A else B := by
  rw [hc, if_neg Bool.false_ne_true]
  exact h
theorem rd_ix {σ : L2.St} {H : Hp} {Q : VK} {b : Addr} {xs : List V} {i : Int} {v : V} (s0 : σ[0]? = some (some (.ref b))) (h : H b = some (.lst xs)) (ha : atI xs i = some v) (q : Q v H) : tOp (rIxL K) (tVar 0) (tC (.int i)) σ H Q :=
  ⟨_, s0, b, xs, i, v, rfl, rfl, SqL.of h, ha, q⟩
theorem rd_set {σ : L2.St} {H : Hp} {D : Ends} {b : Addr} {xs : List V} {i : Int} {j : Nat} {v : V} {te : TE} (s0 : σ[0]? = some (some (.ref b))) (he : ∀ Q : VK, Q v H → te σ H Q) (h : H b = some (.lst xs)) (hj : ixN xs.length i = some j) (q : D.nx σ (upd H b (.lst (xs.set j v)))) :
    tAsg te (gSub (tVar 0) (tC (.int i)) rSetL) D σ H := he _ ⟨_, s0, b, xs, i, j, rfl, rfl, h, hj, q⟩
theorem at_range {ns : List Int} {i : Int} (h0 : 0 ≤ i) (h1 : i < ((ns.map V.int).length : Int)) : ∃ z, atI (ns.map V.int) i = some (V.int z) := by
  have h2 : i.toNat < ns.length := by rw [List.length_map] at h1; omega
  refine ⟨ns[i.toNat], ?_⟩
  unfold atI ixN
  rw [if_pos h0, if_pos h1]
  simp [h2]
end
/-! ### data -/
def okD : Nat → PyData → Bool
  | _, .none => true
  | _, .bool _ => true
  | _, .int _ => true
  | _, .str _ => true
  | n + 1, .list ds => decide (ds.length ≤ 1000) && ds.all (okD n)
  | n + 1, .tuple ds => decide (ds.length ≤ 1000) && ds.all (okD n)
  | _, _ => false
def tyD : PyData → Value
  | .none => .type "NoneType"
  | .bool _ => .type "bool"
  | .int _ => .type "int"
  | .str _ => .type "str"
  | .list _ => .type "list"
  | .tuple _ => .type "tuple"
  | .dict _ => .type "dict"
theorem Same.sqT {K : PySem.W.Frag} {H H' : Hp} {a : Addr} {xs : List V} (e : Same H H') (h : SqT K H a xs) : SqT K H' a xs := Evl.ex_t e h
mutual
theorem dp_mono {K : PySem.W.Frag} {H H' : Hp} (e : Same H H') : ∀ (d : PyData) (v : V), Dp K H v d → Dp K H' v d
  | .none, _, h => by cases h; exact .non
  | .bool b, _, h => by cases h; exact .bl b
  | .int i, _, h => by cases h; exact .int i
  | .str x, _, h => by cases h; exact .str x
  | .list ds, _, h => by
    cases h with
    | lst s a => exact .lst (Evl.ex_l e s) (dpAll_mono e ds _ a)
  | .tuple ds, _, h => by
    cases h with
    | tup s a => exact .tup (Evl.ex_t e s) (dpAll_mono e ds _ a)
  | .dict _, _, h => nomatch h
theorem dpAll_mono {K : PySem.W.Frag} {H H' : Hp} (e : Same H H') : ∀ (ds : List PyData) (vs : List V), DpAll K H vs ds → DpAll K H' vs ds
  | [], _, h => by cases h; exact .nil
  | d :: ds, _, h => by
    cases h with
    | cons a b => exact .cons (dp_mono e d _ a) (dpAll_mono e ds _ b)
end
theorem Same.new {H : Hp} {p : Addr} {o : HO} (h : H p = none) : Same H (upd H p o) := Evl.Ex.new h
theorem sz2 : 2 ≤ sizeLine := by decide
theorem dpAll_len {K : PySem.W.Frag} {H : Hp} : ∀ {ds : List PyData} {vs : List V}, DpAll K H vs ds → vs.length = ds.length
  | _, _, .nil => rfl
  | _, _, .cons _ b => congrArg (· + 1) (dpAll_len b)
theorem dpAll_at {K : PySem.W.Frag} {H : Hp} : ∀ {ds : List PyData} {vs : List V} {i : Nat} {v : V}, DpAll K H vs ds → vs[i]? = some v → ∃ d, ds[i]? = some d ∧ Dp K H v d
  | _, _, _, _, .nil, h => by simp at h
  | _, _, 0, _, .cons a _, h => by simp at h; subst h; exact ⟨_, rfl, a⟩
  | _, _, i + 1, v, .cons _ b, h => by
    obtain ⟨d, h1, h2⟩ := dpAll_at (i := i) (v := v) b (by simpa using h)
    exact ⟨d, by simpa using h1, h2⟩
theorem dp_ty {K : PySem.W.Frag} {H : Hp} {v : V} {d : PyData} (h : Dp K H v d) : TyX K H v (tyD d) := by
  cases h with
  | non => exact .base .non
  | bl b => exact .base (.bl b)
  | int i => exact .base (.int i)
  | str x => exact .base (.str x)
  | lst s a =>
    rcases s with (s | ⟨o, s⟩) | ⟨o, its, n, s, c, _⟩
    · exact .base (.lst s)
    · exact .base (.frz s)
    · exact .kList s c
  | tup s a =>
    rcases s with (s | ⟨o, s⟩) | ⟨o, its, n, s, c, _⟩
    · exact .base (.tup s)
    · exact .fTuple s
    · exact .kTuple s c
theorem walk_zipT {K : PySem.W.Frag} {a b : Addr} {xs ys : List V} {n : Nat} (hn : n = min xs.length ys.length) : Walk (RZ.ItzT K a b) n (fun H => SqT K H a xs ∧ SqT K H b ys) (YPair (fun i => xs[i]?) (fun i => ys[i]?)) := by
  subst hn
  constructor
  · intro i H hi q
    have h1 : i < xs.length := by omega
    have h2 : i < ys.length := by omega
    exact ⟨xs, ys, xs[i], ys[i], q.1, q.2, by simp [h1], by simp [h2]⟩
  · intro H q
    exact ⟨xs, ys, q.1, q.2, by omega⟩
  · intro i H v H' _ q y
    obtain ⟨T, x, z, h1, h2, h3, h4, h5⟩ := y
    exact ⟨T, x, z, h1, h2, h3, h4 xs q.1, h5 ys q.2⟩
def isBoolD : PyData → Bool
  | .bool _ => true
  | _ => false
def isIntD : PyData → Bool
  | .bool _ => true
  | .int _ => true
  | _ => false
def isStrD : PyData → Bool
  | .str _ => true
  | _ => false
def isListD : PyData → Bool
  | .list _ => true
  | _ => false
def isTupD : PyData → Bool
  | .tuple _ => true
  | _ => false
theorem kit_bool {K : PySem.W.Frag} (d : PyData) : PySem.W.kitOne K (tyD d) (.type "bool") = some (isBoolD d) := by cases d <;> first | exact kit_ty (show kitB _ _ = some true by decide +kernel) | exact kit_ty (show kitB _ _ = some false by decide +kernel)
theorem kit_int {K : PySem.W.Frag} (d : PyData) : PySem.W.kitOne K (tyD d) (.type "int") = some (isIntD d) := by cases d <;> first | exact kit_ty (show kitB _ _ = some true by decide +kernel) | exact kit_ty (show kitB _ _ = some false by decide +kernel)
theorem kit_str {K : PySem.W.Frag} (d : PyData) : PySem.W.kitOne K (tyD d) (.type "str") = some (isStrD d) := by cases d <;> first | exact kit_ty (show kitB _ _ = some true by decide +kernel) | exact kit_ty (show kitB _ _ = some false by decide +kernel)
theorem kit_list {K : PySem.W.Frag} (d : PyData) : PySem.W.kitOne K (tyD d) (.type "list") = some (isListD d) := by cases d <;> first | exact kit_ty (show kitB _ _ = some true by decide +kernel) | exact kit_ty (show kitB _ _ = some false by decide +kernel)
theorem kit_tup {K : PySem.W.Frag} (d : PyData) : PySem.W.kitOne K (tyD d) (.type "tuple") = some (isTupD d) := by cases d <;> first | exact kit_ty (show kitB _ _ = some true by decide +kernel) | exact kit_ty (show kitB _ _ = some false by decide +kernel)
theorem kit_lt {K : PySem.W.Frag} (d : PyData) : PySem.W.kitAny K (tyD d) [.type "list", .type "tuple"] = some (isListD d || isTupD d) :=
  kitAny_cons (kit_list d) (fun _ => kitAny_cons (kit_tup d) (fun h => by rw [kitAny_nil, h]; cases e : isListD d <;> simp_all) (fun h => by rw [h, Bool.or_true])) (fun h => by rw [h, Bool.true_or])
/-- equal data are told to be the same -/
def spSame (K : PySem.W.Frag) : Nat → Sp
  | 0 => fun _ _ _ _ => False
  | n + 1 => fun vs H Q _ => ∃ (x y : V) (d : PyData), vs = [x, y] ∧ Dp K H x d ∧ Dp K H y d ∧ okD n d = true ∧ ∀ H', Same H H' → Q (.bl true) H'
structure TxtS (K : PySem.W.Frag) (mg : Str → Option Value) (fS : Addr) : Prop where
  len : mg "len" = none
  isinstance : mg "isinstance" = none
  bool : mg "bool" = none
  int : mg "int" = none
  str : mg "str" = none
  list : mg "list" = none
  tuple : mg "tuple" = none
  all : mg "all" = none
  zip : mg "zip" = none
  g_same : mg "_law_same" = some (.ref fS)
  k_same : PySem.W.keepIn K (.ref fS) = true
section
variable {P : Program} {w : World} {K : PySem.W.Frag} {mg : Str → Option Value} {base : Heap}
/-- the list of a comprehension over pairs, each told True -/
theorem same_all {K : PySem.W.Frag} {m : Nat} {D : Addr} {xs ys : List V} {ds : List PyData} {J : It} {H : Hp} {G : Hp → Prop} {Qd : Hp → Prop} {σ : L2.St} (hσ : ∀ u v : V, (((wipe σ [2, 3]).set 2 (some u)).set 3 (some v))[2]? = some (some u) ∧ (((wipe σ [2, 3]).set 2 (some u)).set 3 (some v))[3]? = some (some v) ∧ wipe (((wipe σ [2, 3]).set 2 (some u)).set 3 (some v)) [2, 3] = wipe σ [2, 3])
    (w : Walk J ds.length G (YPair (fun i => xs[i]?) (fun i => ys[i]?))) (hG : ∀ H', Same H H' → G H') (hD : H D = none) (hx : DpAll K H xs ds) (hy : DpAll K H ys ds) (hl : ds.length ≤ 1000) (ok : ds.all (okD m) = true)
    (q : ∀ H', Same H H' → H' D = some (.lst ((List.replicate ds.length true).map V.bl)) → Qd H') :
    ∃ W : Nat → Nat → Hp → Prop, (∃ m, W 0 m (upd H D (.lst []))) ∧ ∀ i m' H, W i m' H →
      (J.stop i H ∧ Qd H) ∨ (J.go i H ∧ ∃ Nx : Hp → Prop, (∀ H', Nx H' → ∃ m'', m'' < m' ∧ W (i + 1) m'' H') ∧ ∀ x H', J.yld i H x H' → gTup K 2 (gCons (gName 2) (gCons (gName 3) gNil)) x (wipe σ [2, 3]) H' fun σ2 H2 => wipe σ2 [2, 3] = wipe σ [2, 3] ∧ tYes σ2 H2 fun b H3 =>
        if b = true then tCall (spSame K (m + 1)) [] E0 (tCons (tVar 2) (tCons (tVar 3) tNil)) σ2 H3 fun y H4 => ∃ acc, H4 D = some (.lst acc) ∧ acc.length < sizeLine ∧ Nx (upd H4 D (.lst (acc ++ [y]))) else Nx H3) := by
  refine lc_it w (fun i H' => Same H H' ∧ H' D = some (.lst ((List.replicate i true).map V.bl))) ⟨fun c o e => by rw [upd_ne (ne_of_none e hD)]; exact e, upd_same⟩ (fun i H' _ p => hG H' p.1) ?_ (fun H' p => q H' p.1 p.2)
  rintro i v H1 H2 hi ⟨s1, hd1⟩ ⟨T, x, y, rfl, nT, rfl, hxi, hyi⟩
  have sT : Same H1 (upd H1 T (.tup [x, y])) := fun c o e => by rw [upd_ne (ne_of_none e nT)]; exact e
  have s2 : Same H (upd H1 T (.tup [x, y])) := s1.trans sT
  obtain ⟨d1, e1, dx⟩ := dpAll_at hx hxi
  obtain ⟨d2, e2, dy⟩ := dpAll_at hy hyi
  rw [e1] at e2
  cases e2
  have okd : okD m d1 = true := (List.all_eq_true.mp ok) d1 (List.mem_of_getElem? e1)
  obtain ⟨g2, g3, gw⟩ := hσ x y
  refine ⟨T, _, rfl, .inl (.inl upd_same), rfl, ⟨x, _, rfl, ⟨y, _, rfl, ⟨rfl, gw, ?_⟩⟩⟩⟩
  refine ⟨x, g2, y, g3, x, y, d1, rfl, dp_mono s2 _ _ dx, dp_mono s2 _ _ dy, okd, fun H3 s3 => ?_⟩
  have hd3 : H3 D = some (.lst ((List.replicate i true).map V.bl)) := s3 _ _ (sT _ _ hd1)
  refine ⟨_, hd3, ?_, fun c o e => ?_, ?_⟩
  · rw [List.length_map, List.length_replicate]
    exact small1000 (by omega)
  · rw [upd_ne (ne_of_none e hD)]
    exact s3 _ _ (s2 _ _ e)
  · rw [upd_same, List.replicate_succ', List.map_append]
    rfl
end
theorem cut_ints {ns : List Int} {lo hi : Option Int} : ∃ ms : List Int, cutV (ns.map V.int) lo hi = ms.map V.int := by
  refine ⟨(ns.drop (HT.sIx (ns.map V.int).length 0 lo)).take (HT.sIx (ns.map V.int).length (ns.map V.int).length hi - HT.sIx (ns.map V.int).length 0 lo), ?_⟩
  unfold cutV
  rw [← List.map_drop, ← List.map_take]
theorem sqL_upd {K : PySem.W.Frag} {H : Hp} {b t : Addr} {o : HO} {xs : List V} (ne : t ≠ b) (h : SqL K H t xs) : SqL K (upd H b o) t xs := by
  rcases h with (h | ⟨ob, h⟩) | h
  · exact .inl (.inl (by rw [upd_ne ne]; exact h))
  · exact .inl (.inr ⟨ob, by rw [upd_ne ne]; exact h⟩)
  · exact .inr h
def spBag (K : PySem.W.Frag) : Sp := fun vs H Q _ => ∃ (a : Addr) (ns : List Int), vs = [.ref a] ∧ SqL K H a (ns.map V.int) ∧ ∀ (b : Addr) (H' : Hp), H b = none → Same H H' → Bag H' b → Q (.ref b) H'
def spOf (K : PySem.W.Frag) : Sp := fun vs H Q _ => ∃ (b t : Addr) (xs : List V), vs = [.ref b, .ref t] ∧ Bag H b ∧ SqL K H t xs ∧ t ≠ b ∧ 0 < xs.length ∧ xs.length < 1000 ∧
  ∀ (j : Nat) (v : V) (o : HO), xs[j]? = some v → Bag (upd H b o) b → Q v (upd H b o)
structure TxtP (K : PySem.W.Frag) (mg : Str → Option Value) (fP : Addr) : Prop where
  len : mg "len" = none
  g_pull : mg "_law_pull" = some (.ref fP)
  k_pull : PySem.W.keepIn K (.ref fP) = true
section
variable {P : Program} {w : World} {K : PySem.W.Frag} {mg : Str → Option Value} {base : Heap}
end
/-! ### what an error has beside its code -/
def otherName (c : Str) : Option Str := if V.str c = .str "InvalidFact" then some "what" else if V.str c = .str "InvalidRow" then some "index" else if V.str c = .str "InvalidPage" then some "line" else if V.str c = .str "UnlikeWorlds" then none else some "deed"
def fieldName (c : Str) : Option Str :=
  if inV (.str c) [.str "InvalidName", .str "InvalidNumber"] = true then some "given" else if inV (.str c) [.str "InvalidText", .str "WrongKind", .str "InvalidBlank"] = true then some "at"
  else if inV (.str c) [.str "NameTaken", .str "InvalidWitness", .str "UnknownName"] = true then some "name" else if V.str c = .str "TooLarge" then none else otherName c
/-- an error with the code c and the value v of the field fn is told by its field -/
structure ErrAt (K : PySem.W.Frag) (cls : Value) (d : Option Addr) (H : Hp) (c fn : Str) (v : V) : Prop where
  ex : ∃ (C dd : Addr) (fs : List (Str × V)), cls = .ref C ∧ XfC K C ∧ PySem.W.findIn K (.ref C) "code" = some none ∧ PySem.W.findIn K (.ref C) fn = some none ∧ d = some dd ∧ H dd = some (.xd fs) ∧ fs.lookup ("code" : Str) = some (V.str c) ∧ fs.lookup fn = some v
def spOther (K : PySem.W.Frag) : SpE := fun a cls d vs H Q => ∃ (c fn : Str) (v : V), vs = [.ref a] ∧ ErrAt K cls d H c fn v ∧ otherName c = some fn ∧ Q v H
def spField (K : PySem.W.Frag) : SpE := fun a cls d vs H Q => ∃ (c fn : Str) (v : V), vs = [.ref a] ∧ ErrAt K cls d H c fn v ∧ fieldName c = some fn ∧ ∀ H', Same H H' → Q v H'
structure TxtF (K : PySem.W.Frag) (mg : Str → Option Value) (fO : Addr) : Prop where
  g_ofield : mg "_law_other_field" = some (.ref fO)
  k_ofield : PySem.W.keepIn K (.ref fO) = true
section
variable {P : Program} {w : World} {K : PySem.W.Frag} {mg : Str → Option Value} {base : Heap}
end
/-! ### errors made -/
/-- the __init__ of an error with one field fn beside its code c -/
def spErr1 (C : Addr) (c fn : Str) : Sp := fun vs H Q _ => ∃ (a : Addr) (v : V), vs = [.ref a, v] ∧ H a = some (exo a C none) ∧
  ∀ (d : Addr) (H' : Hp), H d = none → d ≠ a → H' a = some (exo a C (some d)) → H' d = some (exd d [(fn, v), ("code", .str c)]) → (∀ b, b ≠ a → b ≠ d → H' b = H b) → Q .non H'
/-- the heap behind a raise: the error's dict beside what stood -/
theorem raised_heap {H H2 : Hp} {a d : Addr} {fs : List (Str × V)} (ha : H a = none) (hd : H d = none) (e : ∀ b, b ≠ a → b ≠ d → H2 b = upd H a (exo a 0 none) b) : upd (del H2 a) d (.xd fs) = upd H d (.xd fs) := by
  funext b
  by_cases hb : b = d
  · rw [hb, upd_same, upd_same]
  · rw [upd_ne hb, upd_ne hb]
    by_cases hba : b = a
    · rw [hba, del_same, ha]
    · rw [del_ne hba, e b hba hb, upd_ne hba]
/-- what the top says of an error class -/
structure ErrC (K : PySem.W.Frag) (mg : Str → Option Value) (nm fn : Str) (C fI : Addr) : Prop where
  x : OexC K C
  i : PySem.W.findIn K (.ref C) "__init__" = some (some (.ref fI))
  t : PySem.W.typeIn K (.ref fI) = some (.type "function")
  g : mg nm = some (.ref C)
  nc : PySem.W.findIn K (.ref C) "code" = some none
  nf : PySem.W.findIn K (.ref C) fn = some none
  xf : XfC K C
section
variable {P : Program} {w : World} {K : PySem.W.Frag} {mg : Str → Option Value} {base : Heap}
end
/-- a loop of a comprehension: B is what a turn asks -/
theorem turns_it {J : It} {n : Nat} {G : Hp → Prop} {Y : Nat → Hp → V → Hp → Prop} (w : Walk J n G Y) {Hs : Hp} {Qd : Hp → Prop} {B : (Hp → Prop) → V → Hp → Prop} (Pv : Nat → Hp → Prop) (h0 : Pv 0 Hs) (hG : ∀ i H, i ≤ n → Pv i H → G H)
    (hs : ∀ i x H H', i < n → Pv i H → Y i H x H' → B (Pv (i + 1)) x H') (hd : ∀ H, Pv n H → Qd H) :
    ∃ W : Nat → Nat → Hp → Prop, (∃ m, W 0 m Hs) ∧ ∀ i m H, W i m H → (J.stop i H ∧ Qd H) ∨ (J.go i H ∧ ∃ Nx : Hp → Prop, (∀ H', Nx H' → ∃ m', m' < m ∧ W (i + 1) m' H') ∧ ∀ x H', J.yld i H x H' → B Nx x H') := by
  refine ⟨fun i m H => m = n - i ∧ i ≤ n ∧ Pv i H, ⟨n, rfl, Nat.zero_le _, h0⟩, ?_⟩
  rintro i m H ⟨rfl, hi, p⟩
  by_cases c : i < n
  · exact .inr ⟨w.goes i H c (hG i H hi p), Pv (i + 1), fun H' p' => ⟨n - (i + 1), by omega, rfl, c, p'⟩, fun x H' y => hs i x H H' c p (w.yields i H x H' c (hG i H hi p) y)⟩
  · obtain rfl : i = n := by omega
    exact .inl ⟨w.stops H (hG i H hi p), hd H p⟩
theorem Same.make {H : Hp} {x dx : Addr} {o u : HO} (hx : H x = none) (hd : H dx = none) : Same H (upd (upd H dx o) x u) := fun b q e => by rw [upd_ne (ne_of_none e hx), upd_ne (ne_of_none e hd)]; exact e
/-- what _law_why makes of the reading tl of the lambda: the pair of "value" and what it gives, or the pair of an error's code and its field -/
def TTwhy (K : PySem.W.Frag) (CS CM : Addr) : (XK → Hp → VK → Prop) → Hp → VK → Prop := fun tl H Q =>
  tl (fun cls d H' => ∃ (c fn : Str) (v : V), PySem.W.exmAny K cls [.ref CS, .ref CM] = some true ∧ ErrAt K cls d H' c fn v ∧ fieldName c = some fn ∧ ∀ (p : Addr) (H2 : Hp), H' p = none → Same H' H2 → H2 p = some (.tup [.str c, v]) → Q (.ref p) H2) H
    (fun v H' => ([V.str "value", v] : List V).length ≤ sizeLine ∧ ∀ p, H' p = none → Q (.ref p) (upd H' p (.tup [.str "value", v])))
structure TxtW (K : PySem.W.Frag) (mg : Str → Option Value) (CS CM fF : Addr) : Prop where
  g_SlopeError : mg "SlopeError" = some (.ref CS)
  g_Missing : mg "Missing" = some (.ref CM)
  g_field : mg "_law_field" = some (.ref fF)
  k_field : PySem.W.keepIn K (.ref fF) = true
theorem int_dec (k j : Nat) : decide (V.int (k : Int) = V.int (j : Int)) = decide (k = j) := by
  by_cases h : k = j
  · rw [decide_eq_true h, h]
    exact decide_eq_true rfl
  · rw [decide_eq_false h]
    exact decide_eq_false fun z => h (by have := V.int.inj z; omega)
theorem nf_self {K : PySem.W.Frag} {C : Addr} : PySem.W.notFirst K C (.ref C) = true := by
  unfold PySem.W.notFirst
  simp
theorem Bag.lst {H : Hp} {b : Addr} (h : Bag H b) : ∃ ys, H b = some (.lst ys) := let ⟨_, _, _, _, _, h, _⟩ := h; ⟨_, h⟩
theorem dpAll_of {K : PySem.W.Frag} {H : Hp} {f : Nat → PyData} : ∀ (xs : List Addr) (n0 : Nat), (∀ (i : Nat) (t : Addr), xs[i]? = some t → Dp K H (.ref t) (f (n0 + i))) → DpAll K H (xs.map V.ref) ((List.range' n0 xs.length).map f)
  | [], _, _ => .nil
  | x :: xs, n0, h => .cons (h 0 x rfl) (dpAll_of xs (n0 + 1) fun i t z => by
      have := h (i + 1) t z
      rw [show n0 + 1 + i = n0 + (i + 1) by omega]
      exact this)
theorem sqL_ext {K : PySem.W.Frag} {H H' : Hp} (e : LamX.ExtN H H') {a : Addr} {xs : List V} (h : SqL K H a xs) : SqL K H' a xs := by
  rcases h with (h | ⟨ob, h⟩) | h
  · exact .inl (.inl (e _ _ h fun _ z => nomatch z))
  · exact .inl (.inr ⟨ob, e _ _ h fun _ z => nomatch z⟩)
  · exact .inr h
theorem sqT_ext {K : PySem.W.Frag} {H H' : Hp} (e : LamX.ExtN H H') {a : Addr} {xs : List V} (h : SqT K H a xs) : SqT K H' a xs := by
  rcases h with (h | ⟨ob, h⟩) | h
  · exact .inl (.inl (e _ _ h fun _ z => nomatch z))
  · exact .inl (.inr ⟨ob, e _ _ h fun _ z => nomatch z⟩)
  · exact .inr h
theorem ok_pair {d : PyData} (h : okD 2 d = true) (c : Str) : okD 3 (.tuple [.str c, d]) = true := by
  unfold okD
  rw [List.all_cons, List.all_cons, List.all_nil, h]
  rfl
mutual
theorem dp_ext {K : PySem.W.Frag} {H H' : Hp} (e : LamX.ExtN H H') : ∀ (d : PyData) (v : V), Dp K H v d → Dp K H' v d
  | .none, _, h => by cases h; exact .non
  | .bool b, _, h => by cases h; exact .bl b
  | .int i, _, h => by cases h; exact .int i
  | .str x, _, h => by cases h; exact .str x
  | .list ds, _, h => by
    cases h with
    | lst s a => exact .lst (sqL_ext e s) (dpAll_ext e ds _ a)
  | .tuple ds, _, h => by
    cases h with
    | tup s a => exact .tup (sqT_ext e s) (dpAll_ext e ds _ a)
  | .dict _, _, h => nomatch h
theorem dpAll_ext {K : PySem.W.Frag} {H H' : Hp} (e : LamX.ExtN H H') : ∀ (ds : List PyData) (vs : List V), DpAll K H vs ds → DpAll K H' vs ds
  | [], _, h => by cases h; exact .nil
  | d :: ds, _, h => by
    cases h with
    | cons a b => exact .cons (dp_ext e d _ a) (dpAll_ext e ds _ b)
end
theorem hu65 {A : Around} {k : Nat} (hr : Room k A) : A.units + 65 < cLine := by have := hr.un; omega
theorem hu64 {A : Around} {k : Nat} (hr : Room k A) : A.units + 64 < cLine := by have := hr.un; omega
theorem szle {n : Nat} (h : n ≤ 100000) : n ≤ sizeLine := Evl.sz_of h
theorem kit_self {K : PySem.W.Frag} {C : Addr} : PySem.W.kitOne K (.ref C) (.ref C) = some true := by
  unfold PySem.W.kitOne
  rw [if_pos (by simp)]
end Mine
namespace Mine
open PySem PySem.Spec PyProof.Rows L2
/-! ### fractions in lowest terms, plainly -/
def sgcd (n d : Int) : Int := if d < 0 then -((Nat.gcd n.natAbs d.natAbs : Nat) : Int) else ((Nat.gcd n.natAbs d.natAbs : Nat) : Int)
def low (n d : Int) : Int × Int := (n.fdiv (sgcd n d), d.fdiv (sgcd n d))
theorem sgcd_ne {n d : Int} (h : d ≠ 0) : sgcd n d ≠ 0 := by
  have : 0 < Nat.gcd n.natAbs d.natAbs := Nat.gcd_pos_of_pos_right _ (by omega)
  unfold sgcd
  split <;> omega
theorem sgcd_abs (n d : Int) : (sgcd n d).natAbs = Nat.gcd n.natAbs d.natAbs := by
  unfold sgcd
  split <;> omega
theorem sgcd_dvdl (n d : Int) : sgcd n d ∣ n := by
  rw [← Int.natAbs_dvd_natAbs, sgcd_abs]
  exact Nat.gcd_dvd_left _ _
theorem sgcd_dvdr (n d : Int) : sgcd n d ∣ d := by
  rw [← Int.natAbs_dvd_natAbs, sgcd_abs]
  exact Nat.gcd_dvd_right _ _
/-- in lowest terms -/
def Lo (n d : Int) : Prop := 0 < d ∧ Nat.gcd n.natAbs d.natAbs = 1
theorem low_mul {n d : Int} (h : d ≠ 0) : (low n d).1 * sgcd n d = n ∧ (low n d).2 * sgcd n d = d := by
  have e1 := sgcd_dvdl n d
  have e2 := sgcd_dvdr n d
  unfold low
  exact ⟨by rw [Int.fdiv_eq_ediv_of_dvd e1]; exact Int.ediv_mul_cancel e1, by rw [Int.fdiv_eq_ediv_of_dvd e2]; exact Int.ediv_mul_cancel e2⟩
theorem low_lo {n d : Int} (h : d ≠ 0) : Lo (low n d).1 (low n d).2 := by
  obtain ⟨h1, h2⟩ := low_mul (n := n) h
  have hs := sgcd_ne (n := n) h
  have ha := sgcd_abs n d
  refine ⟨?_, ?_⟩
  · rcases Int.lt_trichotomy (low n d).2 0 with c | c | c
    · exfalso
      unfold sgcd at h2 hs
      split at h2
      · rename_i hd
        have g0 : (0 : Int) < ((Nat.gcd n.natAbs d.natAbs : Nat) : Int) := by
          have : 0 < Nat.gcd n.natAbs d.natAbs := Nat.gcd_pos_of_pos_right _ (by omega)
          omega
        have : 0 < (low n d).2 * -((Nat.gcd n.natAbs d.natAbs : Nat) : Int) := Int.mul_pos_of_neg_of_neg c (by omega)
        omega
      · rename_i hd
        have g0 : (0 : Int) < ((Nat.gcd n.natAbs d.natAbs : Nat) : Int) := by
          have : 0 < Nat.gcd n.natAbs d.natAbs := Nat.gcd_pos_of_pos_right _ (by omega)
          omega
        have : (low n d).2 * ((Nat.gcd n.natAbs d.natAbs : Nat) : Int) < 0 := Int.mul_neg_of_neg_of_pos c g0
        omega
    · exfalso
      rw [c, Int.zero_mul] at h2
      exact h h2.symm
    · exact c
  · have g0 : 0 < Nat.gcd n.natAbs d.natAbs := Nat.gcd_pos_of_pos_right _ (by omega)
    have e1 : (low n d).1.natAbs * Nat.gcd n.natAbs d.natAbs = n.natAbs := by rw [← ha, ← Int.natAbs_mul, h1]
    have e2 : (low n d).2.natAbs * Nat.gcd n.natAbs d.natAbs = d.natAbs := by rw [← ha, ← Int.natAbs_mul, h2]
    have e3 : Nat.gcd ((low n d).1.natAbs * Nat.gcd n.natAbs d.natAbs) ((low n d).2.natAbs * Nat.gcd n.natAbs d.natAbs) = Nat.gcd n.natAbs d.natAbs := by rw [e1, e2]
    rw [Nat.gcd_mul_right] at e3
    exact Nat.eq_of_mul_eq_mul_right g0 (by rw [e3, Nat.one_mul])
theorem low_of {n d : Int} (h : Lo n d) : low n d = (n, d) := by
  have e : sgcd n d = 1 := by
    unfold sgcd
    rw [h.2, if_neg (by have := h.1; omega)]
    rfl
  unfold low
  rw [e, Int.fdiv_one, Int.fdiv_one]
theorem low_le {n d : Int} (h : d ≠ 0) : (low n d).1.natAbs ≤ n.natAbs ∧ (low n d).2.natAbs ≤ d.natAbs := by
  obtain ⟨h1, h2⟩ := low_mul (n := n) h
  have hs : 0 < (sgcd n d).natAbs := by have := sgcd_ne (n := n) h; omega
  have e1 : (low n d).1.natAbs * (sgcd n d).natAbs = n.natAbs := by rw [← Int.natAbs_mul, h1]
  have e2 : (low n d).2.natAbs * (sgcd n d).natAbs = d.natAbs := by rw [← Int.natAbs_mul, h2]
  exact ⟨by rw [← e1]; exact Nat.le_mul_of_pos_right _ hs, by rw [← e2]; exact Nat.le_mul_of_pos_right _ hs⟩
theorem lo_one (i : Int) : Lo i 1 := ⟨by decide, by simp⟩
theorem lo_neg {n d : Int} (h : Lo n d) : Lo (-n) d := ⟨h.1, by rw [Int.natAbs_neg]; exact h.2⟩
theorem lo_abs {n d : Int} (h : Lo n d) : Lo (if n < 0 then -n else n) d := by
  split
  · exact lo_neg h
  · exact h
/-! ### fractions in the heap -/
def ratF (n d : Int) : List (Str × V) := [("top", .int n), ("bottom", .int d)]
theorem ratF_top (n d : Int) : (ratF n d).lookup ("top" : Str) = some (.int n) := by
  unfold ratF
  rw [lookup_put, if_pos rfl]
theorem ratF_bottom (n d : Int) : (ratF n d).lookup ("bottom" : Str) = some (.int d) := by
  unfold ratF
  rw [lookup_put, if_neg (by decide +kernel), lookup_put, if_pos rfl]
theorem ratF_no (n d : Int) {m : Str} (h1 : ¬ m = "top") (h2 : ¬ m = "bottom") : (ratF n d).lookup m = none := by
  unfold ratF
  rw [lookup_put, if_neg h1, lookup_put, if_neg h2]
  rfl
theorem put_rat (n d : Int) : putF "bottom" (.int d) (putF "top" (.int n) []) = ratF n d := by
  show (if ("top" : Str) = "bottom" then _ else _) = _
  rw [if_neg (by decide +kernel)]
  rfl
def RatAt (C : Addr) (H : Hp) (a : Addr) (n d : Int) : Prop := ∃ dx, H a = some (.ins C dx (ratF n d))
theorem RatAt.mono {C : Addr} {H H' : Hp} {a : Addr} {n d : Int} (h : RatAt C H a n d) (e : Same H H') : RatAt C H' a n d := let ⟨dx, z⟩ := h; ⟨dx, e _ _ z⟩
/-- what a value is to the fractions -/
inductive Kr where
  | i (z : Int) | r (n d : Int) | no
def Kr.isI : Kr → Bool
  | .i _ => true
  | _ => false
def Kr.isN : Kr → Bool
  | .no => false
  | _ => true
def Kr.top : Kr → Int
  | .i z => z
  | .r n _ => n
  | .no => 0
def Kr.bot : Kr → Int
  | .i _ => 1
  | .r _ d => d
  | .no => 1
def wholeD : PyData → Bool
  | .int _ => true
  | _ => false
inductive KindR (K : PySem.W.Frag) (C : Addr) (H : Hp) : V → Kr → Prop where
  | int (z : Int) : KindR K C H (.int z) (.i z)
  | rat {a : Addr} {n d : Int} (h : RatAt C H a n d) : KindR K C H (.ref a) (.r n d)
  | dat {v : V} {d : PyData} (h : Dp K H v d) (w : wholeD d = false) : KindR K C H v .no
theorem KindR.mono {K : PySem.W.Frag} {C : Addr} {H H' : Hp} {v : V} {k : Kr} (h : KindR K C H v k) (e : Same H H') : KindR K C H' v k := by
  cases h with
  | int z => exact .int z
  | rat h => exact .rat (h.mono e)
  | dat h w => exact .dat (dp_mono e _ _ h) w
/-- numbers of less than k bits -/
def Bt (k : Nat) (n : Int) : Prop := n.natAbs < 2 ^ k
theorem Bt.mono {k l : Nat} {n : Int} (h : Bt k n) (e : k ≤ l) : Bt l n := Nat.lt_of_lt_of_le h (Nat.pow_le_pow_right (by decide) e)
theorem Bt.mul {k l : Nat} {n m : Int} (h : Bt k n) (g : Bt l m) : Bt (k + l) (n * m) := wide_lt h g
theorem Bt.add {k : Nat} {n m : Int} (h : Bt k n) (g : Bt k m) : Bt (k + 1) (n + m) := by
  unfold Bt at *
  rw [Nat.pow_succ]
  omega
theorem Bt.neg {k : Nat} {n : Int} (h : Bt k n) : Bt k (-n) := by
  unfold Bt at *
  rw [Int.natAbs_neg]
  exact h
theorem Bt.abs {k : Nat} {n : Int} (h : Bt k n) : Bt k (if n < 0 then -n else n) := by
  split
  · exact h.neg
  · exact h
theorem Bt.one {k : Nat} (h : 0 < k) : Bt k 1 := by
  unfold Bt
  exact Nat.one_lt_two_pow (by omega)
theorem Bt.low {k l : Nat} {n d : Int} (h : Bt k n) (g : Bt l d) (z : d ≠ 0) : Bt k (low n d).1 ∧ Bt l (low n d).2 := ⟨Nat.lt_of_le_of_lt (low_le z).1 h, Nat.lt_of_le_of_lt (low_le z).2 g⟩
theorem Bt.cm {k l : Nat} {n m : Int} (h : Bt k n) (g : Bt l m) (h0 : 0 < k) (h1 : 0 < l) (e : k + l ≤ 1000000) : CMulW n m := wide_mul h g h0 h1 e
theorem sgcd_cd {n d : Int} {k : Nat} (h : d ≠ 0) (g : Bt k d) (h0 : 0 < k) (h1 : k ≤ 9000) (i : Int) : CDivG i (sgcd n d) := by
  refine ⟨sgcd_ne h, ?_⟩
  rw [sgcd_abs]
  have e : Nat.gcd n.natAbs d.natAbs ≤ d.natAbs := Nat.gcd_le_right _ (by omega)
  exact Nat.lt_of_lt_of_le (PySem.Flt.log2_lt_of h0 (Nat.lt_of_le_of_lt e g)) h1
/-! ### promises -/
def spWhole (K : PySem.W.Frag) (C : Addr) : Sp := fun vs H Q _ => ∃ v k, vs = [v] ∧ KindR K C H v k ∧ Q (.bl k.isI) H
def spNumber (K : PySem.W.Frag) (C : Addr) : Sp := fun vs H Q _ => ∃ v k, vs = [v] ∧ KindR K C H v k ∧ Q (.bl k.isN) H
/-- a new fraction -/
def NewRat (C : Addr) (H : Hp) (Q : VK) (n d : Int) : Prop := ∀ (p : Addr) (H' : Hp), H p = none → Same H H' → RatAt C H' p n d → Q (.ref p) H'
def invD (v : V) : HO := .xd [("given", v), ("code", .str "InvalidNumber")]
def Inval (C : Addr) (H : Hp) (E : XK) (v : V) : Prop := ∀ e, H e = none → E (.ref C) (some e) (upd H e (invD v))
def spRat (K : PySem.W.Frag) (C CE : Addr) : Sp := fun vs H Q E => ∃ (a dx : Addr) (x y : V) (kx ky : Kr), vs = [.ref a, x, y] ∧ H a = some (.ins C dx []) ∧ KindR K C H x kx ∧ KindR K C H y ky ∧
  (∀ n d, kx = .i n → ky = .i d → d ≠ 0 → Bt 8000 n ∧ Bt 8000 d ∧ Q .non (upd H a (.ins C dx (ratF (low n d).1 (low n d).2)))) ∧
  (kx.isI = false → Inval CE H E x) ∧ (kx.isI = true → (ky.isI = false ∨ ky = .i 0) → Inval CE H E y)
def spRof (K : PySem.W.Frag) (C CE : Addr) : Sp := fun vs H Q E => ∃ (v : V) (k : Kr), vs = [v] ∧ KindR K C H v k ∧
  (∀ n d, k = .r n d → Q v H) ∧ (∀ z, k = .i z → Bt 8000 z ∧ NewRat C H Q z 1) ∧ (k = .no → Inval CE H E v)
/-- an operation of a fraction and a number -/
def spBin (K : PySem.W.Frag) (C : Addr) (f : Int → Int → Int → Int → Int × Int) : Sp := fun vs H Q _ => ∃ (a : Addr) (n d : Int) (y : V) (k : Kr), vs = [.ref a, y] ∧ RatAt C H a n d ∧ KindR K C H y k ∧ k.isN = true ∧ Lo n d ∧ Lo k.top k.bot ∧ Bt 1000 n ∧ Bt 1000 d ∧ Bt 1000 k.top ∧ Bt 1000 k.bot ∧
  NewRat C H Q (low (f n d k.top k.bot).1 (f n d k.top k.bot).2).1 (low (f n d k.top k.bot).1 (f n d k.top k.bot).2).2
def fAdd (n d m e : Int) : Int × Int := (n * e + m * d, d * e)
def fSub (n d m e : Int) : Int × Int := fAdd n d (-m) e
def fRsub (n d m e : Int) : Int × Int := fAdd m e (-n) d
def fMul (n d m e : Int) : Int × Int := (n * m, d * e)
def spUn (C : Addr) (f : Int → Int) : Sp := fun vs H Q _ => ∃ (a : Addr) (n d : Int), vs = [.ref a] ∧ RatAt C H a n d ∧ Lo n d ∧ Bt 7000 n ∧ Bt 7000 d ∧ NewRat C H Q (f n) d
/-! ### what the top says of the fractions -/
structure RatC (K : PySem.W.Frag) (mg : Str → Option Value) (C CE fE fW fN fO : Addr) : Prop where
  cl : Cls K C
  nT : NoAttr K C "top"
  nB : NoAttr K C "bottom"
  tyi : ∀ (H : Hp) (a dx : Addr) (fs : List (Str × V)), H a = some (.ins C dx fs) → TyX K H (.ref a) (.ref C)
  kd : ∀ d : PyData, PySem.W.kitOne K (tyD d) (.ref C) = some false
  ki : PySem.W.kitOne K (.ref C) (.type "int") = some false
  g_Ratio : mg "Ratio" = some (.ref C)
  g_whole : mg "is_whole" = some (.ref fW)
  k_whole : PySem.W.keepIn K (.ref fW) = true
  g_number : mg "is_number" = some (.ref fN)
  k_number : PySem.W.keepIn K (.ref fN) = true
  g_rof : mg "ratio_of" = some (.ref fO)
  k_rof : PySem.W.keepIn K (.ref fO) = true
  gcd : mg "gcd" = some (.builtin "math.gcd")
  isinstance : mg "isinstance" = none
  int : mg "int" = none
  bool : mg "bool" = none
  abs : mg "abs" = none
  x_InvalidNumber : OexC K CE
  i_InvalidNumber : PySem.W.findIn K (.ref CE) "__init__" = some (some (.ref fE))
  t_InvalidNumber : PySem.W.typeIn K (.ref fE) = some (.type "function")
  g_InvalidNumber : mg "InvalidNumber" = some (.ref CE)
structure RatO (K : PySem.W.Frag) (mg : Str → Option Value) (C CE fE fW fN fO fA gA fS gS fM gM fG fB : Addr) : Prop extends RatC K mg C CE fE fW fN fO where
  o_add : OpC K C "add" fA gA
  o_sub : OpC K C "sub" fS gS
  o_mul : OpC K C "mul" fM gM
  s_neg : Spec K C "__neg__" fG
  s_abs : Spec K C "__abs__" fB
  i_add : PySem.W.findIn K (.type "int") (PySem.dunder "add") = some (some (.builtin "int.__add__"))
  ir_add : PySem.W.findIn K (.type "int") (dunderR "add") = some (some (.builtin "int.__radd__"))
  i_sub : PySem.W.findIn K (.type "int") (PySem.dunder "sub") = some (some (.builtin "int.__sub__"))
  ir_sub : PySem.W.findIn K (.type "int") (dunderR "sub") = some (some (.builtin "int.__rsub__"))
  i_mul : PySem.W.findIn K (.type "int") (PySem.dunder "mul") = some (some (.builtin "int.__mul__"))
  ir_mul : PySem.W.findIn K (.type "int") (dunderR "mul") = some (some (.builtin "int.__rmul__"))
end Mine
namespace Mine
open PySem PySem.Spec PyProof.Rows L2 TL
/-! ### the texts of ints and of fractions -/
theorem str_ext {x y : Str} (h : tl x = tl y) : x = y := by
  cases x with
  | mk a =>
    cases y with
    | mk b =>
      have : a.toList = b.toList := h
      rw [Array.toList_inj.mp this]
theorem ofString_app (a b : String) : Str.ofString (a ++ b) = Str.ofString a ++ Str.ofString b := by
  apply str_ext
  rw [tl_ofString, tl_append, tl_ofString, tl_ofString, String.toList_append, List.map_append]
theorem abs_nat' (z : Int) : (if z < 0 then -z else z) = ((z.natAbs : Nat) : Int) := by split <;> omega
def itext (n : Int) : Str := Str.ofString (toString n)
theorem empty_app (x : Str) : Str.empty ++ x = x := by
  apply str_ext
  rw [tl_append]
  rfl
theorem app_nil (x : Str) : x ++ Str.ofString "" = x := by
  apply str_ext
  rw [tl_append, tl_ofString]
  simp
theorem itext_sign (n : Int) : Str.empty ++ (if n < 0 then ("-" : Str) else "") ++ itext (if n < 0 then -n else n) ++ "" = itext n := by
  rw [empty_app, app_nil]
  unfold itext
  split
  · rename_i h
    rw [toString_neg h, ofString_app, Int.zero_sub]
  · apply str_ext
    rw [tl_append]
    rfl
/-- of less than 60 digits -/
def D60 (n : Int) : Prop := n.natAbs < 10 ^ 60
theorem D60.log {n : Int} (h : D60 n) : n.natAbs.log2 < 1920 := Nat.lt_of_lt_of_le (PySem.Flt.log2_lt_of (k := 200) (by decide) (Nat.lt_of_lt_of_le h (by decide))) (by decide)
theorem D60.abs {n : Int} (h : D60 n) : D60 (if n < 0 then -n else n) := by
  unfold D60 at *
  split
  · rw [Int.natAbs_neg]
    exact h
  · exact h
theorem D60.len {n : Int} (h : D60 n) : (itext n).length ≤ 61 := by
  unfold itext
  rw [ofString_len]
  exact PySem.int_text_length_le10 (by decide) h
def ratText (n d : Int) : Str := if d = 1 then itext n else itext n ++ "/" ++ itext d
def spDig : Sp := fun vs H Q _ => ∃ n : Int, vs = [.int n] ∧ D60 n ∧ Q (.str (itext n)) H
def spRatStr (C : Addr) : Sp := fun vs H Q _ => ∃ (a : Addr) (n d : Int), vs = [.ref a] ∧ RatAt C H a n d ∧ D60 n ∧ D60 d ∧ Q (.str (ratText n d)) H
end Mine
namespace Mine
open PySem PySem.Spec PyProof.Rows L2
/-! ### the facts of an unseen function -/
def vS : Option Str → V
  | none => .non
  | some x => .str x
def vI : Option Int → V
  | none => .non
  | some i => .int i
def dS : Option Str → PyData
  | none => .none
  | some x => .str x
def dI : Option Int → PyData
  | none => .none
  | some i => .int i
theorem dp_vS {K : PySem.W.Frag} {H : Hp} (x : Option Str) : Dp K H (vS x) (dS x) := by cases x; exact .non; exact .str _
theorem dp_vI {K : PySem.W.Frag} {H : Hp} (x : Option Int) : Dp K H (vI x) (dI x) := by cases x; exact .non; exact .int _
structure Fact where
  ar : Int
  mi : Option Str
  n : Int
  d : Int
  de : Option Int
  sw : Option Str
/-- good facts -/
structure FactOk (f : Fact) : Prop where
  ar : f.ar = 1 ∨ f.ar = 2
  mi : f.mi = none ∨ (f.ar = 1 ∧ (f.mi = some "even" ∨ f.mi = some "odd"))
  c0 : f.mi = none → f.n = 0
  de : f.de = none ∨ (f.ar = 1 ∧ (f.de = some 0 ∨ f.de = some 1 ∨ f.de = some 2 ∨ f.de = some 3))
  sw : f.sw = none ∨ (f.ar = 2 ∧ (f.sw = some "same" ∨ f.sw = some "minus"))
  lo : Lo f.n f.d
  n60 : Bt 30 f.n
  d60 : Bt 30 f.d
def miW (n d : Int) : Option Str → List Str
  | none => []
  | some m => [m, ratText n d]
def deW : Option Int → List Str
  | none => []
  | some g => ["degree", itext g]
def swW : Option Str → List Str
  | none => []
  | some x => [x]
theorem miW_len (n d : Int) (m : Option Str) : (miW n d m).length ≤ 2 := by cases m <;> simp [miW]
theorem deW_len (m : Option Int) : (deW m).length ≤ 2 := by cases m <;> simp [deW]
theorem swW_len (m : Option Str) : (swW m).length ≤ 1 := by cases m <;> simp [swW]
def wordsOf (f : Fact) : List Str := [itext f.ar] ++ miW f.n f.d f.mi ++ deW f.de ++ swW f.sw
def factText (f : Fact) : Str := Txt.join " " (wordsOf f)
def unsF (f : Fact) (p : Addr) : List (Str × V) := [("arity", .int f.ar), ("mirror", vS f.mi), ("centre", .ref p), ("degree", vI f.de), ("swap", vS f.sw), ("text", .str (factText f))]
def UnsAt (C CR : Addr) (H : Hp) (a : Addr) (f : Fact) : Prop := ∃ dx p, H a = some (.ins C dx (unsF f p)) ∧ RatAt CR H p f.n f.d
theorem UnsAt.mono {C CR : Addr} {H H' : Hp} {a : Addr} {f : Fact} (h : UnsAt C CR H a f) (e : Same H H') : UnsAt C CR H' a f := let ⟨dx, p, h1, h2⟩ := h; ⟨dx, p, e _ _ h1, h2.mono e⟩
theorem Bt.d60 {n : Int} (h : Bt 30 n) : D60 n := Nat.lt_of_lt_of_le h (by decide)
section
variable (f : Fact) (p : Addr)
theorem unsF_arity : (unsF f p).lookup ("arity" : Str) = some (.int f.ar) := by unfold unsF; rw [lookup_put, if_pos rfl]
theorem unsF_mirror : (unsF f p).lookup ("mirror" : Str) = some (vS f.mi) := by unfold unsF; rw [lookup_put, if_neg (by decide +kernel), lookup_put, if_pos rfl]
theorem unsF_centre : (unsF f p).lookup ("centre" : Str) = some (.ref p) := by unfold unsF; rw [lookup_put, if_neg (by decide +kernel), lookup_put, if_neg (by decide +kernel), lookup_put, if_pos rfl]
theorem unsF_degree : (unsF f p).lookup ("degree" : Str) = some (vI f.de) := by unfold unsF; rw [lookup_put, if_neg (by decide +kernel), lookup_put, if_neg (by decide +kernel), lookup_put, if_neg (by decide +kernel), lookup_put, if_pos rfl]
theorem unsF_swap : (unsF f p).lookup ("swap" : Str) = some (vS f.sw) := by unfold unsF; rw [lookup_put, if_neg (by decide +kernel), lookup_put, if_neg (by decide +kernel), lookup_put, if_neg (by decide +kernel), lookup_put, if_neg (by decide +kernel), lookup_put, if_pos rfl]
theorem unsF_text : (unsF f p).lookup ("text" : Str) = some (.str (factText f)) := by unfold unsF; rw [lookup_put, if_neg (by decide +kernel), lookup_put, if_neg (by decide +kernel), lookup_put, if_neg (by decide +kernel), lookup_put, if_neg (by decide +kernel), lookup_put, if_neg (by decide +kernel), lookup_put, if_pos rfl]
end
theorem putF_new {k : Str} {v : V} : ∀ {fs : List (Str × V)}, (∀ q ∈ fs, ¬ q.1 = k) → putF k v fs = fs ++ [(k, v)]
  | [], _ => rfl
  | (g, x) :: r, h => by
    show (if g = k then _ else _) = _
    rw [if_neg (h (g, x) (List.mem_cons_self ..)), putF_new fun q hq => h q (List.mem_cons_of_mem _ hq)]
    rfl
def unsF3 (f : Fact) (p : Addr) : List (Str × V) := [("arity", .int f.ar), ("mirror", vS f.mi), ("centre", .ref p)]
def unsF5 (f : Fact) (p : Addr) : List (Str × V) := [("arity", .int f.ar), ("mirror", vS f.mi), ("centre", .ref p), ("degree", vI f.de), ("swap", vS f.sw)]
theorem putF_nm {k : Str} {v : V} {fs : List (Str × V)} {ns : List Str} (e : fs.map (·.1) = ns) (h : (ns.all fun g => !decide (g = k)) = true) : putF k v fs = fs ++ [(k, v)] := putF_new fun q hq z => by
  have hm : q.1 ∈ ns := by rw [← e]; exact List.mem_map.mpr ⟨q, hq, rfl⟩
  have := List.all_eq_true.mp h _ hm
  rw [z] at this
  simp at this
theorem put_3 (f : Fact) (p : Addr) : putF "centre" (.ref p) (putF "mirror" (vS f.mi) (putF "arity" (.int f.ar) [])) = unsF3 f p := by
  rw [putF_nm (fs := []) (ns := []) rfl rfl, putF_nm (k := "mirror") (ns := ["arity"]) rfl (by decide +kernel), putF_nm (k := "centre") (ns := ["arity", "mirror"]) rfl (by decide +kernel)]
  rfl
theorem put_5 (f : Fact) (p : Addr) : putF "swap" (vS f.sw) (putF "degree" (vI f.de) (unsF3 f p)) = unsF5 f p := by
  rw [putF_nm (k := "degree") (ns := ["arity", "mirror", "centre"]) rfl (by decide +kernel), putF_nm (k := "swap") (ns := ["arity", "mirror", "centre", "degree"]) rfl (by decide +kernel)]
  rfl
theorem put_6 (f : Fact) (p : Addr) : putF "text" (.str (factText f)) (unsF5 f p) = unsF f p := by
  rw [putF_nm (k := "text") (ns := ["arity", "mirror", "centre", "degree", "swap"]) rfl (by decide +kernel)]
  rfl
theorem unsF5_centre (f : Fact) (p : Addr) : (unsF5 f p).lookup ("centre" : Str) = some (.ref p) := by unfold unsF5; rw [lookup_put, if_neg (by decide +kernel), lookup_put, if_neg (by decide +kernel), lookup_put, if_pos rfl]
/-- all but the object at a stays -/
def ExA (a : Addr) (H H' : Hp) : Prop := ∀ b o, b ≠ a → H b = some o → H' b = some o
theorem ExA.upd {a : Addr} {H H' : Hp} {o : HO} (h : ExA a H H') : ExA a H (upd H' a o) := fun b u ne e => by rw [upd_ne ne]; exact h b u ne e
theorem ExA.same {a : Addr} {H H' H2 : Hp} (h : ExA a H H') (e : Same H' H2) : ExA a H H2 := fun b u ne z => e _ _ (h b u ne z)
theorem ExA.of {a : Addr} {H H' : Hp} (e : Same H H') : ExA a H H' := fun b u _ z => e _ _ z
theorem kindN_exA {K : PySem.W.Frag} {C CU a dx : Addr} {H H' : Hp} {y : V} {k : Kr} (ha : H a = some (.ins CU dx [])) (h : KindR K C H y k) (hN : k.isN = true) (e : ExA a H H') : KindR K C H' y k := by
  cases h with
  | int z => exact .int z
  | dat _ _ => cases hN
  | rat h =>
    obtain ⟨d, h⟩ := h
    refine .rat ⟨d, e _ _ (fun z => ?_) h⟩
    rw [z, ha] at h
    cases h
def spUns (K : PySem.W.Frag) (C CR : Addr) : Sp := fun vs H Q _ => ∃ (a dx : Addr) (y : V) (k : Kr) (f : Fact), vs = [.ref a, .int f.ar, vS f.mi, y, vI f.de, vS f.sw] ∧ H a = some (.ins C dx []) ∧ KindR K CR H y k ∧ k.isN = true ∧ k.top = f.n ∧ k.bot = f.d ∧ FactOk f ∧
  ∀ (p : Addr) (H' : Hp), (∀ b o, b ≠ a → H b = some o → H' b = some o) → H' a = some (.ins C dx (unsF f p)) → RatAt CR H' p f.n f.d → Q .non H'
end Mine
namespace Mine
open PySem PySem.Spec PyProof.Rows L2
/-! ### values without addresses: what never changes stands by its parts, what may change by the number of its cell -/
inductive Dv where
  | non | bl (b : Bool) | int (i : Int) | str (s : Str) | ty (n : String)
  | lst (l : List Dv) | tup (l : List Dv) | dct (ks : List Key) (l : List Dv) | dtp (ks : List (List Key)) (l : List Dv)
  | obj (c : Nat) (ns : List Str) (l : List Dv)
  | own (i : Nat) | gl (i : Nat) | scr (ns : List Int) | lam (k : Nat)
/-- the classes by number; the tables of code objects -/
structure Cl where
  fn : Nat → Addr
  tb : List (Addr × Str)
  lm : Nat → Addr → Addr → Addr → Heap → Prop := fun _ _ _ _ _ => True
  ld : Nat → Bool := fun _ => false
  lq : Str := ""
/-- the defaults of a lambda: one 0 -/
def DefT (td : Addr) : Heap → Prop := fun h => ∃ t, h.get? td = some (PySem.W.kdv_tup [.int 0 t])
instance : CoeFun Cl (fun _ => Nat → Addr) := ⟨Cl.fn⟩
/-- fb: addresses of others, never met; mu: those of the cells that may change; nm: the addresses of the cells by number -/
structure Rc where
  fb : Addr → Prop
  mu : Addr → Prop
  nm : List Addr
def Free (R : Rc) (a : Addr) : Prop := ¬ R.fb a ∧ ¬ R.mu a
def KT (K : PySem.W.Frag) (a : Addr) (xs : List V) : Prop := ∃ (o : Obj) (its : Array Value) (n : Nat), K.lookup a = some o ∧ o.cls = .type "tuple" ∧ o.data = .seq its n ∧ its.size ≤ sizeLine ∧ Vals xs its.toList
def KL (K : PySem.W.Frag) (a : Addr) (xs : List V) : Prop := ∃ (o : Obj) (its : Array Value) (n : Nat), K.lookup a = some o ∧ o.cls = .type "list" ∧ o.dict = none ∧ o.data = .seq its n ∧ its.size ≤ sizeLine ∧ Vals xs its.toList
def FS (K : PySem.W.Frag) (R : Rc) (H : Hp) (a : Addr) (xs : List V) : Prop := (Rd H a (.lst xs) ∧ Free R a) ∨ KL K a xs
def FL (R : Rc) (H : Hp) (a : Addr) (xs : List V) : Prop := H a = some (.lst xs) ∧ Free R a
def FT (K : PySem.W.Frag) (R : Rc) (H : Hp) (a : Addr) (xs : List V) : Prop := (H a = some (.tup xs) ∧ Free R a) ∨ KT K a xs
mutual
inductive Rep (K : PySem.W.Frag) (cl : Cl) (R : Rc) (H : Hp) : V → Dv → Prop
  | non : Rep K cl R H .non .non
  | bl (b : Bool) : Rep K cl R H (.bl b) (.bl b)
  | int (i : Int) : Rep K cl R H (.int i) (.int i)
  | str (s : Str) : Rep K cl R H (.str s) (.str s)
  | ty (n : String) : Rep K cl R H (.ty n) (.ty n)
  | gl (i : Nat) : Rep K cl R H (.ref (cl i)) (.gl i)
  | lst {a : Addr} {xs : List V} {ds : List Dv} : FL R H a xs → RepAll K cl R H xs ds → Rep K cl R H (.ref a) (.lst ds)
  | tup {a : Addr} {xs : List V} {ds : List Dv} : FT K R H a xs → RepAll K cl R H xs ds → Rep K cl R H (.ref a) (.tup ds)
  | dct {a : Addr} {kvs : List (Key × V)} {ks : List Key} {ds : List Dv} : Rd H a (.dK kvs) → Free R a → kvs.map (·.1) = ks → RepAll K cl R H (kvs.map (·.2)) ds → Rep K cl R H (.ref a) (.dct ks ds)
  | dtp {a : Addr} {kvs : List (List Key × V)} {ks : List (List Key)} {ds : List Dv} : Rd H a (.dT kvs) → Free R a → kvs.map (·.1) = ks → RepAll K cl R H (kvs.map (·.2)) ds → Rep K cl R H (.ref a) (.dtp ks ds)
  | obj {a dx : Addr} {c : Nat} {fs : List (Str × V)} {ns : List Str} {ds : List Dv} : H a = some (.ins (cl c) dx fs) → Free R a → fs.map (·.1) = ns → RepAll K cl R H (fs.map (·.2)) ds → Rep K cl R H (.ref a) (.obj c ns ds)
  | own {a : Addr} {i : Nat} : R.nm[i]? = some a → Rep K cl R H (.ref a) (.own i)
  | scr {a : Addr} {ns : List Int} : FS K R H a (ns.map V.int) → Rep K cl R H (.ref a) (.scr ns)
  | lam {f c' td : Addr} {k : Nat} : H f = some (.ext (cl.lm k f c' td)) → H c' = some (LamX.CodeO c' cl.lq) → (cl.ld k = true → H td = some (.ext (DefT td))) → (∃ a, R.nm[(0 : Nat)]? = some a) → Rep K cl R H (.ref f) (.lam k)
inductive RepAll (K : PySem.W.Frag) (cl : Cl) (R : Rc) (H : Hp) : List V → List Dv → Prop
  | nil : RepAll K cl R H [] []
  | cons {v : V} {vs : List V} {d : Dv} {ds : List Dv} : Rep K cl R H v d → RepAll K cl R H vs ds → RepAll K cl R H (v :: vs) (d :: ds)
end
/-- nothing but a table stands there -/
def Nt (H : Hp) (a : Addr) : Prop := ∀ o, H a = some o → ∃ ps, o = .tbl ps
theorem nt_none {H : Hp} {a : Addr} (h : H a = none) : Nt H a := fun o e => by rw [h] at e; cases e
theorem nt_not {H : Hp} {a : Addr} {o : HO} (h : H a = some o) (f : ∀ ps, o ≠ .tbl ps) : ¬ Nt H a := fun z => let ⟨ps, e⟩ := z o h; f ps e
structure Step (R : Rc) (H : Hp) (R' : Rc) (H' : Hp) : Prop where
  fb : ∀ a, R.fb a → R'.fb a
  fn : ∀ a, R'.fb a → R.fb a ∨ Nt H a
  nm : ∃ more, R'.nm = R.nm ++ more
  mu : ∀ a, R'.mu a → R.mu a ∨ Nt H a
  keep : ∀ a o, ¬ R.mu a → (∀ ps, o ≠ .tbl ps) → H a = some o → H' a = some o
  dom : ∀ a, Nt H' a → Nt H a
  ext : ∀ a p, H a = some (.ext p) → H' a = some (.ext p)
theorem Step.refl (R : Rc) (H : Hp) : Step R H R H := ⟨fun _ h => h, fun _ h => .inl h, ⟨[], by rw [List.append_nil]⟩, fun _ h => .inl h, fun _ _ _ _ h => h, fun _ h => h, fun _ _ h => h⟩
theorem Rd.some {H : Hp} {a : Addr} {u : HO} (h : Rd H a u) (nt : ∀ ps, u ≠ .tbl ps) (e : Nt H a) : False := by
  rcases h with h | ⟨o, h⟩
  · exact nt_not h nt e
  · exact nt_not h (fun _ z => nomatch z) e
theorem Step.rd {R R' : Rc} {H H' : Hp} (s : Step R H R' H') {a : Addr} {u : HO} (n : ¬ R.mu a) (nt : ∀ ps, u ≠ .tbl ps) (h : Rd H a u) : Rd H' a u := by
  rcases h with h | ⟨o, h⟩
  · exact .inl (s.keep a u n nt h)
  · exact .inr ⟨o, s.keep a _ n (fun _ z => nomatch z) h⟩
theorem Step.trans {R R1 R2 : Rc} {H H1 H2 : Hp} (s : Step R H R1 H1) (t : Step R1 H1 R2 H2) : Step R H R2 H2 := by
  have nmu : ∀ a, ¬ R.mu a → ¬ Nt H a → ¬ R1.mu a := fun a n e z => (s.mu a z).elim n e
  refine ⟨fun a h => t.fb a (s.fb a h), fun a h => (t.fn a h).elim (s.fn a) fun z => .inr (s.dom a z), ?_, fun a h => ?_, fun a o n st h => ?_, fun a h => s.dom a (t.dom a h), fun a p h => t.ext a p (s.ext a p h)⟩
  · obtain ⟨m, e⟩ := s.nm
    obtain ⟨m', e'⟩ := t.nm
    exact ⟨m ++ m', by rw [e', e, List.append_assoc]⟩
  · rcases t.mu a h with z | z
    · exact s.mu a z
    · exact .inr (s.dom a z)
  · exact t.keep a o (nmu a n (nt_not h st)) st (s.keep a o n st h)
theorem Free.step {R R' : Rc} {H H' : Hp} {a : Addr} (s : Step R H R' H') (h : Free R a) (e : ¬ Nt H a) : Free R' a := ⟨fun z => (s.fn a z).elim h.1 e, fun z => (s.mu a z).elim h.2 e⟩
section
variable {K : PySem.W.Frag} {cl : Cl} {R R' : Rc} {H H' : Hp}
theorem FS.sq {a : Addr} {xs : List V} (h : FS K R H a xs) : SqL K H a xs := h.imp (fun h => h.1) id
theorem FL.sq {a : Addr} {xs : List V} (h : FL R H a xs) : SqL K H a xs := .inl (.inl h.1)
theorem FT.sq {a : Addr} {xs : List V} (h : FT K R H a xs) : SqT K H a xs := h.elim (fun h => .inl (.inl h.1)) .inr
/-- what the values of R at H lean on stands at R', H' too -/
structure On (R : Rc) (H : Hp) (R' : Rc) (H' : Hp) : Prop where
  fr : ∀ a, Free R a → ¬ Nt H a → Free R' a
  keep : ∀ a o, Free R a → (∀ ps, o ≠ .tbl ps) → H a = some o → H' a = some o
  nm : ∀ (i : Nat) (a : Addr), R.nm[i]? = some a → R'.nm[i]? = some a
  ext : ∀ a p, H a = some (.ext p) → H' a = some (.ext p)
theorem On.rd (s : On R H R' H') {a : Addr} {u : HO} (f : Free R a) (nt : ∀ ps, u ≠ .tbl ps) (h : Rd H a u) : Rd H' a u := by
  rcases h with h | ⟨o, h⟩
  · exact .inl (s.keep a u f nt h)
  · exact .inr ⟨o, s.keep a _ f (fun _ z => nomatch z) h⟩
theorem FL.on {a : Addr} {xs : List V} (s : On R H R' H') (h : FL R H a xs) : FL R' H' a xs :=
  ⟨s.keep _ _ h.2 (fun _ z => nomatch z) h.1, s.fr _ h.2 (nt_not h.1 fun _ z => nomatch z)⟩
theorem FT.on {a : Addr} {xs : List V} (s : On R H R' H') (h : FT K R H a xs) : FT K R' H' a xs := by
  rcases h with ⟨h, f⟩ | h
  · exact .inl ⟨s.keep _ _ f (fun _ z => nomatch z) h, s.fr _ f (nt_not h fun _ z => nomatch z)⟩
  · exact .inr h
theorem Step.on (s : Step R H R' H') : On R H R' H' := ⟨fun a f e => f.step s e, fun a o f nt h => s.keep a o f.2 nt h, fun i a h => by
  obtain ⟨m, e⟩ := s.nm
  rw [e, List.getElem?_append_left (List.getElem?_eq_some_iff.mp h).1]
  exact h, s.ext⟩
mutual
theorem rep_on (s : On R H R' H') : ∀ (d : Dv) (v : V), Rep K cl R H v d → Rep K cl R' H' v d
  | .non, _, h => by cases h; exact .non
  | .bl b, _, h => by cases h; exact .bl b
  | .int i, _, h => by cases h; exact .int i
  | .str x, _, h => by cases h; exact .str x
  | .ty n, _, h => by cases h; exact .ty n
  | .gl i, _, h => by cases h; exact .gl i
  | .lst ds, _, h => by
    cases h with
    | lst h a => exact .lst (h.on s) (repAll_on s ds _ a)
  | .tup ds, _, h => by
    cases h with
    | tup h a => exact .tup (h.on s) (repAll_on s ds _ a)
  | .dct ks ds, _, h => by
    cases h with
    | dct h f e a => exact .dct (s.rd f (fun _ z => nomatch z) h) (s.fr _ f (Rd.some h fun _ z => nomatch z)) e (repAll_on s ds _ a)
  | .dtp ks ds, _, h => by
    cases h with
    | dtp h f e a => exact .dtp (s.rd f (fun _ z => nomatch z) h) (s.fr _ f (Rd.some h fun _ z => nomatch z)) e (repAll_on s ds _ a)
  | .obj c ns ds, _, h => by
    cases h with
    | obj h f e a => exact .obj (s.keep _ _ f (fun _ z => nomatch z) h) (s.fr _ f (nt_not h fun _ z => nomatch z)) e (repAll_on s ds _ a)
  | .own i, _, h => by
    cases h with
    | own h => exact .own (s.nm _ _ h)
  | .scr ns, _, h => by
    cases h with
    | scr h => exact .scr (h.imp (fun h => ⟨s.rd (u := .lst (ns.map V.int)) h.2 (fun _ z => nomatch z) h.1, s.fr _ h.2 (Rd.some (u := .lst (ns.map V.int)) h.1 fun _ z => nomatch z)⟩) id)
  | .lam k, _, h => by
    cases h with
    | lam h h' hd z => exact .lam (s.ext _ _ h) (s.ext _ _ h') (fun b => s.ext _ _ (hd b)) (z.imp fun a q => s.nm _ a q)
theorem repAll_on (s : On R H R' H') : ∀ (ds : List Dv) (vs : List V), RepAll K cl R H vs ds → RepAll K cl R' H' vs ds
  | [], _, h => by cases h; exact .nil
  | d :: ds, _, h => by
    cases h with
    | cons a b => exact .cons (rep_on s d _ a) (repAll_on s ds _ b)
end
theorem Rep.on (s : On R H R' H') {v : V} {d : Dv} (h : Rep K cl R H v d) : Rep K cl R' H' v d := rep_on s d v h
theorem RepAll.on (s : On R H R' H') {vs : List V} {ds : List Dv} (h : RepAll K cl R H vs ds) : RepAll K cl R' H' vs ds := repAll_on s ds vs h
theorem FL.step {a : Addr} {xs : List V} (s : Step R H R' H') (h : FL R H a xs) : FL R' H' a xs := h.on s.on
theorem FT.step {a : Addr} {xs : List V} (s : Step R H R' H') (h : FT K R H a xs) : FT K R' H' a xs := h.on s.on
theorem Rep.step (s : Step R H R' H') {v : V} {d : Dv} (h : Rep K cl R H v d) : Rep K cl R' H' v d := h.on s.on
theorem RepAll.step (s : Step R H R' H') {vs : List V} {ds : List Dv} (h : RepAll K cl R H vs ds) : RepAll K cl R' H' vs ds := h.on s.on
theorem RepAll.length : ∀ {vs : List V} {ds : List Dv}, RepAll K cl R H vs ds → vs.length = ds.length
  | _, _, .nil => rfl
  | _, _, .cons _ b => congrArg (· + 1) (RepAll.length b)
theorem RepAll.get : ∀ {vs : List V} {ds : List Dv} {i : Nat} {v : V}, RepAll K cl R H vs ds → vs[i]? = some v → ∃ d, ds[i]? = some d ∧ Rep K cl R H v d
  | _, _, _, _, .nil, h => by simp at h
  | _, _, 0, _, .cons a _, h => by simp at h; subst h; exact ⟨_, rfl, a⟩
  | _, _, i + 1, v, .cons _ b, h => by
    obtain ⟨d, h1, h2⟩ := RepAll.get (i := i) (v := v) b (by simpa using h)
    exact ⟨d, by simpa using h1, h2⟩
theorem RepAll.back : ∀ {vs : List V} {ds : List Dv} {i : Nat} {d : Dv}, RepAll K cl R H vs ds → ds[i]? = some d → ∃ v, vs[i]? = some v ∧ Rep K cl R H v d
  | _, _, _, _, .nil, h => by simp at h
  | _, _, 0, _, .cons a _, h => by simp at h; subst h; exact ⟨_, rfl, a⟩
  | _, _, i + 1, v, .cons _ b, h => by
    obtain ⟨d, h1, h2⟩ := RepAll.back (i := i) (d := v) b (by simpa using h)
    exact ⟨d, by simpa using h1, h2⟩
theorem RepAll.append : ∀ {vs ws : List V} {ds es : List Dv}, RepAll K cl R H vs ds → RepAll K cl R H ws es → RepAll K cl R H (vs ++ ws) (ds ++ es)
  | _, _, _, _, .nil, b => b
  | _, _, _, _, .cons a b, c => .cons a (RepAll.append b c)
theorem RepAll.set {v : V} {d : Dv} (r : Rep K cl R H v d) : ∀ {vs : List V} {ds : List Dv} (i : Nat), RepAll K cl R H vs ds → RepAll K cl R H (vs.set i v) (ds.set i d)
  | _, _, _, .nil => .nil
  | _, _, 0, .cons _ b => .cons r b
  | _, _, i + 1, .cons a b => .cons a (RepAll.set r i b)
theorem RepAll.take : ∀ {vs : List V} {ds : List Dv} (n : Nat), RepAll K cl R H vs ds → RepAll K cl R H (vs.take n) (ds.take n)
  | _, _, 0, _ => .nil
  | _, _, _ + 1, .nil => .nil
  | _, _, n + 1, .cons a b => .cons a (RepAll.take n b)
theorem RepAll.drop : ∀ {vs : List V} {ds : List Dv} (n : Nat), RepAll K cl R H vs ds → RepAll K cl R H (vs.drop n) (ds.drop n)
  | _, _, 0, h => h
  | _, _, _ + 1, .nil => .nil
  | _, _, n + 1, .cons _ b => RepAll.drop n b
theorem RepAll.reverse : ∀ {vs : List V} {ds : List Dv}, RepAll K cl R H vs ds → RepAll K cl R H vs.reverse ds.reverse
  | _, _, .nil => .nil
  | _, _, .cons a b => by
    rw [List.reverse_cons, List.reverse_cons]
    exact (RepAll.reverse b).append (.cons a .nil)
end
/-! ### cells and their store -/
inductive Cell where
  | gone | lst (l : List Dv) | dct (ks : List Key) (l : List Dv) | dtp (ks : List (List Key)) (l : List Dv) | obj (c : Nat) (ns : List Str) (l : List Dv)
abbrev Store := List Cell
def CellAt (K : PySem.W.Frag) (cl : Cl) (R : Rc) (H : Hp) (a : Addr) : Cell → Prop
  | .gone => True
  | .lst ds => ∃ xs, H a = some (.lst xs) ∧ RepAll K cl R H xs ds
  | .dct ks ds => ∃ kvs : List (Key × V), H a = some (.dK kvs) ∧ kvs.map (·.1) = ks ∧ RepAll K cl R H (kvs.map (·.2)) ds
  | .dtp ks ds => ∃ kvs : List (List Key × V), H a = some (.dT kvs) ∧ kvs.map (·.1) = ks ∧ RepAll K cl R H (kvs.map (·.2)) ds
  | .obj c ns ds => ∃ dx fs, H a = some (.ins (cl c) dx fs) ∧ fs.map (·.1) = ns ∧ RepAll K cl R H (fs.map (·.2)) ds
def live : Cell → Bool
  | .gone => false
  | _ => true
structure RepSt (K : PySem.W.Frag) (cl : Cl) (R : Rc) (H : Hp) (ω : Store) : Prop where
  len : R.nm.length = ω.length
  inj : ∀ (i j : Nat) (a : Addr), R.nm[i]? = some a → R.nm[j]? = some a → i = j
  cell : ∀ (i : Nat) (c : Cell), ω[i]? = some c → live c = true → ∃ a, R.nm[i]? = some a ∧ R.mu a ∧ CellAt K cl R H a c
  mu : ∀ a, R.mu a → ∃ (i : Nat) (c : Cell), R.nm[i]? = some a ∧ ω[i]? = some c ∧ live c = true
  fbd : ∀ a, R.fb a → ¬ Nt H a ∧ ¬ R.mu a
  nmd : ∀ a ∈ R.nm, ¬ Nt H a
  tabs : LamX.Tabs cl.tb H
abbrev DEnv := List (Option Dv)
inductive RepEnv (K : PySem.W.Frag) (cl : Cl) (R : Rc) (H : Hp) : L2.St → DEnv → Prop
  | nil : RepEnv K cl R H [] []
  | mt {σ : L2.St} {ρ : DEnv} {x : Option V} : RepEnv K cl R H σ ρ → RepEnv K cl R H (x :: σ) (none :: ρ)
  | vl {v : V} {d : Dv} {σ : L2.St} {ρ : DEnv} : Rep K cl R H v d → RepEnv K cl R H σ ρ → RepEnv K cl R H (some v :: σ) (some d :: ρ)
section
variable {K : PySem.W.Frag} {cl : Cl} {R R' : Rc} {H H' : Hp} {ω : Store}
theorem RepEnv.on (s : On R H R' H') : ∀ {σ : L2.St} {ρ : DEnv}, RepEnv K cl R H σ ρ → RepEnv K cl R' H' σ ρ
  | _, _, .nil => .nil
  | _, _, .mt b => .mt (RepEnv.on s b)
  | _, _, .vl a b => .vl (a.on s) (RepEnv.on s b)
theorem RepEnv.step (s : Step R H R' H') {σ : L2.St} {ρ : DEnv} (h : RepEnv K cl R H σ ρ) : RepEnv K cl R' H' σ ρ := h.on s.on
theorem RepEnv.get : ∀ {σ : L2.St} {ρ : DEnv} {i : Nat} {d : Dv}, RepEnv K cl R H σ ρ → ρ[i]? = some (some d) → ∃ v, σ[i]? = some (some v) ∧ Rep K cl R H v d
  | _, _, _, _, .nil, h => by simp at h
  | _, _, 0, _, .mt _, h => by simp at h
  | _, _, 0, _, .vl a _, h => by simp at h; subst h; exact ⟨_, rfl, a⟩
  | _, _, i + 1, d, .mt b, h => by
    obtain ⟨v, h1, h2⟩ := RepEnv.get (i := i) (d := d) b (by simpa using h)
    exact ⟨v, by simpa using h1, h2⟩
  | _, _, i + 1, d, .vl _ b, h => by
    obtain ⟨v, h1, h2⟩ := RepEnv.get (i := i) (d := d) b (by simpa using h)
    exact ⟨v, by simpa using h1, h2⟩
theorem RepEnv.set {v : V} {d : Dv} (r : Rep K cl R H v d) : ∀ {σ : L2.St} {ρ : DEnv} (i : Nat), RepEnv K cl R H σ ρ → RepEnv K cl R H (σ.set i (some v)) (ρ.set i (some d))
  | _, _, _, .nil => .nil
  | _, _, 0, .mt b => .vl r b
  | _, _, 0, .vl _ b => .vl r b
  | _, _, i + 1, .mt b => .mt (RepEnv.set r i b)
  | _, _, i + 1, .vl a b => .vl a (RepEnv.set r i b)
theorem RepEnv.clear {x : Option V} : ∀ {σ : L2.St} {ρ : DEnv} (i : Nat), RepEnv K cl R H σ ρ → RepEnv K cl R H (σ.set i x) (ρ.set i none)
  | _, _, _, .nil => .nil
  | _, _, 0, .mt b => .mt b
  | _, _, 0, .vl _ b => .mt b
  | _, _, i + 1, .mt b => .mt (RepEnv.clear i b)
  | _, _, i + 1, .vl a b => .vl a (RepEnv.clear i b)
/-- a new object that never changes -/
theorem Step.same (s : Same H H') : Step R H R H' := by
  refine ⟨fun _ h => h, fun _ h => .inl h, ⟨[], by rw [List.append_nil]⟩, fun _ h => .inl h, fun a o _ _ q => s a o q, fun a q o e => q o (s a o e), fun a p q => s a _ q⟩
theorem Step.new {p : Addr} {o : HO} (h : H p = none) : Step R H R (upd H p o) := Step.same (Same.new h)
theorem CellAt.on {a : Addr} (s : On R H R' H') (k : ∀ o, (∀ ps, o ≠ .tbl ps) → H a = some o → H' a = some o) : ∀ {c : Cell}, CellAt K cl R H a c → CellAt K cl R' H' a c
  | .gone, h => trivial
  | .lst ds, ⟨xs, h, r⟩ => ⟨xs, k _ (fun _ z => nomatch z) h, r.on s⟩
  | .dct ks ds, ⟨kvs, h, e, r⟩ => ⟨kvs, k _ (fun _ z => nomatch z) h, e, r.on s⟩
  | .dtp ks ds, ⟨kvs, h, e, r⟩ => ⟨kvs, k _ (fun _ z => nomatch z) h, e, r.on s⟩
  | .obj c ns ds, ⟨dx, fs, h, e, r⟩ => ⟨dx, fs, k _ (fun _ z => nomatch z) h, e, r.on s⟩
theorem CellAt.step {a : Addr} (s : Step R H R' H') (k : ∀ o, (∀ ps, o ≠ .tbl ps) → H a = some o → H' a = some o) {c : Cell} (h : CellAt K cl R H a c) : CellAt K cl R' H' a c := h.on s.on k
/-- all but the tables stays -/
def Keep (H H' : Hp) : Prop := (∀ a o, (∀ ps, o ≠ .tbl ps) → H a = some o → H' a = some o) ∧ ∀ a, Nt H' a → Nt H a
theorem Keep.step (k : Keep H H') : Step R H R H' := ⟨fun _ h => h, fun _ h => .inl h, ⟨[], by rw [List.append_nil]⟩, fun _ h => .inl h, fun a o _ t q => k.1 a o t q, k.2, fun a p q => k.1 a _ (fun _ z => nomatch z) q⟩
theorem Keep.same (s : Same H H') : Keep H H' := ⟨fun a o _ h => s a o h, fun a q o e => q o (s a o e)⟩
theorem RepSt.keep (s : Keep H H') (tb : LamX.Tabs cl.tb H') (h : RepSt K cl R H ω) : RepSt K cl R H' ω :=
  ⟨h.len, h.inj, fun i c e l => (let ⟨a, h1, h2, h3⟩ := h.cell i c e l; ⟨a, h1, h2, h3.step s.step fun o t q => s.1 a o t q⟩), h.mu, fun a e => ⟨fun z => (h.fbd a e).1 (s.2 a z), (h.fbd a e).2⟩, fun a e z => h.nmd a e (s.2 a z), tb⟩
theorem RepSt.same (s : Same H H') (h : RepSt K cl R H ω) : RepSt K cl R H' ω := h.keep (Keep.same s) (h.tabs.ext s)
theorem RepSt.mud (h : RepSt K cl R H ω) {a : Addr} (m : R.mu a) : ¬ Nt H a := by
  obtain ⟨i, c, e, _, _⟩ := h.mu a m
  exact h.nmd a (List.mem_of_getElem? e)
theorem RepSt.free (h : RepSt K cl R H ω) {p : Addr} (hp : H p = none) : Free R p := ⟨fun z => (h.fbd p z).1 (nt_none hp), fun z => h.mud z (nt_none hp)⟩
theorem RepSt.nofb (h : RepSt K cl R H ω) {i : Nat} {a : Addr} (e : R.nm[i]? = some a) (m : R.mu a) : ¬ R.fb a := fun z => (h.fbd a z).2 m
end
/-- tables lean on no list, dict or instance -/
def tabFree : HO → Bool
  | .tbl _ => false
  | .ext _ => false
  | _ => true
theorem tabs_upd {H : Hp} {D : Addr} {o u : HO} {T : List (Addr × Str)} (h : H D = some u) (f : tabFree u = true) (t : LamX.Tabs T H) : LamX.Tabs T (upd H D o) := fun p hp => by
  obtain ⟨ps, h1, h2, h3⟩ := t p hp
  have ne : p.1 ≠ D := fun z => by rw [z, h] at h1; cases h1; cases f
  refine ⟨ps, by rw [upd_ne ne]; exact h1, h2, fun pos cv e => ?_⟩
  obtain ⟨c, rfl, h4⟩ := h3 pos cv e
  have nc : c ≠ D := fun z => by rw [z, h] at h4; cases h4; cases f
  exact ⟨c, rfl, by rw [upd_ne nc]; exact h4⟩
theorem tabs_back {H : Hp} {D : Addr} {o u : HO} {T : List (Addr × Str)} (h : H D = some u) (f : tabFree o = true) (t : LamX.Tabs T (upd H D o)) : LamX.Tabs T H := by
  have := tabs_upd (o := u) (upd_same (H := H) (a := D) (o := o)) f t
  rw [upd_upd] at this
  have e : upd H D u = H := by
    funext b
    by_cases z : b = D
    · rw [z, upd_same, h]
    · rw [upd_ne z]
  rw [e] at this
  exact this
/-! ### values that name no cell -/
mutual
def clean : Dv → Bool
  | .own _ => false
  | .lam _ => false
  | .lst l => cleans l
  | .tup l => cleans l
  | .dct _ l => cleans l
  | .dtp _ l => cleans l
  | .obj _ _ l => cleans l
  | _ => true
def cleans : List Dv → Bool
  | [] => true
  | d :: l => clean d && cleans l
end
section
variable {K : PySem.W.Frag} {cl : Cl} {R R' : Rc} {H : Hp}
mutual
theorem rep_clean (f : ∀ a, Free R a → Free R' a) : ∀ (d : Dv) (v : V), clean d = true → Rep K cl R H v d → Rep K cl R' H v d
  | .non, _, _, h => by cases h; exact .non
  | .bl b, _, _, h => by cases h; exact .bl b
  | .int i, _, _, h => by cases h; exact .int i
  | .str x, _, _, h => by cases h; exact .str x
  | .ty n, _, _, h => by cases h; exact .ty n
  | .gl i, _, _, h => by cases h; exact .gl i
  | .lst ds, _, c, h => by
    cases h with
    | lst h a => exact .lst ⟨h.1, f _ h.2⟩ (repAll_clean f ds _ c a)
  | .tup ds, _, c, h => by
    cases h with
    | tup h a => exact .tup (h.elim (fun h => .inl ⟨h.1, f _ h.2⟩) .inr) (repAll_clean f ds _ c a)
  | .dct ks ds, _, c, h => by
    cases h with
    | dct h g e a => exact .dct h (f _ g) e (repAll_clean f ds _ c a)
  | .dtp ks ds, _, c, h => by
    cases h with
    | dtp h g e a => exact .dtp h (f _ g) e (repAll_clean f ds _ c a)
  | .obj _ ns ds, _, c, h => by
    cases h with
    | obj h g e a => exact .obj h (f _ g) e (repAll_clean f ds _ c a)
  | .own i, _, c, h => by cases c
  | .lam k, _, c, h => by cases c
  | .scr ns, _, _, h => by
    cases h with
    | scr h => exact .scr (h.imp (fun h => ⟨h.1, f _ h.2⟩) id)
theorem repAll_clean (f : ∀ a, Free R a → Free R' a) : ∀ (ds : List Dv) (vs : List V), cleans ds = true → RepAll K cl R H vs ds → RepAll K cl R' H vs ds
  | [], _, _, h => by cases h; exact .nil
  | d :: ds, _, c, h => by
    cases h with
    | cons a b => 
      have c := Bool.and_eq_true_iff.mp (show (clean d && cleans ds) = true from c)
      exact .cons (rep_clean f d _ c.1 a) (repAll_clean f ds _ c.2 b)
end
mutual
theorem rep_up (f : ∀ a, Free R a → Free R' a) (n : R.nm = []) : ∀ (d : Dv) (v : V), Rep K cl R H v d → clean d = true
  | .non, _, h => rfl
  | .bl b, _, h => rfl
  | .int i, _, h => rfl
  | .str x, _, h => rfl
  | .ty _, _, h => rfl
  | .gl i, _, h => rfl
  | .lst ds, _, h => by
    cases h with
    | lst h a => exact repAll_up f n ds _ a
  | .tup ds, _, h => by
    cases h with
    | tup h a => exact repAll_up f n ds _ a
  | .dct ks ds, _, h => by
    cases h with
    | dct h g e a => exact repAll_up f n ds _ a
  | .dtp ks ds, _, h => by
    cases h with
    | dtp h g e a => exact repAll_up f n ds _ a
  | .obj _ ns ds, _, h => by
    cases h with
    | obj h g e a => exact repAll_up f n ds _ a
  | .own i, _, h => by
    cases h with
    | own h => rw [n] at h; simp at h
  | .lam k, _, h => by
    cases h with
    | lam _ _ _ h => obtain ⟨a, h⟩ := h; rw [n] at h; simp at h
  | .scr _, _, h => rfl
theorem repAll_up (f : ∀ a, Free R a → Free R' a) (n : R.nm = []) : ∀ (ds : List Dv) (vs : List V), RepAll K cl R H vs ds → cleans ds = true
  | [], _, h => rfl
  | d :: ds, _, h => by
    cases h with
    | cons a b => exact Bool.and_eq_true_iff.mpr ⟨rep_up f n d _ a, repAll_up f n ds _ b⟩
end
end
end Mine
namespace Mine
open PySem PySem.Spec PyProof.Rows L2
structure Exc where
  cls : Nat
  ns : List Str
  ds : List Dv
/-- what a piece of the program gives: a value, an error, or nothing that is told -/
inductive Res (α : Type) where
  | ok (a : α) (w : Store) | exc (e : Exc) (w : Store) | bad
def Res.bind {α β : Type} : Res α → (α → Store → Res β) → Res β
  | .ok a w, f => f a w
  | .exc e w, _ => .exc e w
  | .bad, _ => .bad
@[simp] theorem bind_ok {α β : Type} (a : α) (w : Store) (f : α → Store → Res β) : (Res.ok a w).bind f = f a w := id rfl
@[simp] theorem bind_exc {α β : Type} (e : Exc) (w : Store) (f : α → Store → Res β) : (Res.exc (α := α) e w).bind f = .exc e w := rfl
@[simp] theorem bind_bad {α β : Type} (f : α → Store → Res β) : (Res.bad (α := α)).bind f = .bad := rfl
def ExcAt (K : PySem.W.Frag) (cl : Cl) (R : Rc) (H : Hp) (cls : Value) (dd : Option Addr) (e : Exc) : Prop :=
  cls = .ref (cl e.cls) ∧ ∃ (a : Addr) (fs : List (Str × V)), dd = some a ∧ H a = some (.xd fs) ∧ fs.map (·.1) = e.ns ∧ RepAll K cl R H (fs.map (·.2)) e.ds
abbrev Rel (α β : Type) := PySem.W.Frag → Cl → Rc → Hp → α → β → Prop
abbrev rV : Rel V Dv := Rep
abbrev rVs : Rel (List V) (List Dv) := RepAll
def rB : Rel Bool Bool := fun _ _ _ _ a b => a = b
section
variable {α β γ δ : Type} (K : PySem.W.Frag) (cl : Cl) (W : WX)
def Out (rel : Rel α β) (R : Rc) (σ : L2.St) (H : Hp) (r : Res β) (Q : α → Hp → Prop) : Prop :=
  match r with
  | .ok d ω => ∀ R' v H', Step R H R' H' → rel K cl R' H' v d → RepSt K cl R' H' ω → Q v H'
  | .exc e ω => ∀ R' c dd H', Step R H R' H' → ExcAt K cl R' H' c dd e → RepSt K cl R' H' ω → W c dd σ H'
  | .bad => False
/-- the reading t does what g says -/
def Fr (rel : Rel α β) (t : L2.St → Hp → (α → Hp → Prop) → Prop) (g : DEnv → Store → Res β) : Prop :=
  ∀ R σ H ρ ω Q, RepEnv K cl R H σ ρ → RepSt K cl R H ω → Out K cl W rel R σ H (g ρ ω) Q → t σ H Q
variable {K cl W}
theorem Out.step {rel : Rel α β} {R R' : Rc} {σ : L2.St} {H H' : Hp} {r : Res β} {Q : α → Hp → Prop} (s : Step R H R' H') (o : Out K cl W rel R σ H r Q) : Out K cl W rel R' σ H' r Q := by
  cases r with
  | ok d ω => exact fun R2 v H2 s2 => o R2 v H2 (s.trans s2)
  | exc e ω => exact fun R2 c dd H2 s2 => o R2 c dd H2 (s.trans s2)
  | bad => exact o
theorem Fr.seq {rel : Rel α β} {rel2 : Rel γ δ} {t : L2.St → Hp → (α → Hp → Prop) → Prop} {g : DEnv → Store → Res β} {R : Rc} {σ : L2.St} {H : Hp} {ρ : DEnv} {ω : Store} {f : β → Store → Res δ} {Q : α → Hp → Prop} {Q2 : γ → Hp → Prop}
    (h : Fr K cl W rel t g) (he : RepEnv K cl R H σ ρ) (hs : RepSt K cl R H ω) (o : Out K cl W rel2 R σ H ((g ρ ω).bind f) Q2)
    (k : ∀ R' v H' d ω', Step R H R' H' → rel K cl R' H' v d → RepSt K cl R' H' ω' → RepEnv K cl R' H' σ ρ → Out K cl W rel2 R' σ H' (f d ω') Q2 → Q v H') : t σ H Q := by
  refine h R σ H ρ ω Q he hs ?_
  cases e : g ρ ω with
  | ok d ω' =>
    rw [e] at o
    exact fun R' v H' s r st => k R' v H' d ω' s r st (he.step s) (o.step s)
  | exc x ω' => rw [e] at o; exact o
  | bad => rw [e] at o; exact o
theorem Out.val {rel : Rel α β} {R : Rc} {σ : L2.St} {H : Hp} {d : β} {ω : Store} {Q : α → Hp → Prop} {v : α} (o : Out K cl W rel R σ H (.ok d ω) Q) (r : rel K cl R H v d) (st : RepSt K cl R H ω) : Q v H := o R v H (Step.refl _ _) r st
theorem Out.grow {rel : Rel α β} {R : Rc} {σ : L2.St} {H H' : Hp} {d : β} {ω : Store} {Q : α → Hp → Prop} {v : α} (o : Out K cl W rel R σ H (.ok d ω) Q) (s : Same H H') (r : rel K cl R H' v d) (st : RepSt K cl R H ω) : Q v H' := o R v H' (Step.same s) r (st.same s)
end
abbrev GE := DEnv → Store → Res Dv
abbrev GA := DEnv → Store → Res (List Dv)
abbrev GT := DEnv → Store → Res Bool
/-- judgements: a rule of the hand layer, and what its reading does -/
def JE (cl : Cl) (X : Cx) (W : WX) (e : Expr) (g : GE) : Prop := ∃ t, PE X e t ∧ Fr X.K cl W rV t g
def JT (cl : Cl) (X : Cx) (W : WX) (e : Expr) (g : GT) : Prop := ∃ t, PT X e t ∧ Fr X.K cl W rB t g
def JW (cl : Cl) (X : Cx) (W : WX) (e : Expr) (g : GT) : Prop := ∃ t, PW X e t ∧ Fr X.K cl W rB t g
def JA (cl : Cl) (X : Cx) (W : WX) (es : List Expr) (g : GA) : Prop := ∃ t, PA X es t ∧ Fr X.K cl W rVs t g
section
variable {cl : Cl} {X : Cx} {W : WX} {a b c e : Expr} {ga gb gc ge : GE} {gt gu : GT} {pos : Pos}
/-! ### names, constants -/
def eVar (i : Nat) : GE := fun ρ ω => match ρ[i]? with
  | some (some d) => .ok d ω
  | _ => .bad
def eC (d : Dv) : GE := fun _ ω => .ok d ω
theorem fr_var (i : Nat) {K : PySem.W.Frag} : Fr K cl W rV (tVar i) (eVar i) := fun R σ H ρ ω Q he hs o => by
  unfold eVar at o
  split at o
  · rename_i d e
    obtain ⟨v, h1, h2⟩ := he.get e
    exact ⟨v, h1, o.val h2 hs⟩
  · exact o.elim
theorem j_var (i : Nat) {x : Str} (hN : X.N[i]? = some x := by rfl) (hv : Vis X.env.scope x := by first | exact Or.inl rfl | exact Or.inr (Or.inl rfl) | exact Or.inr (Or.inr rfl)) (hd : (x == ("__debug__" : Str)) = false := by decide)
    (hcd : (x == ("__classdict__" : Str)) = false := by decide) : JE cl X W (.Name x pos) (eVar i) := ⟨_, pe_var hN hv hd hcd, fr_var i⟩
theorem fr_c {K : PySem.W.Frag} {v : V} {d : Dv} (h : ∀ R H, Rep K cl R H v d) : Fr K cl W rV (tC v) (eC d) := fun R σ H ρ ω Q he hs o => o.val (h R H) hs
theorem j_c {v : V} {d : Dv} (p : PE X e (tC v)) (h : ∀ R H, Rep X.K cl R H v d) : JE cl X W e (eC d) := ⟨_, p, fr_c h⟩
/-! ### two-place and one-place operations on values -/
abbrev F2 := Dv → Dv → Store → Res Dv
abbrev F1 := Dv → Store → Res Dv
def RO (cl : Cl) (K : PySem.W.Frag) (W : WX) (r : R2) (f : F2) : Prop := ∀ R σ H ω x y d e Q, Rep K cl R H x d → Rep K cl R H y e → RepSt K cl R H ω → Out K cl W rV R σ H (f d e ω) Q → r x y H Q
def RU1 (cl : Cl) (K : PySem.W.Frag) (W : WX) (r : V → Hp → VK → Prop) (f : F1) : Prop := ∀ R σ H ω x d Q, Rep K cl R H x d → RepSt K cl R H ω → Out K cl W rV R σ H (f d ω) Q → r x H Q
def e2 (f : F2) (ga gb : GE) : GE := fun ρ ω => (ga ρ ω).bind fun x ω => (gb ρ ω).bind fun y ω => f x y ω
def e1 (f : F1) (ga : GE) : GE := fun ρ ω => (ga ρ ω).bind fun x ω => f x ω
theorem fr_op {K : PySem.W.Frag} {r : R2} {f : F2} {ta tb : TE} (h : RO cl K W r f) (ha : Fr K cl W rV ta ga) (hb : Fr K cl W rV tb gb) : Fr K cl W rV (tOp r ta tb) (e2 f ga gb) := fun R σ H ρ ω Q he hs o =>
  ha.seq he hs o fun R1 x H1 d ω1 s1 r1 st1 he1 o1 => hb.seq he1 st1 o1 fun R2 y H2 e ω2 s2 r2 st2 he2 o2 => h R2 σ H2 ω2 x y d e Q (r1.step s2) r2 st2 o2
theorem fr_un {K : PySem.W.Frag} {r : V → Hp → VK → Prop} {f : F1} {ta : TE} (h : RU1 cl K W r f) (ha : Fr K cl W rV ta ga) : Fr K cl W rV (tUn r ta) (e1 f ga) := fun R σ H ρ ω Q he hs o =>
  ha.seq he hs o fun R1 x H1 d ω1 s1 r1 st1 he1 o1 => h R1 σ H1 ω1 x d Q r1 st1 o1
theorem j_op {op : Operator} {r : R2} {f : F2} (hop : OpR X (binaryOp op) r) (h : RO cl X.K W r f) (ha : JE cl X W a ga) (hb : JE cl X W b gb) : JE cl X W (.BinOp a op b pos) (e2 f ga gb) :=
  let ⟨_, p, q⟩ := ha
  let ⟨_, p', q'⟩ := hb
  ⟨_, pe_op hop p p', fr_op h q q'⟩
end
end Mine
namespace Mine
open PySem PySem.Spec PyProof.Rows L2
/-! ### what a cell holds -/
def asL (ω : Store) : Dv → Option (List Dv)
  | .lst l => some l
  | .own i => match ω[i]? with
    | some (.lst l) => some l
    | _ => none
  | _ => none
def asT : Dv → Option (List Dv)
  | .tup l => some l
  | _ => none
def asO (ω : Store) : Dv → Option (Nat × List Str × List Dv)
  | .obj c ns l => some (c, ns, l)
  | .own i => match ω[i]? with
    | some (.obj c ns l) => some (c, ns, l)
    | _ => none
  | _ => none
section
variable {K : PySem.W.Frag} {cl : Cl} {R : Rc} {H : Hp} {ω : Store} {W : WX} {v : V} {d : Dv}
theorem asL_at {l : List Dv} (r : Rep K cl R H v d) (st : RepSt K cl R H ω) (e : asL ω d = some l) : ∃ a xs, v = .ref a ∧ H a = some (.lst xs) ∧ RepAll K cl R H xs l := by
  unfold asL at e
  split at e
  · cases e
    cases r with
    | lst h a => exact ⟨_, _, rfl, h.1, a⟩
  · rename_i i
    split at e
    · cases e
      rename_i hi
      cases r with
      | own ha =>
        obtain ⟨a, h1, h2, xs, h3, h4⟩ := st.cell i _ hi rfl
        rw [ha] at h1
        cases h1
        exact ⟨_, _, rfl, h3, h4⟩
    · cases e
  · cases e
theorem asT_at {l : List Dv} (r : Rep K cl R H v d) (e : asT d = some l) : ∃ a xs, v = .ref a ∧ FT K R H a xs ∧ RepAll K cl R H xs l := by
  unfold asT at e
  split at e
  · cases e
    cases r with
    | tup h a => exact ⟨_, _, rfl, h, a⟩
  · cases e
theorem asO_at {c : Nat} {ns : List Str} {l : List Dv} (r : Rep K cl R H v d) (st : RepSt K cl R H ω) (e : asO ω d = some (c, ns, l)) : ∃ a dx fs, v = .ref a ∧ H a = some (.ins (cl c) dx fs) ∧ fs.map (·.1) = ns ∧ RepAll K cl R H (fs.map (·.2)) l := by
  unfold asO at e
  split at e
  · cases e
    cases r with
    | obj h f e a => exact ⟨_, _, _, rfl, h, e, a⟩
  · rename_i i
    split at e
    · cases e
      rename_i hi
      cases r with
      | own ha =>
        obtain ⟨a, h1, h2, dx, fs, h3, h4, h5⟩ := st.cell i _ hi rfl
        rw [ha] at h1
        cases h1
        exact ⟨_, _, _, rfl, h3, h4, h5⟩
    · cases e
  · cases e
/-! ### pure two-place operations -/
def fP (F : Dv → Dv → Option Dv) : F2 := fun d e ω => match F d e with
  | some z => .ok z ω
  | none => .bad
theorem ro_P {r : R2} {F : Dv → Dv → Option Dv} (h : ∀ R H x y d e z (Q : VK), Rep K cl R H x d → Rep K cl R H y e → F d e = some z → (∀ v, Rep K cl R H v z → Q v H) → r x y H Q) : RO cl K W r (fP F) := fun R σ H ω x y d e Q rx ry st o => by
  unfold fP at o
  split at o
  · rename_i z hz
    exact h R H x y d e z Q rx ry hz fun v rv => o.val rv st
  · exact o.elim
def iI0 (g : Int → Int → Dv) : Dv → Dv → Option Dv
  | .int i, .int j => some (g i j)
  | _, _ => none
def iI (C : Int → Int → Prop) [∀ i j, Decidable (C i j)] (g : Int → Int → Dv) : Dv → Dv → Option Dv
  | .int i, .int j => if C i j then some (g i j) else none
  | _, _ => none
theorem ro_I0 {g : Int → Int → V} {g' : Int → Int → Dv} (h : ∀ i j R H, Rep K cl R H (g i j) (g' i j)) : RO cl K W (rI0 g) (fP (iI0 g')) := ro_P fun R H x y d e z Q rx ry hz q => by
  unfold iI0 at hz
  split at hz
  · cases hz; cases rx; cases ry
    exact ⟨_, _, rfl, rfl, q _ (h _ _ _ _)⟩
  · cases hz
theorem ro_I {C : Int → Int → Prop} [∀ i j, Decidable (C i j)] {g : Int → Int → V} {g' : Int → Int → Dv} (h : ∀ i j R H, Rep K cl R H (g i j) (g' i j)) : RO cl K W (rI C g) (fP (iI C g')) := ro_P fun R H x y d e z Q rx ry hz q => by
  unfold iI at hz
  split at hz
  · split at hz
    · rename_i hc
      cases hz; cases rx; cases ry
      exact ⟨_, _, rfl, rfl, hc, q _ (h _ _ _ _)⟩
    · cases hz
  · cases hz
def CMulA (i j : Int) : Prop := CMul i j ∨ CMulW i j
theorem op_mulA {X : Cx} : OpR X (binaryOp .Mult) (rI CMulA fun i j => .int (i * j)) := fun pins s σ H x y v u Q I rx ry h => by
  obtain ⟨i, j, e1, e2, hc | hc, q⟩ := h
  · exact op_mul pins s σ H x y v u Q I rx ry ⟨i, j, e1, e2, hc, q⟩
  · exact op_mulW pins s σ H x y v u Q I rx ry ⟨i, j, e1, e2, hc, q⟩
instance (i j : Int) : Decidable (CMulW i j) := by unfold CMulW; infer_instance
instance (i j : Int) : Decidable (CMul i j) := by unfold CMul; infer_instance
instance (i j : Int) : Decidable (CMulA i j) := by unfold CMulA; infer_instance
instance (i j : Int) : Decidable (CDivG i j) := by unfold CDivG; infer_instance
instance (i j : Int) : Decidable (CDiv i j) := by unfold CDiv; infer_instance
instance (i j : Int) : Decidable (CPow i j) := by unfold CPow; infer_instance
def iAdd : Dv → Dv → Option Dv := iI0 fun i j => .int (i + j)
def iSub : Dv → Dv → Option Dv := iI0 fun i j => .int (i - j)
def iMul : Dv → Dv → Option Dv := iI CMulA fun i j => .int (i * j)
def iFdiv : Dv → Dv → Option Dv := iI CDivG fun i j => .int (i.fdiv j)
def iMod : Dv → Dv → Option Dv := iI (fun _ j => 0 < j) fun i j => .int (i % j)
def iPow : Dv → Dv → Option Dv := iI CPow fun i j => .int (i ^ j.toNat)
def iAnd : Dv → Dv → Option Dv := iI0 fun i j => .int (Builtin.bitAnd i j)
def iLt : Dv → Dv → Option Dv := iI0 fun i j => .bl (decide (i < j))
def iLe : Dv → Dv → Option Dv := iI0 fun i j => .bl (decide (i ≤ j))
def iGt : Dv → Dv → Option Dv := iI0 fun i j => .bl (decide (j < i))
def iGe : Dv → Dv → Option Dv := iI0 fun i j => .bl (decide (j ≤ i))
theorem ro_add : RO cl K W (rI0 fun i j => .int (i + j)) (fP iAdd) := ro_I0 fun _ _ _ _ => .int _
theorem ro_sub : RO cl K W (rI0 fun i j => .int (i - j)) (fP iSub) := ro_I0 fun _ _ _ _ => .int _
theorem ro_mul : RO cl K W (rI CMulA fun i j => .int (i * j)) (fP iMul) := ro_I fun _ _ _ _ => .int _
theorem ro_fdiv : RO cl K W (rI CDivG fun i j => .int (i.fdiv j)) (fP iFdiv) := ro_I fun _ _ _ _ => .int _
theorem ro_mod : RO cl K W (rI (fun _ j => 0 < j) fun i j => .int (i % j)) (fP iMod) := ro_I fun _ _ _ _ => .int _
theorem ro_pow : RO cl K W (rI CPow fun i j => .int (i ^ j.toNat)) (fP iPow) := ro_I fun _ _ _ _ => .int _
theorem ro_and : RO cl K W (rI0 fun i j => .int (Builtin.bitAnd i j)) (fP iAnd) := ro_I0 fun _ _ _ _ => .int _
theorem ro_lt : RO cl K W (rI0 fun i j => .bl (decide (i < j))) (fP iLt) := ro_I0 fun _ _ _ _ => .bl _
theorem ro_le : RO cl K W (rI0 fun i j => .bl (decide (i ≤ j))) (fP iLe) := ro_I0 fun _ _ _ _ => .bl _
theorem ro_gt : RO cl K W (rI0 fun i j => .bl (decide (j < i))) (fP iGt) := ro_I0 fun _ _ _ _ => .bl _
theorem ro_ge : RO cl K W (rI0 fun i j => .bl (decide (j ≤ i))) (fP iGe) := ro_I0 fun _ _ _ _ => .bl _
/-! texts -/
def sS (C : Str → Str → Prop) [∀ i j, Decidable (C i j)] (g : Str → Str → Dv) : Dv → Dv → Option Dv
  | .str i, .str j => if C i j then some (g i j) else none
  | _, _ => none
def sAdd : Dv → Dv → Option Dv := sS (fun i j => i.length + j.length ≤ sizeLine) fun i j => .str (i ++ j)
def sLt : Dv → Dv → Option Dv := sS (fun _ _ => True) fun i j => .bl (decide (i.cps.toList < j.cps.toList))
def sGt : Dv → Dv → Option Dv := sS (fun _ _ => True) fun i j => .bl (decide (j.cps.toList < i.cps.toList))
def sLe : Dv → Dv → Option Dv := sS (fun _ _ => True) fun i j => .bl (!decide (j.cps.toList < i.cps.toList))
def sGe : Dv → Dv → Option Dv := sS (fun _ _ => True) fun i j => .bl (!decide (i.cps.toList < j.cps.toList))
theorem sS_inv {C : Str → Str → Prop} [∀ i j, Decidable (C i j)] {g : Str → Str → Dv} {x y : V} {d e z : Dv} (rx : Rep K cl R H x d) (ry : Rep K cl R H y e) (hz : sS C g d e = some z) : ∃ i j, x = .str i ∧ y = .str j ∧ C i j ∧ z = g i j := by
  unfold sS at hz
  split at hz
  · split at hz
    · rename_i hc
      cases hz; cases rx; cases ry
      exact ⟨_, _, rfl, rfl, hc, rfl⟩
    · cases hz
  · cases hz
theorem ro_sadd : RO cl K W (fun x y H Q => ∃ i j, x = .str i ∧ y = .str j ∧ i.length + j.length ≤ sizeLine ∧ Q (.str (i ++ j)) H) (fP sAdd) := ro_P fun R H x y d e z Q rx ry hz q => by
  obtain ⟨i, j, rfl, rfl, hc, rfl⟩ := sS_inv rx ry hz
  exact ⟨_, _, rfl, rfl, hc, q _ (.str _)⟩
theorem ro_slt : RO cl K W (fun x y H Q => ∃ i j, x = .str i ∧ y = .str j ∧ Q (.bl (decide (i.cps.toList < j.cps.toList))) H) (fP sLt) := ro_P fun R H x y d e z Q rx ry hz q => by
  obtain ⟨i, j, rfl, rfl, hc, rfl⟩ := sS_inv rx ry hz
  exact ⟨_, _, rfl, rfl, q _ (.bl _)⟩
theorem ro_sgt : RO cl K W (fun x y H Q => ∃ i j, x = .str i ∧ y = .str j ∧ Q (.bl (decide (j.cps.toList < i.cps.toList))) H) (fP sGt) := ro_P fun R H x y d e z Q rx ry hz q => by
  obtain ⟨i, j, rfl, rfl, hc, rfl⟩ := sS_inv rx ry hz
  exact ⟨_, _, rfl, rfl, q _ (.bl _)⟩
theorem ro_sle : RO cl K W (fun x y H Q => ∃ i j, x = .str i ∧ y = .str j ∧ Q (.bl (!decide (j.cps.toList < i.cps.toList))) H) (fP sLe) := ro_P fun R H x y d e z Q rx ry hz q => by
  obtain ⟨i, j, rfl, rfl, hc, rfl⟩ := sS_inv rx ry hz
  exact ⟨_, _, rfl, rfl, q _ (.bl _)⟩
/-- one sign in a text -/
def sSign (neg : Bool) : Dv → Dv → Option Dv
  | .str i, .str j => match i.cps.toList with
    | [c] => some (.bl (if neg then !decide (c ∈ j.cps.toList) else decide (c ∈ j.cps.toList)))
    | _ => none
  | _, _ => none
theorem sign_of {i : Str} {c : Nat} (h : i.cps.toList = [c]) : i = ⟨#[c]⟩ := by
  obtain ⟨a⟩ := i
  obtain ⟨l⟩ := a
  have : l = [c] := h
  rw [this]
theorem sSign_inv {neg : Bool} {x y : V} {d e z : Dv} (rx : Rep K cl R H x d) (ry : Rep K cl R H y e) (hz : sSign neg d e = some z) : ∃ (c : Nat) (j : Str), x = .str ⟨#[c]⟩ ∧ y = .str j ∧ z = .bl (if neg then !decide (c ∈ j.cps.toList) else decide (c ∈ j.cps.toList)) := by
  unfold sSign at hz
  split at hz
  · split at hz
    · rename_i hc
      cases hz; cases rx; cases ry
      exact ⟨_, _, by rw [sign_of hc], rfl, rfl⟩
    · cases hz
  · cases hz
theorem ro_insign : RO cl K W (fun x y H Q => ∃ (c : Nat) (z : Str), x = .str ⟨#[c]⟩ ∧ y = .str z ∧ Q (.bl (decide (c ∈ z.cps.toList))) H) (fP (sSign false)) := ro_P fun R H x y d e z Q rx ry hz q => by
  obtain ⟨c, j, rfl, rfl, rfl⟩ := sSign_inv rx ry hz
  exact ⟨_, _, rfl, rfl, q _ (.bl _)⟩
theorem ro_notinsign : RO cl K W (fun x y H Q => ∃ (c : Nat) (z : Str), x = .str ⟨#[c]⟩ ∧ y = .str z ∧ Q (.bl (!decide (c ∈ z.cps.toList))) H) (fP (sSign true)) := ro_P fun R H x y d e z Q rx ry hz q => by
  obtain ⟨c, j, rfl, rfl, rfl⟩ := sSign_inv rx ry hz
  exact ⟨_, _, rfl, rfl, q _ (.bl _)⟩
/-! is None -/
def isN (neg : Bool) : Dv → Dv → Option Dv
  | .non, .non => some (.bl (!neg))
  | _, .non => some (.bl neg)
  | _, _ => none
theorem isN_inv {neg : Bool} {x y : V} {d e z : Dv} (rx : Rep K cl R H x d) (ry : Rep K cl R H y e) (hz : isN neg d e = some z) : y = .non ∧ z = .bl (if neg then !decide (x = .non) else decide (x = .non)) := by
  unfold isN at hz
  split at hz
  · cases hz; cases rx; cases ry; cases neg <;> exact ⟨rfl, rfl⟩
  · rename_i hd
    cases hz; cases ry
    refine ⟨rfl, ?_⟩
    have : decide (x = V.non) = false := decide_eq_false fun z => by subst z; cases rx; exact hd rfl
    rw [this]
    cases neg <;> rfl
  · cases hz
theorem ro_isN : RO cl K W (fun x y H Q => y = .non ∧ Q (.bl (decide (x = .non))) H) (fP (isN false)) := ro_P fun R H x y d e z Q rx ry hz q => by
  obtain ⟨rfl, rfl⟩ := isN_inv rx ry hz
  exact ⟨rfl, q _ (.bl _)⟩
theorem ro_notN : RO cl K W (fun x y H Q => y = .non ∧ Q (.bl (!decide (x = .non))) H) (fP (isN true)) := ro_P fun R H x y d e z Q rx ry hz q => by
  obtain ⟨rfl, rfl⟩ := isN_inv rx ry hz
  exact ⟨rfl, q _ (.bl _)⟩
/-! == of scalars -/
def eqS : Dv → Dv → Option Bool
  | .non, .non => some true
  | .int i, .int j => some (decide (i = j))
  | .str i, .str j => some (decide (i = j))
  | .bl i, .bl j => some (decide (i = j))
  | .non, .int _ => some false | .int _, .non => some false | .non, .bl _ => some false | .bl _, .non => some false | .non, .str _ => some false | .str _, .non => some false
  | .int _, .str _ => some false | .str _, .int _ => some false | .bl _, .str _ => some false | .str _, .bl _ => some false
  | _, _ => none
theorem eqS_inv {x y : V} {d e : Dv} {b : Bool} (rx : Rep K cl R H x d) (ry : Rep K cl R H y e) (hz : eqS d e = some b) : scal x y = true ∧ b = decide (x = y) := by
  unfold eqS at hz
  split at hz <;> first
    | (cases hz; cases rx; cases ry; first
        | exact ⟨rfl, rfl⟩
        | exact ⟨rfl, by simp⟩)
    | cases hz
def eqB (neg : Bool) : Dv → Dv → Option Dv := fun d e => (eqS d e).map fun b => .bl (if neg then !b else b)
theorem ro_eq : RO cl K W rEq (fP (eqB false)) := ro_P fun R H x y d e z Q rx ry hz q => by
  obtain ⟨b, h, rfl⟩ := Option.map_eq_some_iff.mp hz
  obtain ⟨h1, rfl⟩ := eqS_inv rx ry h
  exact ⟨h1, q _ (.bl _)⟩
theorem ro_ne : RO cl K W rNe (fP (eqB true)) := ro_P fun R H x y d e z Q rx ry hz q => by
  obtain ⟨b, h, rfl⟩ := Option.map_eq_some_iff.mp hz
  obtain ⟨h1, rfl⟩ := eqS_inv rx ry h
  exact ⟨h1, q _ (.bl _)⟩
/-! == and in of data -/
mutual
def toPy : Dv → Option PyData
  | .non => some .none
  | .bl b => some (.bool b)
  | .int i => some (.int i)
  | .str s => some (.str s)
  | .lst l => (toPys l).map .list
  | .tup l => (toPys l).map .tuple
  | _ => none
def toPys : List Dv → Option (List PyData)
  | [] => some []
  | d :: ds => (toPy d).bind fun p => (toPys ds).map (p :: ·)
end
mutual
theorem toPy_dp : ∀ (d : Dv) (p : PyData) (v : V), toPy d = some p → Rep K cl R H v d → Dp K H v p
  | .non, _, _, e, h => by cases h; cases e; exact .non
  | .bl b, _, _, e, h => by cases h; cases e; exact .bl b
  | .int i, _, _, e, h => by cases h; cases e; exact .int i
  | .str x, _, _, e, h => by cases h; cases e; exact .str x
  | .lst l, _, _, e, h => by
    cases h with
    | lst h a =>
      obtain ⟨ps, e1, rfl⟩ := Option.map_eq_some_iff.mp (show (toPys l).map PyData.list = some _ from e)
      exact .lst h.sq (toPys_dp l ps _ e1 a)
  | .tup l, _, _, e, h => by
    cases h with
    | tup h a =>
      obtain ⟨ps, e1, rfl⟩ := Option.map_eq_some_iff.mp (show (toPys l).map PyData.tuple = some _ from e)
      exact .tup h.sq (toPys_dp l ps _ e1 a)
  | .ty _, _, _, e, h => by cases e
  | .gl _, _, _, e, h => by cases e
  | .own _, _, _, e, h => by cases e
  | .scr _, _, _, e, h => by cases e
  | .dct _ _, _, _, e, h => by cases e
  | .dtp _ _, _, _, e, h => by cases e
  | .obj _ _ _, _, _, e, h => by cases e
theorem toPys_dp : ∀ (ds : List Dv) (ps : List PyData) (vs : List V), toPys ds = some ps → RepAll K cl R H vs ds → DpAll K H vs ps
  | [], _, _, e, h => by cases h; cases e; exact .nil
  | d :: ds, _, _, e, h => by
    cases h with
    | cons a b =>
      obtain ⟨p, e1, e2⟩ := Option.bind_eq_some_iff.mp (show (toPy d).bind (fun p => (toPys ds).map (p :: ·)) = some _ from e)
      obtain ⟨ps, e3, rfl⟩ := Option.map_eq_some_iff.mp e2
      exact .cons (toPy_dp d p _ e1 a) (toPys_dp ds ps _ e3 b)
end
/-- a cell's list as it stands -/
def vw (ω : Store) (d : Dv) : Dv := match asL ω d with
  | some l => .lst l
  | none => d
theorem vw_dp {p : PyData} (r : Rep K cl R H v d) (st : RepSt K cl R H ω) (e : toPy (vw ω d) = some p) : Dp K H v p := by
  unfold vw at e
  split at e
  · rename_i l hl
    obtain ⟨a, xs, rfl, h1, h2⟩ := asL_at r st hl
    obtain ⟨ps, e1, rfl⟩ := Option.map_eq_some_iff.mp (show (toPys l).map PyData.list = some _ from e)
    exact .lst (SqL.of h1) (toPys_dp l ps _ e1 h2)
  · exact toPy_dp d p v e r
def fEqD (neg : Bool) : F2 := fun d e ω => match toPy (vw ω d), toPy (vw ω e) with
  | some p, some q => if SeqAt.shaped p = true ∧ SeqAt.shaped q = true then .ok (.bl (if neg then !PyData.eqv p q else PyData.eqv p q)) ω else .bad
  | _, _ => .bad
theorem ro_eqD : RO cl K W (rEqD K) (fEqD false) := fun R σ H ω x y d e Q rx ry st o => by
  unfold fEqD at o
  split at o
  · rename_i p q hp hq
    split at o
    · rename_i h
      exact ⟨p, q, vw_dp rx st hp, vw_dp ry st hq, h.1, h.2, o.val (.bl _) st⟩
    · exact o.elim
  · exact o.elim
theorem ro_neD : RO cl K W (rNeD K) (fEqD true) := fun R σ H ω x y d e Q rx ry st o => by
  unfold fEqD at o
  split at o
  · rename_i p q hp hq
    split at o
    · rename_i h
      exact ⟨p, q, vw_dp rx st hp, vw_dp ry st hq, h.1, h.2, o.val (.bl _) st⟩
    · exact o.elim
  · exact o.elim
/-- x in a tuple of data -/
def fInT (neg : Bool) : F2 := fun d e ω => match toPy d, toPy e with
  | some p, some (.tuple qs) => if SeqAt.shaped p = true ∧ SeqAt.shaped (.tuple qs) = true then .ok (.bl (if neg then !(qs.any fun z => PyData.eqv z p) else qs.any fun z => PyData.eqv z p)) ω else .bad
  | _, _ => .bad
theorem ro_inT {neg : Bool} : RO cl K W (rInT K neg) (fInT neg) := fun R σ H ω x y d e Q rx ry st o => by
  unfold fInT at o
  split at o
  · rename_i p q hp hq
    split at o
    · rename_i h
      exact ⟨p, q, toPy_dp d p x hp rx, toPy_dp e _ y hq ry, h.1, h.2, o.val (.bl _) st⟩
    · exact o.elim
  · exact o.elim
def fInD (neg : Bool) : F2 := fun d e ω => match toPy d, toPy (vw ω e) with
  | some p, some (.list qs) => if SeqAt.shaped p = true ∧ SeqAt.shaped (.list qs) = true then .ok (.bl (if neg then !(qs.any fun z => PyData.eqv z p) else qs.any fun z => PyData.eqv z p)) ω else .bad
  | _, _ => .bad
theorem ro_inD : RO cl K W (rInD K) (fInD false) := fun R σ H ω x y d e Q rx ry st o => by
  unfold fInD at o
  split at o
  · rename_i p q hp hq
    split at o
    · rename_i h
      exact ⟨p, q, toPy_dp d p x hp rx, vw_dp ry st hq, h.1, h.2, o.val (.bl _) st⟩
    · exact o.elim
  · exact o.elim
theorem ro_notInD : RO cl K W (rNotInD K) (fInD true) := fun R σ H ω x y d e Q rx ry st o => by
  unfold fInD at o
  split at o
  · rename_i p q hp hq
    split at o
    · rename_i h
      exact ⟨p, q, toPy_dp d p x hp rx, vw_dp ry st hq, h.1, h.2, o.val (.bl _) st⟩
    · exact o.elim
  · exact o.elim
/-! ### items and parts -/
def fIxL : F2 := fun d e ω => match asL ω d, e with
  | some l, .int i => match atI l i with
    | some z => .ok z ω
    | none => .bad
  | _, _ => .bad
theorem at_rep {xs : List V} {l : List Dv} {i : Int} {z : Dv} (r : RepAll K cl R H xs l) (e : atI l i = some z) : ∃ v, atI xs i = some v ∧ Rep K cl R H v z := by
  unfold atI at e ⊢
  rw [r.length]
  obtain ⟨j, h1, h2⟩ := Option.bind_eq_some_iff.mp e
  obtain ⟨v, h3, h4⟩ := r.back h2
  exact ⟨v, by rw [h1]; exact h3, h4⟩
theorem ro_ixL : RO cl K W (rIxL K) fIxL := fun R σ H ω x y d e Q rx ry st o => by
  unfold fIxL at o
  split at o
  · rename_i l i hl
    split at o
    · rename_i z hz
      cases ry
      obtain ⟨a, xs, rfl, h1, h2⟩ := asL_at rx st hl
      obtain ⟨v, h3, h4⟩ := at_rep h2 hz
      exact ⟨a, xs, _, v, rfl, rfl, SqL.of h1, h3, o.val h4 st⟩
    · exact o.elim
  · exact o.elim
def fIxT : F2 := fun d e ω => match asT d, e with
  | some l, .int i => match atI l i with
    | some z => .ok z ω
    | none => .bad
  | _, _ => .bad
theorem ro_ixT : RO cl K W (rIxT K) fIxT := fun R σ H ω x y d e Q rx ry st o => by
  unfold fIxT at o
  split at o
  · rename_i l i hl
    split at o
    · rename_i z hz
      cases ry
      obtain ⟨a, xs, rfl, h1, h2⟩ := asT_at rx hl
      obtain ⟨v, h3, h4⟩ := at_rep h2 hz
      exact ⟨a, xs, _, v, rfl, rfl, h1.sq, h3, o.val h4 st⟩
    · exact o.elim
  · exact o.elim
def sIx : Dv → Dv → Option Dv
  | .str s, .int i => if s.length ≤ sizeLine then (atI s.cps.toList i).map fun c => .str ⟨#[c]⟩ else none
  | _, _ => none
theorem ro_ixS : RO cl K W rIxS (fP sIx) := ro_P fun R H x y d e z Q rx ry hz q => by
  unfold sIx at hz
  split at hz
  · split at hz
    · rename_i hl
      obtain ⟨c, h1, rfl⟩ := Option.map_eq_some_iff.mp hz
      cases rx; cases ry
      exact ⟨_, _, c, rfl, rfl, hl, h1, q _ (.str _)⟩
    · cases hz
  · cases hz
/-! xs + ys -/
def fCat : F2 := fun d e ω => match asL ω d, asL ω e with
  | some l, some m => if l.length + m.length ≤ sizeLine then .ok (.lst (l ++ m)) ω else .bad
  | _, _ => .bad
theorem rep_new {p : Addr} {xs : List V} {l : List Dv} (st : RepSt K cl R H ω) (hp : H p = none) (r : RepAll K cl R H xs l) : Rep K cl R (upd H p (.lst xs)) (.ref p) (.lst l) := .lst ⟨upd_same, st.free hp⟩ (r.step (Step.new hp))
theorem rep_newT {p : Addr} {xs : List V} {l : List Dv} (st : RepSt K cl R H ω) (hp : H p = none) (r : RepAll K cl R H xs l) : Rep K cl R (upd H p (.tup xs)) (.ref p) (.tup l) := .tup (.inl ⟨upd_same, st.free hp⟩) (r.step (Step.new hp))
theorem ro_cat : RO cl K W rCat fCat := fun R σ H ω x y d e Q rx ry st o => by
  unfold fCat at o
  split at o
  · rename_i l m hl hm
    split at o
    · rename_i h
      obtain ⟨a, xs, rfl, h1, h2⟩ := asL_at rx st hl
      obtain ⟨b, ys, rfl, h3, h4⟩ := asL_at ry st hm
      refine ⟨a, b, xs, ys, rfl, rfl, h1, h3, by rw [h2.length, h4.length]; exact h, fun p np => ?_⟩
      exact o.grow (Same.new np) (rep_new st np (h2.append h4)) st
    · exact o.elim
  · exact o.elim
def fCatT : F2 := fun d e ω => match d, e with
  | .tup l, .tup m => if l ≠ [] ∧ l.length + m.length ≤ sizeLine then .ok (.tup (l ++ m)) ω else .bad
  | _, _ => .bad
end
end Mine
namespace Mine
open PySem PySem.Spec PyProof.Rows L2
/-! ### one operation or another, by the kinds of the values -/
def fOr (f g : F2) : F2 := fun d e ω => match f d e ω with
  | .bad => g d e ω
  | r => r
def fOr1 (f g : F1) : F1 := fun d ω => match f d ω with
  | .bad => g d ω
  | r => r
section
variable {K : PySem.W.Frag} {cl : Cl} {R : Rc} {H : Hp} {ω : Store} {W : WX} {v : V} {d : Dv}
theorem ro_or {r1 r2 : R2} {f g : F2} (h1 : RO cl K W r1 f) (h2 : RO cl K W r2 g) : RO cl K W (fun x y H Q => r1 x y H Q ∨ r2 x y H Q) (fOr f g) := fun R σ H ω x y d e Q rx ry st o => by
  unfold fOr at o
  split at o
  · exact .inr (h2 R σ H ω x y d e Q rx ry st o)
  · exact .inl (h1 R σ H ω x y d e Q rx ry st o)
theorem ru_or {r1 r2 : V → Hp → VK → Prop} {f g : F1} (h1 : RU1 cl K W r1 f) (h2 : RU1 cl K W r2 g) : RU1 cl K W (fun x H Q => r1 x H Q ∨ r2 x H Q) (fOr1 f g) := fun R σ H ω x d Q rx st o => by
  unfold fOr1 at o
  split at o
  · exact .inr (h2 R σ H ω x d Q rx st o)
  · exact .inl (h1 R σ H ω x d Q rx st o)
theorem opr_or {X : Cx} {f : Value → Value → Sem Value} {r1 r2 : R2} (h1 : OpR X f r1) (h2 : OpR X f r2) : OpR X f (fun x y H Q => r1 x y H Q ∨ r2 x y H Q) := fun pins s σ H x y v u Q I rx ry h =>
  h.elim (h1 pins s σ H x y v u Q I rx ry) (h2 pins s σ H x y v u Q I rx ry)
theorem unr_or {X : Cx} {f : Value → Sem Value} {r1 r2 : V → Hp → VK → Prop} (h1 : UnR X f r1) (h2 : UnR X f r2) : UnR X f (fun x H Q => r1 x H Q ∨ r2 x H Q) := fun pins s σ H x v Q I rx h =>
  h.elim (h1 pins s σ H x v Q I rx) (h2 pins s σ H x v Q I rx)
theorem ixr_or {X : Cx} {r1 r2 : R2} (h1 : IxR X r1) (h2 : IxR X r2) : IxR X (fun x y H Q => r1 x y H Q ∨ r2 x y H Q) := fun a b pins s σ H x y v u Q I rx ry h hs =>
  h.elim (fun h => h1 a b pins s σ H x y v u Q I rx ry h hs) (fun h => h2 a b pins s σ H x y v u Q I rx ry h hs)
def fCatA : F2 := fun d e ω => match d, e with
  | .tup l, .tup m => if l.length + m.length ≤ sizeLine then .ok (.tup (l ++ m)) ω else .bad
  | _, _ => .bad
theorem ro_catA : RO cl K W (rCatA K) fCatA := fun R σ H ω x y d e Q rx ry st o => by
  unfold fCatA at o
  split at o
  · split at o
    · rename_i h
      cases rx with
      | tup h1 a1 =>
        cases ry with
        | tup h2 a2 =>
          refine ⟨_, _, _, _, rfl, rfl, h1.sq, h2.sq, by rw [a1.length, a2.length]; exact h, fun e => ?_, fun n e => ?_, fun _ _ p np => ?_⟩
          · subst e
            cases a1
            exact o.val (.tup h2 a2) st
          · subst e
            cases a2
            rw [List.append_nil] at o
            exact o.val (.tup h1 a1) st
          · exact o.grow (Same.new np) (rep_newT st np (a1.append a2)) st
    · exact o.elim
  · exact o.elim
def uAdd : F2 := fOr (fP iAdd) (fOr (fP sAdd) (fOr fCat fCatA))
def uEq : F2 := fOr (fP (eqB false)) (fEqD false)
def uNe : F2 := fOr (fP (eqB true)) (fEqD true)
def uLt : F2 := fOr (fP iLt) (fP sLt)
def uGt : F2 := fOr (fP iGt) (fP sGt)
def uLe : F2 := fOr (fP iLe) (fP sLe)
def uIx : F2 := fOr fIxL (fOr fIxT (fP sIx))
def uIn : F2 := fOr (fP (sSign false)) (fOr (fInT false) (fInD false))
def uNotIn : F2 := fOr (fP (sSign true)) (fOr (fInT true) (fInD true))
/-! one-place -/
def f1P (F : Dv → Option Dv) : F1 := fun d ω => match F d with
  | some z => .ok z ω
  | none => .bad
theorem ru_P {r : V → Hp → VK → Prop} {F : Dv → Option Dv} (h : ∀ R H x d z (Q : VK), Rep K cl R H x d → F d = some z → (∀ v, Rep K cl R H v z → Q v H) → r x H Q) : RU1 cl K W r (f1P F) := fun R σ H ω x d Q rx st o => by
  unfold f1P at o
  split at o
  · rename_i z hz
    exact h R H x d z Q rx hz fun v rv => o.val rv st
  · exact o.elim
def iNeg : Dv → Option Dv
  | .int i => some (.int (-i))
  | _ => none
theorem ru_neg : RU1 cl K W (rU fun i => .int (-i)) (f1P iNeg) := ru_P fun R H x d z Q rx hz q => by
  unfold iNeg at hz
  split at hz
  · cases hz; cases rx
    exact ⟨_, rfl, q _ (.int _)⟩
  · cases hz
end
section
variable {cl : Cl} {X : Cx} {W : WX} {a b c e : Expr} {es : List Expr} {ga gb gc ge : GE} {gt gu : GT} {gs : GA} {pos : Pos} {r : R2} {f : F2}
theorem j_un {op : UnaryOp} {r : V → Hp → VK → Prop} {f : F1} (hop : UnR X (unaryOp op) r) (h : RU1 cl X.K W r f) (ha : JE cl X W a ga) : JE cl X W (.UnaryOp op a pos) (e1 f ga) :=
  let ⟨_, p, q⟩ := ha
  ⟨_, pe_un hop p, fr_un h q⟩
theorem j_cmp {op : CmpOp} (hop : OpR X (compareOp op) r) (h : RO cl X.K W r f) (ha : JE cl X W a ga) (hb : JE cl X W b gb) (hm : behindInMarks op b = false) : JE cl X W (.Compare a [op] [b] pos) (e2 f ga gb) :=
  let ⟨_, p, q⟩ := ha
  let ⟨_, p', q'⟩ := hb
  ⟨_, pe_cmpR hop p p' hm, fr_op h q q'⟩
/-- as a test -/
def gTest (g : GE) : GT := fun ρ ω => (g ρ ω).bind fun d ω => match d with
  | .bl k => .ok k ω
  | _ => .bad
theorem fr_test {K : PySem.W.Frag} {t : TE} (h : Fr K cl W rV t ga) : Fr K cl W rB (tTest t) (gTest ga) := fun R σ H ρ ω Q he hs o =>
  h.seq he hs o fun R1 x H1 d ω1 s1 r1 st1 he1 o1 => by
    split at o1
    · cases r1
      exact ⟨_, rfl, o1.val rfl st1⟩
    · exact o1.elim
theorem j_cmpT {op : CmpOp} (hop : OpR X (compareOp op) r) (h : RO cl X.K W r f) (ha : JE cl X W a ga) (hb : JE cl X W b gb) (hm : behindInMarks op b = false) : JT cl X W (.Compare a [op] [b] pos) (gTest (e2 f ga gb)) :=
  let ⟨_, p, q⟩ := ha
  let ⟨_, p', q'⟩ := hb
  ⟨_, pt_cmpR hop p p' hm, fr_test (fr_op h q q')⟩
theorem j_val (ha : JE cl X W a ga) (he : ∀ whole, isTrue a X.env whole = (do let v ← whole; standAt a.pos; holding [v] (truthy v)) := by intro _; rfl) : JT cl X W a (gTest ga) :=
  let ⟨_, p, q⟩ := ha
  ⟨_, pt_val p he, fr_test q⟩
def gChain (f f' : F2) (ga gb gc : GE) : GE := fun ρ ω => (ga ρ ω).bind fun x ω => (gb ρ ω).bind fun y ω => (f x y ω).bind fun z ω => match z with
  | .bl true => (gc ρ ω).bind fun u ω => f' y u ω
  | .bl false => .ok (.bl false) ω
  | _ => .bad
theorem RO.seq {K : PySem.W.Frag} {R : Rc} {σ : L2.St} {H : Hp} {ω : Store} {x y : V} {d e : Dv} {γ δ : Type} {rel2 : Rel γ δ} {k2 : Dv → Store → Res δ} {Q : VK} {Q2 : γ → Hp → Prop} (h : RO cl K W r f) (rx : Rep K cl R H x d) (ry : Rep K cl R H y e) (st : RepSt K cl R H ω)
    (o : Out K cl W rel2 R σ H ((f d e ω).bind k2) Q2) (k : ∀ R' v H' z ω', Step R H R' H' → Rep K cl R' H' v z → RepSt K cl R' H' ω' → Out K cl W rel2 R' σ H' (k2 z ω') Q2 → Q v H') : r x y H Q := by
  refine h R σ H ω x y d e Q rx ry st ?_
  cases e : f d e ω with
  | ok z ω' => rw [e] at o; exact fun R' v H' s rv st' => k R' v H' z ω' s rv st' (o.step s)
  | exc u ω' => rw [e] at o; exact o
  | bad => rw [e] at o; exact o
theorem fr_chain {K : PySem.W.Frag} {r r' : R2} {f f' : F2} {ta tb tc : TE} (h : RO cl K W r f) (h' : RO cl K W r' f') (ha : Fr K cl W rV ta ga) (hb : Fr K cl W rV tb gb) (hc : Fr K cl W rV tc gc) : Fr K cl W rV (tChain r r' ta tb tc) (gChain f f' ga gb gc) := fun R σ H ρ ω Q he hs o =>
  ha.seq he hs o fun R1 x H1 d ω1 s1 r1 st1 he1 o1 => hb.seq he1 st1 o1 fun R2 y H2 e ω2 s2 r2 st2 he2 o2 => h.seq (r1.step s2) r2 st2 o2 fun R3 z H3 u ω3 s3 r3 st3 o3 => by
    split at o3
    · cases r3
      refine ⟨true, rfl, iteT ?_⟩
      exact hc.seq (he2.step s3) st3 o3 fun R4 w H4 u ω4 s4 r4 st4 he4 o4 => h' R4 σ H4 ω4 y w e u Q ((r2.step s3).step s4) r4 st4 o4
    · cases r3
      exact ⟨false, rfl, iteF (o3.val (.bl _) st3)⟩
    · exact o3.elim
theorem j_chain {op op' : CmpOp} {r r' : R2} {f f' : F2} (hop : OpR X (compareOp op) r) (hop' : OpR X (compareOp op') r') (h : RO cl X.K W r f) (h' : RO cl X.K W r' f') (ha : JE cl X W a ga) (hb : JE cl X W b gb) (hc : JE cl X W c gc)
    (hm : lastMarks [op, op'] [b, c] = false := by with_unfolding_all rfl) : JE cl X W (.Compare a [op, op'] [b, c] pos) (gChain f f' ga gb gc) :=
  let ⟨_, p, q⟩ := ha
  let ⟨_, p', q'⟩ := hb
  let ⟨_, p2, q2⟩ := hc
  ⟨_, pe_chain hop hop' p p' p2 (by assumption), fr_chain h h' q q' q2⟩
theorem j_chainT {op op' : CmpOp} {r r' : R2} {f f' : F2} (hop : OpR X (compareOp op) r) (hop' : OpR X (compareOp op') r') (h : RO cl X.K W r f) (h' : RO cl X.K W r' f') (ha : JE cl X W a ga) (hb : JE cl X W b gb) (hc : JE cl X W c gc)
    (hm : lastMarks [op, op'] [b, c] = false := by with_unfolding_all rfl) : JT cl X W (.Compare a [op, op'] [b, c] pos) (gTest (gChain f f' ga gb gc)) :=
  let ⟨_, p, q⟩ := ha
  let ⟨_, p', q'⟩ := hb
  let ⟨_, p2, q2⟩ := hc
  ⟨_, pt_chain hop hop' p p' p2 (by assumption), fr_test (fr_chain h h' q q' q2)⟩
/-! ### and, or, not; if .. else -/
def gAnd (g h : GT) : GT := fun ρ ω => (g ρ ω).bind fun k ω => if k then h ρ ω else .ok false ω
def gOr (g h : GT) : GT := fun ρ ω => (g ρ ω).bind fun k ω => if k then .ok true ω else h ρ ω
def gNot (g : GT) : GT := fun ρ ω => (g ρ ω).bind fun k ω => .ok (!k) ω
theorem JW.pt {e : Expr} (h : JW cl X W e gt) : JT cl X W e gt := let ⟨_, p, q⟩ := h; ⟨_, p.pt, q⟩
theorem jw_and1 (h : JT cl X W a gt) : JW cl X W (.BoolOp .And [a] pos) gt := let ⟨_, p, q⟩ := h; ⟨_, pw_and1 p, q⟩
theorem jw_or1 (h : JT cl X W a gt) : JW cl X W (.BoolOp .Or [a] pos) gt := let ⟨_, p, q⟩ := h; ⟨_, pw_or1 p, q⟩
theorem fr_and {K : PySem.W.Frag} {t u : TT} (h : Fr K cl W rB t gt) (h' : Fr K cl W rB u gu) : Fr K cl W rB (tAnd t u) (gAnd gt gu) := fun R σ H ρ ω Q he hs o =>
  h.seq he hs o fun R1 k H1 k' ω1 s1 r1 st1 he1 o1 => by
    have r1 : k = k' := r1
    subst r1
    cases k with
    | true => exact iteT (h' R1 σ H1 ρ ω1 Q he1 st1 o1)
    | false => exact iteF (Out.val (rel := rB) o1 rfl st1)
theorem fr_or {K : PySem.W.Frag} {t u : TT} (h : Fr K cl W rB t gt) (h' : Fr K cl W rB u gu) : Fr K cl W rB (tOr t u) (gOr gt gu) := fun R σ H ρ ω Q he hs o =>
  h.seq he hs o fun R1 k H1 k' ω1 s1 r1 st1 he1 o1 => by
    have r1 : k = k' := r1
    subst r1
    cases k with
    | false => exact iteF (h' R1 σ H1 ρ ω1 Q he1 st1 o1)
    | true => exact iteT (Out.val (rel := rB) o1 rfl st1)
theorem jw_and {rest : List Expr} (h : JT cl X W a gt) (h' : JW cl X W (.BoolOp .And (b :: rest) pos) gu) : JW cl X W (.BoolOp .And (a :: b :: rest) pos) (gAnd gt gu) := let ⟨_, p, q⟩ := h; let ⟨_, p', q'⟩ := h'; ⟨_, pw_and p p', fr_and q q'⟩
theorem jw_or {rest : List Expr} (h : JT cl X W a gt) (h' : JW cl X W (.BoolOp .Or (b :: rest) pos) gu) : JW cl X W (.BoolOp .Or (a :: b :: rest) pos) (gOr gt gu) := let ⟨_, p, q⟩ := h; let ⟨_, p', q'⟩ := h'; ⟨_, pw_or p p', fr_or q q'⟩
theorem jt_not (h : JT cl X W a gt) : JT cl X W (.UnaryOp .Not a pos) (gNot gt) := let ⟨_, p, q⟩ := h; ⟨_, pt_not p, fun R σ H ρ ω Q he hs o =>
  q.seq he hs o fun R1 k H1 k' ω1 s1 r1 st1 he1 o1 => by
    have r1 : k = k' := r1
    subst r1
    exact Out.val (rel := rB) o1 rfl st1⟩
/-- as values -/
def eAnd (g h : GE) : GE := fun ρ ω => (g ρ ω).bind fun d ω => match d with
  | .bl true => h ρ ω
  | .bl false => .ok (.bl false) ω
  | _ => .bad
def eOr (g h : GE) : GE := fun ρ ω => (g ρ ω).bind fun d ω => match d with
  | .bl true => .ok (.bl true) ω
  | .bl false => h ρ ω
  | _ => .bad
def eNot (g : GE) : GE := fun ρ ω => (g ρ ω).bind fun d ω => match d with
  | .bl k => .ok (.bl (!k)) ω
  | _ => .bad
theorem j_one {op : BoolOp} (h : JE cl X W a ga) : JE cl X W (.BoolOp op [a] pos) ga := let ⟨_, p, q⟩ := h; ⟨_, pe_one p, q⟩
theorem j_and {rest : List Expr} (h : JE cl X W a ga) (h' : JE cl X W (.BoolOp .And (b :: rest) pos) gb) : JE cl X W (.BoolOp .And (a :: b :: rest) pos) (eAnd ga gb) := let ⟨_, p, q⟩ := h; let ⟨_, p', q'⟩ := h'; ⟨_, pe_and p p', fun R σ H ρ ω Q he hs o =>
  q.seq he hs o fun R1 k H1 d ω1 s1 r1 st1 he1 o1 => by
    split at o1
    · cases r1; exact ⟨true, rfl, iteT (q' R1 σ H1 ρ ω1 Q he1 st1 o1)⟩
    · cases r1; exact ⟨false, rfl, iteF (o1.val (.bl _) st1)⟩
    · exact o1.elim⟩
theorem j_or {rest : List Expr} (h : JE cl X W a ga) (h' : JE cl X W (.BoolOp .Or (b :: rest) pos) gb) : JE cl X W (.BoolOp .Or (a :: b :: rest) pos) (eOr ga gb) := let ⟨_, p, q⟩ := h; let ⟨_, p', q'⟩ := h'; ⟨_, pe_or p p', fun R σ H ρ ω Q he hs o =>
  q.seq he hs o fun R1 k H1 d ω1 s1 r1 st1 he1 o1 => by
    split at o1
    · cases r1; exact ⟨true, rfl, iteT (o1.val (.bl _) st1)⟩
    · cases r1; exact ⟨false, rfl, iteF (q' R1 σ H1 ρ ω1 Q he1 st1 o1)⟩
    · exact o1.elim⟩
theorem j_not (h : JE cl X W a ga) : JE cl X W (.UnaryOp .Not a pos) (eNot ga) := let ⟨_, p, q⟩ := h; ⟨_, pe_not p, fun R σ H ρ ω Q he hs o =>
  q.seq he hs o fun R1 k H1 d ω1 s1 r1 st1 he1 o1 => by
    split at o1
    · cases r1; exact ⟨_, rfl, o1.val (.bl _) st1⟩
    · exact o1.elim⟩
def eIf (g : GT) (ga gb : GE) : GE := fun ρ ω => (g ρ ω).bind fun k ω => if k then ga ρ ω else gb ρ ω
theorem j_if (h : JT cl X W c gt) (ha : JE cl X W a ga) (hb : JE cl X W b gb) : JE cl X W (.IfExp c a b pos) (eIf gt ga gb) := let ⟨_, p, q⟩ := h; let ⟨_, p', q'⟩ := ha; let ⟨_, p2, q2⟩ := hb; ⟨_, pe_ifExp p p' p2, fun R σ H ρ ω Q he hs o =>
  q.seq he hs o fun R1 k H1 k' ω1 s1 r1 st1 he1 o1 => by
    have r1 : k = k' := r1
    subst r1
    cases k with
    | true => exact iteT (q' R1 σ H1 ρ ω1 Q he1 st1 o1)
    | false => exact iteF (q2 R1 σ H1 ρ ω1 Q he1 st1 o1)⟩
/-! ### arguments, displays -/
def aNil : GA := fun _ ω => .ok [] ω
def aCons (g : GE) (h : GA) : GA := fun ρ ω => (g ρ ω).bind fun d ω => (h ρ ω).bind fun ds ω => .ok (d :: ds) ω
theorem ja_nil : JA cl X W [] aNil := ⟨_, pa_nil, fun R σ H ρ ω Q he hs o => Out.val (rel := rVs) o .nil hs⟩
theorem ja_cons (h : JE cl X W e ge) (h' : JA cl X W es gs) (hs : starEach (e :: es) X.env = (false, eval e X.env) :: starEach es X.env := by rfl) : JA cl X W (e :: es) (aCons ge gs) := let ⟨_, p, q⟩ := h; let ⟨_, p', q'⟩ := h'; ⟨_, pa_cons p p' hs, fun R σ H ρ ω Q he hs o =>
  q.seq he hs o fun R1 x H1 d ω1 s1 r1 st1 he1 o1 => q'.seq he1 st1 o1 fun R2 xs H2 ds ω2 s2 r2 st2 he2 o2 => Out.val (rel := rVs) o2 (.cons (r1.step s2) r2) st2⟩
def eLst (g : GA) : GE := fun ρ ω => (g ρ ω).bind fun ds ω => if ds.length ≤ sizeLine then .ok (.lst ds) ω else .bad
def eTup (g : GA) : GE := fun ρ ω => (g ρ ω).bind fun ds ω => if ds.length ≤ sizeLine then .ok (.tup ds) ω else .bad
theorem j_lst (h : JA cl X W es gs) : JE cl X W (.List es pos) (eLst gs) := let ⟨_, p, q⟩ := h; ⟨_, pe_lst p, fun R σ H ρ ω Q he hs o =>
  q.seq he hs o fun R1 xs H1 ds ω1 s1 r1 st1 he1 o1 => by
    split at o1
    · rename_i hl
      exact ⟨by rw [RepAll.length r1]; exact hl, fun p np => o1.grow (Same.new np) (rep_new st1 np r1) st1⟩
    · exact o1.elim⟩
theorem j_tup {x1 : Nat} (h : JA cl X W es gs) : JE cl X W (.Tuple es x1 pos) (eTup gs) := let ⟨_, p, q⟩ := h; ⟨_, pe_tup p, fun R σ H ρ ω Q he hs o =>
  q.seq he hs o fun R1 xs H1 ds ω1 s1 r1 st1 he1 o1 => by
    split at o1
    · rename_i hl
      exact ⟨by rw [RepAll.length r1]; exact hl, fun p np => o1.grow (Same.new np) (rep_newT st1 np r1) st1⟩
    · exact o1.elim⟩
/-! ### subscripts, slices -/
theorem j_ix {r : R2} {f : F2} (hix : IxR X r) (h : RO cl X.K W r f) (ha : JE cl X W a ga) (hb : JE cl X W b gb) (hs : PlainIx b) : JE cl X W (.Subscript a b pos) (e2 f ga gb) :=
  let ⟨_, p, q⟩ := ha
  let ⟨_, p', q'⟩ := hb
  ⟨_, pe_ix hix p p' hs, fr_op h q q'⟩
abbrev GO := DEnv → Store → Res (Option Int)
def rO : Rel (Option Int) (Option Int) := fun _ _ _ _ a b => a = b
def JO (cl : Cl) (X : Cx) (W : WX) (e : Option Expr) (g : GO) : Prop := ∃ t, PO X e t ∧ Fr X.K cl W rO t g
def oNone : GO := fun _ ω => .ok none ω
def oSome (g : GE) : GO := fun ρ ω => (g ρ ω).bind fun d ω => match d with
  | .int i => .ok (some i) ω
  | _ => .bad
theorem jo_none : JO cl X W none oNone := ⟨_, po_none, fun R σ H ρ ω Q he hs o => Out.val (rel := rO) o rfl hs⟩
theorem jo_some (h : JE cl X W e ge) : JO cl X W (some e) (oSome ge) := let ⟨_, p, q⟩ := h; ⟨_, po_some p, fun R σ H ρ ω Q he hs o =>
  q.seq he hs o fun R1 x H1 d ω1 s1 r1 st1 he1 o1 => by
    split at o1
    · cases r1; exact ⟨_, rfl, Out.val (rel := rO) o1 rfl st1⟩
    · exact o1.elim⟩
abbrev F3 := Dv → Option Int → Option Int → Store → Res Dv
def RS (cl : Cl) (K : PySem.W.Frag) (W : WX) (r : V → Option Int → Option Int → Hp → VK → Prop) (f : F3) : Prop := ∀ R σ H ω x d lo hi Q, Rep K cl R H x d → RepSt K cl R H ω → Out K cl W rV R σ H (f d lo hi ω) Q → r x lo hi H Q
def eSl (f : F3) (g : GE) (lo hi : GO) : GE := fun ρ ω => (g ρ ω).bind fun d ω => (lo ρ ω).bind fun l ω => (hi ρ ω).bind fun h ω => f d l h ω
theorem j_sl {r : V → Option Int → Option Int → Hp → VK → Prop} {f : F3} {lo hi : Option Expr} {gl gh : GO} {p2 : Pos} (hsl : SlR X r) (h : RS cl X.K W r f) (ha : JE cl X W e ge) (hl : JO cl X W lo gl) (hh : JO cl X W hi gh) : JE cl X W (.Subscript e (.Slice lo hi none p2) pos) (eSl f ge gl gh) :=
  let ⟨_, p, q⟩ := ha
  let ⟨_, p', q'⟩ := hl
  let ⟨_, p2, q2⟩ := hh
  ⟨_, pe_slice hsl p p' p2, fun R σ H ρ ω Q he hs o =>
  q.seq he hs o fun R1 x H1 d ω1 s1 r1 st1 he1 o1 => q'.seq he1 st1 o1 fun R2 l H2 l' ω2 s2 r2 st2 he2 o2 => q2.seq he2 st2 o2 fun R3 u H3 u' ω3 s3 r3 st3 he3 o3 => by
    have r2 : l = l' := r2
    have r3 : u = u' := r3
    subst r2 r3
    exact h R3 σ H3 ω3 x d l u Q ((r1.step s2).step s3) st3 o3⟩
def cutD (l : List Dv) (lo hi : Option Int) : List Dv := (l.drop (HT.sIx l.length 0 lo)).take (HT.sIx l.length l.length hi - HT.sIx l.length 0 lo)
theorem cut_rep {K : PySem.W.Frag} {R : Rc} {H : Hp} {xs : List V} {l : List Dv} {lo hi : Option Int} (r : RepAll K cl R H xs l) : RepAll K cl R H (cutV xs lo hi) (cutD l lo hi) := by
  unfold cutV cutD
  rw [r.length]
  exact (r.drop _).take _
def fSl : F3 := fun d lo hi ω => match asL ω d with
  | some l => .ok (.lst (cutD l lo hi)) ω
  | none => match d with
    | .tup l => .ok (.tup (cutD l lo hi)) ω
    | .str s => if s.length ≤ sizeLine then .ok (.str (cutS s lo hi)) ω else .bad
    | .scr ns => .ok (.lst (cutD (ns.map .int) lo hi)) ω
    | _ => .bad
theorem rep_ints {K : PySem.W.Frag} {R : Rc} {H : Hp} : ∀ ns : List Int, RepAll K cl R H (ns.map V.int) (ns.map Dv.int)
  | [] => .nil
  | n :: ns => .cons (.int n) (rep_ints ns)
theorem rs_sl {K : PySem.W.Frag} : RS cl K W (fun x lo hi H Q => rSlL K x lo hi H Q ∨ rSlA K x lo hi H Q ∨ rSlS x lo hi H Q) fSl := fun R σ H ω x d lo hi Q rx st o => by
  unfold fSl at o
  split at o
  · rename_i l hl
    obtain ⟨a, xs, rfl, h1, h2⟩ := asL_at rx st hl
    exact .inl ⟨a, xs, rfl, SqL.of h1, fun p np => o.grow (Same.new np) (rep_new st np (cut_rep h2)) st⟩
  · split at o
    · cases rx with
      | tup h1 h2 =>
        refine .inr (.inl ⟨_, _, rfl, h1.sq, fun z => ?_, fun _ p np => ?_⟩)
        · refine o.val (.tup h1 ?_) st
          have := cut_rep (lo := lo) (hi := hi) h2
          unfold cutV at this
          rw [z.1, z.2, List.drop_zero, Nat.sub_zero, List.take_length] at this
          exact this
        · exact o.grow (Same.new np) (rep_newT st np (cut_rep h2)) st
    · split at o
      · rename_i hl
        cases rx
        exact .inr (.inr ⟨_, rfl, hl, o.val (.str _) st⟩)
      · exact o.elim
    · cases rx with
      | scr h => exact .inl ⟨_, _, rfl, h.sq, fun p np => o.grow (Same.new np) (rep_new st np (cut_rep (rep_ints _))) st⟩
    · exact o.elim
theorem sl_any : SlR X (fun x lo hi H Q => rSlL X.K x lo hi H Q ∨ rSlA X.K x lo hi H Q ∨ rSlS x lo hi H Q) := sl_list.or (sl_tupA.or sl_str)
end
end Mine
namespace Mine
open PySem PySem.Spec PyProof.Rows L2
abbrev FV := List Dv → Store → Res Dv
abbrev RCall := List V → Hp → VK → Prop
def RC (cl : Cl) (K : PySem.W.Frag) (W : WX) (r : RCall) (f : FV) : Prop := ∀ R σ H ω xs ds Q, RepAll K cl R H xs ds → RepSt K cl R H ω → Out K cl W rV R σ H (f ds ω) Q → r xs H Q
def eB (f : FV) (g : GA) : GE := fun ρ ω => (g ρ ω).bind fun ds ω => f ds ω
def fOrV (f g : FV) : FV := fun ds ω => match f ds ω with
  | .bad => g ds ω
  | r => r
section
variable {K : PySem.W.Frag} {cl : Cl} {R : Rc} {H : Hp} {ω : Store} {W : WX} {v : V} {d : Dv}
theorem rc_or {r1 r2 : RCall} {f g : FV} (h1 : RC cl K W r1 f) (h2 : RC cl K W r2 g) : RC cl K W (fun xs H Q => r1 xs H Q ∨ r2 xs H Q) (fOrV f g) := fun R σ H ω x d Q rx st o => by
  unfold fOrV at o
  split at o
  · exact .inr (h2 R σ H ω x d Q rx st o)
  · exact .inl (h1 R σ H ω x d Q rx st o)
theorem callr_or {X : Cx} {f : Value} {r1 r2 : RCall} (h1 : CallR X f r1) (h2 : CallR X f r2) : CallR X f (fun xs H Q => r1 xs H Q ∨ r2 xs H Q) := fun pins s σ H x v Q I rx h =>
  h.elim (h1 pins s σ H x v Q I rx) (h2 pins s σ H x v Q I rx)
/-- one argument, no heap -/
def f1V (F : Dv → Option Dv) : FV := fun ds ω => match ds with
  | [d] => match F d with
    | some z => .ok z ω
    | none => .bad
  | _ => .bad
theorem rc_1 {r : RCall} {F : Dv → Option Dv} (h : ∀ R H x d z (Q : VK), Rep K cl R H x d → F d = some z → (∀ v, Rep K cl R H v z → Q v H) → r [x] H Q) : RC cl K W r (f1V F) := fun R σ H ω xs ds Q rx st o => by
  unfold f1V at o
  split at o
  · cases rx with
    | cons a b =>
      cases b
      split at o
      · rename_i z hz
        exact h R H _ _ z Q a hz fun v rv => o.val rv st
      · exact o.elim
  · exact o.elim
/-- one argument -/
def f1W (F : Dv → Store → Option Dv) : FV := fun ds ω => match ds with
  | [d] => match F d ω with
    | some z => .ok z ω
    | none => .bad
  | _ => .bad
theorem rc_1W {r : RCall} {F : Dv → Store → Option Dv} (h : ∀ R H ω x d z (Q : VK), Rep K cl R H x d → RepSt K cl R H ω → F d ω = some z → (∀ v H', Same H H' → Rep K cl R H' v z → Q v H') → r [x] H Q) : RC cl K W r (f1W F) := fun R σ H ω xs ds Q rx st o => by
  unfold f1W at o
  split at o
  · cases rx with
    | cons a b =>
      cases b
      split at o
      · rename_i z hz
        exact h R H ω _ _ z Q a st hz fun v H' s rv => o.grow s rv st
      · exact o.elim
  · exact o.elim
def bAbs : Dv → Option Dv
  | .int i => some (.int (if i < 0 then -i else i))
  | _ => none
theorem rc_abs : RC cl K W (fun xs H Q => ∃ i, xs = [.int i] ∧ Q (.int (if i < 0 then -i else i)) H) (f1V bAbs) := rc_1 fun R H x d z Q rx hz q => by
  unfold bAbs at hz
  split at hz
  · cases hz; cases rx; exact ⟨_, rfl, q _ (.int _)⟩
  · cases hz
def bInt : Dv → Option Dv
  | .int i => some (.int i)
  | .str s => if s.length ≤ 640 then (PySem.intText? s).map .int else none
  | _ => none
theorem rc_int : RC cl K W (fun xs H Q => ((∃ i, xs = [.int i] ∧ Q (.int i) H) ∨ ∃ k, xs = [.bl k] ∧ Q (.int (if k then 1 else 0)) H) ∨ ∃ a n, xs = [.str a] ∧ PySem.intText? a = some n ∧ a.length ≤ 640 ∧ Q (.int n) H) (f1V bInt) := rc_1 fun R H x d z Q rx hz q => by
  unfold bInt at hz
  split at hz
  · cases hz; cases rx; exact .inl (.inl ⟨_, rfl, q _ (.int _)⟩)
  · split at hz
    · rename_i hl
      obtain ⟨n, h1, rfl⟩ := Option.map_eq_some_iff.mp hz
      cases rx
      exact .inr ⟨_, n, rfl, h1, hl, q _ (.int _)⟩
    · cases hz
  · cases hz
def bStr : Dv → Option Dv
  | .int i => if i.natAbs.log2 < 1920 then some (.str (toString i)) else none
  | .str s => some (.str s)
  | _ => none
theorem rc_str : RC cl K W (fun xs H Q => (∃ i, xs = [.int i] ∧ i.natAbs.log2 < 1920 ∧ Q (.str (toString i)) H) ∨ ∃ a, xs = [.str a] ∧ Q (.str a) H) (f1V bStr) := rc_1 fun R H x d z Q rx hz q => by
  unfold bStr at hz
  split at hz
  · split at hz
    · rename_i hl
      cases hz; cases rx; exact .inl ⟨_, rfl, hl, q _ (.str _)⟩
    · cases hz
  · cases hz; cases rx; exact .inr ⟨_, rfl, q _ (.str _)⟩
  · cases hz
def bLen (d : Dv) (ω : Store) : Option Dv := match asL ω d with
  | some l => some (.int l.length)
  | none => match d with
    | .tup l => some (.int l.length)
    | .str s => if s.length ≤ sizeLine then some (.int s.length) else none
    | _ => none
theorem rc_len : RC cl K W (fun xs H Q => ∃ x n, xs = [x] ∧ LenV K x H n ∧ Q (.int n) H) (f1W bLen) := rc_1W fun R H ω x d z Q rx st hz q => by
  unfold bLen at hz
  split at hz
  · rename_i l hl
    cases hz
    obtain ⟨a, xs, rfl, h1, h2⟩ := asL_at rx st hl
    exact ⟨_, l.length, rfl, .inl ⟨xs, SqL.of h1, h2.length.symm⟩, q _ _ (Same.refl _) (.int _)⟩
  · split at hz
    · cases hz
      cases rx with
      | tup h1 h2 => exact ⟨_, _, rfl, .inr ⟨_, h1.sq, h2.length.symm⟩, q _ _ (Same.refl _) (.int _)⟩
    · split at hz
      · rename_i hl
        cases hz; cases rx
        exact ⟨_, _, rfl, ⟨hl, rfl⟩, q _ _ (Same.refl _) (.int _)⟩
      · cases hz
    · cases hz
/-- list(..), of a list, a tuple -/
def bList (d : Dv) (ω : Store) : Option Dv := match asL ω d with
  | some l => some (.lst l)
  | none => match d with
    | .tup l => some (.lst l)
    | _ => none
theorem rc_list : RC cl K W (fun xs H Q => ∃ p ys, xs = [.ref p] ∧ (SqL K H p ys ∨ SqT K H p ys) ∧ ∀ l, H l = none → Q (.ref l) (upd H l (.lst ys))) (f1W bList) := rc_1W fun R H ω x d z Q rx st hz q => by
  unfold bList at hz
  split at hz
  · rename_i l hl
    cases hz
    obtain ⟨a, xs, rfl, h1, h2⟩ := asL_at rx st hl
    exact ⟨_, xs, rfl, .inl (SqL.of h1), fun p np => q _ _ (Same.new np) (rep_new st np h2)⟩
  · split at hz
    · cases hz
      cases rx with
      | tup h1 h2 => exact ⟨_, _, rfl, .inr h1.sq, fun p np => q _ _ (Same.new np) (rep_new st np h2)⟩
    · cases hz
def bTuple (d : Dv) (ω : Store) : Option Dv := match asL ω d with
  | some l => some (.tup l)
  | none => match d with
    | .tup l => some (.tup l)
    | _ => none
theorem rc_tuple : RC cl K W (fun xs H Q => ∃ p ys, xs = [.ref p] ∧ ((SqL K H p ys ∧ ∀ l, H l = none → Q (.ref l) (upd H l (.tup ys))) ∨ (SqT K H p ys ∧ Q (.ref p) H))) (f1W bTuple) := rc_1W fun R H ω x d z Q rx st hz q => by
  unfold bTuple at hz
  split at hz
  · rename_i l hl
    cases hz
    obtain ⟨a, xs, rfl, h1, h2⟩ := asL_at rx st hl
    exact ⟨_, xs, rfl, .inl ⟨SqL.of h1, fun p np => q _ _ (Same.new np) (rep_newT st np h2)⟩⟩
  · split at hz
    · cases hz
      cases rx with
      | tup h1 h2 => exact ⟨_, _, rfl, .inr ⟨h1.sq, q _ _ (Same.refl _) (.tup h1 h2)⟩⟩
    · cases hz
/-! lists of one kind -/
def dBools : List Dv → Option (List Bool)
  | [] => some []
  | .bl b :: l => (dBools l).map (b :: ·)
  | _ => none
def dStrs : List Dv → Option (List Str)
  | [] => some []
  | .str b :: l => (dStrs l).map (b :: ·)
  | _ => none
def dInts : List Dv → Option (List Int)
  | [] => some []
  | .int b :: l => (dInts l).map (b :: ·)
  | _ => none
theorem bools_rep : ∀ {l : List Dv} {xs : List V} {bs : List Bool}, RepAll K cl R H xs l → dBools l = some bs → xs = bs.map V.bl
  | [], _, _, r, e => by cases r; cases e; rfl
  | .bl b :: l, _, _, r, e => by
    cases r with
    | cons a r =>
      obtain ⟨bs, h1, rfl⟩ := Option.map_eq_some_iff.mp (show (dBools l).map (b :: ·) = some _ from e)
      cases a
      rw [bools_rep r h1]; rfl
theorem dstrs_rep : ∀ {l : List Dv} {xs : List V} {bs : List Str}, RepAll K cl R H xs l → dStrs l = some bs → xs = bs.map V.str
  | [], _, _, r, e => by cases r; cases e; rfl
  | .str b :: l, _, _, r, e => by
    cases r with
    | cons a r =>
      obtain ⟨bs, h1, rfl⟩ := Option.map_eq_some_iff.mp (show (dStrs l).map (b :: ·) = some _ from e)
      cases a
      rw [dstrs_rep r h1]; rfl
theorem dints_rep : ∀ {l : List Dv} {xs : List V} {bs : List Int}, RepAll K cl R H xs l → dInts l = some bs → xs = bs.map V.int
  | [], _, _, r, e => by cases r; cases e; rfl
  | .int b :: l, _, _, r, e => by
    cases r with
    | cons a r =>
      obtain ⟨bs, h1, rfl⟩ := Option.map_eq_some_iff.mp (show (dInts l).map (b :: ·) = some _ from e)
      cases a
      rw [dints_rep r h1]; rfl
theorem rep_dstrs : ∀ bs : List Str, RepAll K cl R H (bs.map V.str) (bs.map Dv.str)
  | [] => .nil
  | b :: bs => .cons (.str b) (rep_dstrs bs)
theorem dstrs_map : ∀ bs : List Str, dStrs (bs.map Dv.str) = some bs
  | [] => rfl
  | b :: bs => by show (dStrs (bs.map Dv.str)).map (b :: ·) = some (b :: bs); rw [dstrs_map bs]; rfl
def bAll (d : Dv) (ω : Store) : Option Dv := (asL ω d).bind fun l => (dBools l).map fun bs => .bl (bs.all id)
def bAny (d : Dv) (ω : Store) : Option Dv := (asL ω d).bind fun l => (dBools l).map fun bs => .bl (bs.any id)
def bSum (d : Dv) (ω : Store) : Option Dv := (asL ω d).bind fun l => (dInts l).map fun bs => .int bs.sum
theorem rc_all : RC cl K W (rAll K) (f1W bAll) := rc_1W fun R H ω x d z Q rx st hz q => by
  obtain ⟨l, hl, h⟩ := Option.bind_eq_some_iff.mp hz
  obtain ⟨bs, hb, rfl⟩ := Option.map_eq_some_iff.mp h
  obtain ⟨a, xs, rfl, h1, h2⟩ := asL_at rx st hl
  obtain rfl := bools_rep h2 hb
  exact ⟨a, bs, rfl, SqL.of h1, q _ _ (Same.refl _) (.bl _)⟩
theorem rc_any : RC cl K W (rAny K) (f1W bAny) := rc_1W fun R H ω x d z Q rx st hz q => by
  obtain ⟨l, hl, h⟩ := Option.bind_eq_some_iff.mp hz
  obtain ⟨bs, hb, rfl⟩ := Option.map_eq_some_iff.mp h
  obtain ⟨a, xs, rfl, h1, h2⟩ := asL_at rx st hl
  obtain rfl := bools_rep h2 hb
  exact ⟨a, bs, rfl, SqL.of h1, q _ _ (Same.refl _) (.bl _)⟩
theorem rc_sum : RC cl K W (rSum K) (f1W bSum) := rc_1W fun R H ω x d z Q rx st hz q => by
  obtain ⟨l, hl, h⟩ := Option.bind_eq_some_iff.mp hz
  obtain ⟨bs, hb, rfl⟩ := Option.map_eq_some_iff.mp h
  obtain ⟨a, xs, rfl, h1, h2⟩ := asL_at rx st hl
  obtain rfl := dints_rep h2 hb
  exact ⟨a, bs, rfl, SqL.of h1, q _ _ (Same.refl _) (.int _)⟩
def bGcd : FV := fun ds ω => match ds with
  | [.int a, .int b] => .ok (.int ((Nat.gcd a.natAbs b.natAbs : Nat) : Int)) ω
  | _ => .bad
theorem rc_gcd : RC cl K W rGcd bGcd := fun R σ H ω xs ds Q rx st o => by
  unfold bGcd at o
  split at o
  · cases rx with
    | cons a r =>
      cases r with
      | cons b r =>
        cases r; cases a; cases b
        exact ⟨_, _, rfl, o.val (.int _) st⟩
  · exact o.elim
end
section
variable {cl : Cl} {X : Cx} {W : WX} {o e : Expr} {es : List Expr} {go ge : GE} {gs : GA} {pos p apos : Pos} {r : RCall} {f : FV} {x : Str} {id T : String}
theorem fr_cb {K : PySem.W.Frag} {t : TA} (h : RC cl K W r f) (q : Fr K cl W rVs t gs) : Fr K cl W rV (tCB r t) (eB f gs) := fun R σ H ρ ω Q he hs o =>
  q.seq he hs o fun R1 xs H1 ds ω1 s1 r1 st1 he1 o1 => h R1 σ H1 ω1 xs ds Q r1 st1 o1
theorem j_callB (hc : CallR X (.builtin id) r) (h : RC cl X.K W r f) (hg : Gl X x) (hm : X.mg x = none) (hv : bootBuiltins x = some (.builtin id)) (ha : JA cl X W (e :: es) gs) (hn : x ≠ "__name__" := by decide) (hdb : (x == ("__debug__" : Str)) = false := by decide)
    (he : starEach (e :: es) X.env = (false, eval e X.env) :: starEach es X.env := by rfl) (hpl : (backTo pos (starEach es X.env)).any (·.1) = false := by rfl) : JE cl X W (.Call (.Name x p) (e :: es) [] pos) (eB f gs) :=
  let ⟨_, p, q⟩ := ha
  ⟨_, pe_callB hc hg hm hv p hn hdb he hpl, fr_cb h q⟩
theorem j_callTy (hc : CallR X (.type T) r) (h : RC cl X.K W r f) (hg : Gl X x) (hm : X.mg x = none) (hv : bootBuiltins x = some (.type T)) (ha : JA cl X W (e :: es) gs) (hn : x ≠ "__name__" := by decide) (hdb : (x == ("__debug__" : Str)) = false := by decide)
    (he : starEach (e :: es) X.env = (false, eval e X.env) :: starEach es X.env := by rfl) (hpl : (backTo pos (starEach es X.env)).any (·.1) = false := by rfl) : JE cl X W (.Call (.Name x p) (e :: es) [] pos) (eB f gs) :=
  let ⟨_, p, q⟩ := ha
  ⟨_, pe_callTy hc hg hm hv p hn hdb he hpl, fr_cb h q⟩
/-! ### methods of texts -/
abbrev RM := V → List V → Hp → VK → Prop
def RMt (cl : Cl) (K : PySem.W.Frag) (W : WX) (r : RM) (f : F2) : Prop := ∀ R σ H ω x y d e Q, Rep K cl R H x d → Rep K cl R H y e → RepSt K cl R H ω → Out K cl W rV R σ H (f d e ω) Q → (∃ a, x = .str a) ∧ r x [y] H Q
/-- s.m(e) -/
def eM1 (f : F2) (go ge : GE) : GE := fun ρ ω => (go ρ ω).bind fun x ω => match x with
  | .str _ => (ge ρ ω).bind fun y ω => f x y ω
  | _ => .bad
theorem j_m1 {name : Str} {id : String} {r : RM} {f : F2} (slot : Slot "str" name id) (ty : typeOf (.builtin id) = pure (.type "method_descriptor")) (rule : MtR X id r) (h : RMt cl X.K W r f) (ho : JE cl X W o go) (ha : JE cl X W e ge)
    (hs : starEach [e] X.env = [(false, eval e X.env)] := by rfl) (hbase : attributeBase o name X.env (eval o X.env) = eval o X.env := by rfl) (hline : (apos.endLine == pos.line) = true := by rfl) : JE cl X W (.Call (.Attribute o name apos) [e] [] pos) (eM1 f go ge) :=
  let ⟨_, p, q⟩ := ho
  let ⟨_, p', q'⟩ := ha
  ⟨_, pe_m1 slot ty rule p p' hs hbase hline, fun R σ H ρ ω Q he hs o =>
    q.seq he hs o fun R1 x H1 d ω1 s1 r1 st1 he1 o1 => by
      split at o1
      · have r1' := r1
        cases r1
        exact ⟨⟨_, rfl⟩, q'.seq he1 st1 o1 fun R2 y H2 e ω2 s2 r2 st2 he2 o2 => (h R2 σ H2 ω2 _ y _ e Q (r1'.step s2) r2 st2 o2).2⟩
      · exact o1.elim⟩
def mP (F : Str → Dv → Store → Option Dv) : F2 := fun d e ω => match d with
  | .str a => match F a e ω with
    | some z => .ok z ω
    | none => .bad
  | _ => .bad
theorem rm_P {K : PySem.W.Frag} {r : RM} {F : Str → Dv → Store → Option Dv} (h : ∀ R H ω a y e z (Q : VK), Rep K cl R H y e → RepSt K cl R H ω → F a e ω = some z → (∀ v H', Same H H' → Rep K cl R H' v z → Q v H') → r (.str a) [y] H Q) : RMt cl K W r (mP F) := fun R σ H ω x y d e Q rx ry st o => by
  unfold mP at o
  split at o
  · cases rx
    split at o
    · rename_i z hz
      exact ⟨⟨_, rfl⟩, h R H ω _ y e z Q ry st hz fun v H' s rv => o.grow s rv st⟩
    · exact o.elim
  · exact o.elim
def mStarts (a : Str) (e : Dv) (_ : Store) : Option Dv := match e with
  | .str b => some (.bl (Txt.startswith a b))
  | _ => none
def mSplit (a : Str) (e : Dv) (_ : Store) : Option Dv := match e with
  | .str b => if (b.length == 0) = false ∧ a.length + 2 ≤ sizeLine then some (.lst ((Txt.split a b).map .str)) else none
  | _ => none
def mPart (a : Str) (e : Dv) (_ : Store) : Option Dv := match e with
  | .str b => if (b.length == 0) = false ∧ a.length ≤ sizeLine then some (.tup [.str (Txt.partition a b).1, .str (Txt.partition a b).2.1, .str (Txt.partition a b).2.2]) else none
  | _ => none
def asQ (ω : Store) (d : Dv) : Option (List Dv) := match asL ω d with
  | some l => some l
  | none => asT d
def mJoin (a : Str) (e : Dv) (ω : Store) : Option Dv := match (asQ ω e).bind dStrs with
  | some ys => if (ys.map (·.length)).sum + ys.length * a.length ≤ 16777216 then some (.str (Txt.join a ys)) else none
  | none => none
theorem rm_starts {K : PySem.W.Frag} : RMt cl K W (fun x xs H Q => ∃ a b, x = .str a ∧ xs = [.str b] ∧ Q (.bl (Txt.startswith a b)) H) (mP mStarts) := rm_P fun R H ω a y e z Q ry st hz q => by
  unfold mStarts at hz
  split at hz
  · cases hz; cases ry; exact ⟨_, _, rfl, rfl, q _ _ (Same.refl _) (.bl _)⟩
  · cases hz
theorem rm_split {K : PySem.W.Frag} : RMt cl K W (fun x xs H Q => ∃ a b, x = .str a ∧ xs = [.str b] ∧ (b.length == 0) = false ∧ a.length + 2 ≤ sizeLine ∧ rNewStrs (Txt.split a b) H Q) (mP mSplit) := rm_P fun R H ω a y e z Q ry st hz q => by
  unfold mSplit at hz
  split at hz
  · split at hz
    · rename_i hc
      cases hz; cases ry
      exact ⟨_, _, rfl, rfl, hc.1, hc.2, fun p np => q _ _ (Same.new np) (rep_new st np (rep_dstrs _))⟩
    · cases hz
  · cases hz
theorem rm_part {K : PySem.W.Frag} : RMt cl K W (fun x xs H Q => ∃ a b, x = .str a ∧ xs = [.str b] ∧ (b.length == 0) = false ∧ a.length ≤ sizeLine ∧
    ∀ p, H p = none → Q (.ref p) (upd H p (.tup [.str (Txt.partition a b).1, .str (Txt.partition a b).2.1, .str (Txt.partition a b).2.2]))) (mP mPart) := rm_P fun R H ω a y e z Q ry st hz q => by
  unfold mPart at hz
  split at hz
  · split at hz
    · rename_i hc
      cases hz; cases ry
      exact ⟨_, _, rfl, rfl, hc.1, hc.2, fun p np => q _ _ (Same.new np) (rep_newT st np (.cons (.str _) (.cons (.str _) (.cons (.str _) .nil))))⟩
    · cases hz
  · cases hz
theorem asQ_at {K : PySem.W.Frag} {R : Rc} {H : Hp} {ω : Store} {v : V} {d : Dv} {l : List Dv} (r : Rep K cl R H v d) (st : RepSt K cl R H ω) (e : asQ ω d = some l) : ∃ a xs, v = .ref a ∧ (SqL K H a xs ∨ SqT K H a xs) ∧ RepAll K cl R H xs l := by
  unfold asQ at e
  split at e
  · rename_i l' hl
    cases e
    obtain ⟨a, xs, rfl, h1, h2⟩ := asL_at r st hl
    exact ⟨a, xs, rfl, .inl (SqL.of h1), h2⟩
  · obtain ⟨a, xs, rfl, h1, h2⟩ := asT_at r e
    exact ⟨a, xs, rfl, .inr h1.sq, h2⟩
theorem rm_join {K : PySem.W.Frag} : RMt cl K W (fun x xs H Q => ∃ a p, ∃ ys : List Str, x = .str a ∧ xs = [.ref p] ∧ (SqL K H p (ys.map V.str) ∨ SqT K H p (ys.map V.str)) ∧
    (ys.map (·.length)).sum + ys.length * a.length ≤ 16777216 ∧ Q (.str (Txt.join a ys)) H) (mP mJoin) := rm_P fun R H ω a y e z Q ry st hz q => by
  unfold mJoin at hz
  split at hz
  · rename_i ys hy
    split at hz
    · rename_i hc
      cases hz
      obtain ⟨l, hl, hs⟩ := Option.bind_eq_some_iff.mp hy
      obtain ⟨b, xs, rfl, h1, h2⟩ := asQ_at ry st hl
      obtain rfl := dstrs_rep h2 hs
      exact ⟨_, b, ys, rfl, rfl, h1, hc, q _ _ (Same.refl _) (.str _)⟩
    · cases hz
  · cases hz
/-! ### f-strings -/
abbrev GJ := DEnv → Store → Res Str
def eFmt (g : GE) : GE := fun ρ ω => (g ρ ω).bind fun d ω => match d with
  | .str y => if y.length ≤ sizeLine then .ok (.str y) ω else .bad
  | .int i => if i.natAbs.log2 < 1920 then .ok (.str (toString i)) ω else .bad
  | _ => .bad
theorem j_fmt (h : JE cl X W e ge) : JE cl X W (.FormattedValue e (-1) none pos) (eFmt ge) := let ⟨_, p, q⟩ := h; ⟨_, pe_fmt p, fun R σ H ρ ω Q he hs o =>
  q.seq he hs o fun R1 x H1 d ω1 s1 r1 st1 he1 o1 => by
    split at o1
    · split at o1
      · rename_i hl
        cases r1; exact .inl ⟨_, rfl, hl, o1.val (.str _) st1⟩
      · exact o1.elim
    · split at o1
      · rename_i hl
        cases r1; exact .inr ⟨_, rfl, hl, o1.val (.str _) st1⟩
      · exact o1.elim
    · exact o1.elim⟩
def gJs : List GE → Str → DEnv → Store → Res Str
  | [], acc, _, ω => .ok acc ω
  | g :: gs, acc, ρ, ω => (g ρ ω).bind fun d ω => match d with
    | .str y => if (acc ++ y).length ≤ sizeLine then gJs gs (acc ++ y) ρ ω else .bad
    | _ => .bad
def rStr : Rel Str Str := fun _ _ _ _ a b => a = b
inductive JJ (cl : Cl) (X : Cx) (W : WX) : List Expr → List GE → Prop where
  | nil : JJ cl X W [] []
  | cons {e : Expr} {g : GE} {es : List Expr} {gs : List GE} (h : JE cl X W e g) (r : JJ cl X W es gs) : JJ cl X W (e :: es) (g :: gs)
theorem jj_fr {es : List Expr} {gs : List GE} (h : JJ cl X W es gs) : ∃ ts, PJ X es ts ∧ ∀ acc, Fr X.K cl W rStr (fun σ H Q => tJs ts acc σ H Q) (gJs gs acc) := by
  induction h with
  | nil => exact ⟨[], .nil, fun acc R σ H ρ ω Q he hs o => Out.val (rel := rStr) o rfl hs⟩
  | cons h r ih =>
    obtain ⟨t, p, q⟩ := h
    obtain ⟨ts, ps, qs⟩ := ih
    refine ⟨t :: ts, .cons p ps, fun acc R σ H ρ ω Q he hs o => ?_⟩
    refine q.seq he hs o fun R1 x H1 d ω1 s1 r1 st1 he1 o1 => ?_
    split at o1
    · split at o1
      · rename_i hl
        cases r1
        exact ⟨_, rfl, hl, qs _ R1 σ H1 ρ ω1 Q he1 st1 o1⟩
      · exact o1.elim
    · exact o1.elim
def eJoined (gs : List GE) : GE := fun ρ ω => (gJs gs Str.empty ρ ω).bind fun s ω => .ok (.str s) ω
theorem j_joined {v1 v2 : Expr} {rest : List Expr} {gs : List GE} (h : JJ cl X W (v1 :: v2 :: rest) gs) : JE cl X W (.JoinedStr (v1 :: v2 :: rest) pos) (eJoined gs) := by
  obtain ⟨ts, p, q⟩ := jj_fr h
  refine ⟨_, pe_joined p, fun R σ H ρ ω Q he hs o => ?_⟩
  refine (q Str.empty).seq he hs o fun R1 x H1 d ω1 s1 r1 st1 he1 o1 => ?_
  have r1 : x = d := r1
  subst r1
  exact o1.val (.str _) st1
theorem j_joined1 (h : JE cl X W e ge) : JE cl X W (.JoinedStr [e] pos) ge := let ⟨_, p, q⟩ := h; ⟨_, pe_joined1 p, q⟩
end
end Mine
namespace Mine
open PySem PySem.Spec PyProof.Rows L2
/-! ### statements -/
inductive SRes where
  | next (ρ : DEnv) (w : Store) | ret (d : Dv) (w : Store) | brk (ρ : DEnv) (w : Store) | cont (ρ : DEnv) (w : Store) | exc (e : Exc) (ρ : DEnv) (w : Store) | bad
abbrev GS := DEnv → Store → SRes
def OutS (K : PySem.W.Frag) (cl : Cl) (W : WX) (R : Rc) (H : Hp) (r : SRes) (D : Ends) : Prop :=
  match r with
  | .next ρ ω => ∀ R' σ H', Step R H R' H' → RepEnv K cl R' H' σ ρ → RepSt K cl R' H' ω → D.nx σ H'
  | .ret d ω => ∀ R' v H', Step R H R' H' → Rep K cl R' H' v d → RepSt K cl R' H' ω → D.rt v H'
  | .brk ρ ω => ∀ R' σ H', Step R H R' H' → RepEnv K cl R' H' σ ρ → RepSt K cl R' H' ω → D.bk σ H'
  | .cont ρ ω => ∀ R' σ H', Step R H R' H' → RepEnv K cl R' H' σ ρ → RepSt K cl R' H' ω → D.ct σ H'
  | .exc e ρ ω => ∀ R' σ c dd H', Step R H R' H' → RepEnv K cl R' H' σ ρ → ExcAt K cl R' H' c dd e → RepSt K cl R' H' ω → W c dd σ H'
  | .bad => False
def FrS (K : PySem.W.Frag) (cl : Cl) (W : WX) (t : TS) (g : GS) : Prop :=
  ∀ R σ H ρ ω D, RepEnv K cl R H σ ρ → RepSt K cl R H ω → OutS K cl W R H (g ρ ω) D → t D σ H
def Res.then {α : Type} (ρ : DEnv) : Res α → (α → Store → SRes) → SRes
  | .ok a w, f => f a w
  | .exc e w, _ => .exc e ρ w
  | .bad, _ => .bad
@[simp] theorem then_ok {α : Type} (ρ : DEnv) (a : α) (w : Store) (f : α → Store → SRes) : (Res.ok a w).then ρ f = f a w := rfl
@[simp] theorem then_exc {α : Type} (ρ : DEnv) (e : Exc) (w : Store) (f : α → Store → SRes) : (Res.exc (α := α) e w).then ρ f = .exc e ρ w := rfl
@[simp] theorem then_bad {α : Type} (ρ : DEnv) (f : α → Store → SRes) : (Res.bad (α := α)).then ρ f = .bad := rfl
section
variable {α β : Type} {K : PySem.W.Frag} {cl : Cl} {W : WX} {R R' : Rc} {σ : L2.St} {H H' : Hp} {ρ : DEnv} {ω : Store} {D : Ends}
theorem OutS.step {r : SRes} (s : Step R H R' H') (o : OutS K cl W R H r D) : OutS K cl W R' H' r D := by
  cases r with
  | next ρ ω => exact fun R2 v H2 s2 => o R2 v H2 (s.trans s2)
  | ret d ω => exact fun R2 v H2 s2 => o R2 v H2 (s.trans s2)
  | brk ρ ω => exact fun R2 v H2 s2 => o R2 v H2 (s.trans s2)
  | cont ρ ω => exact fun R2 v H2 s2 => o R2 v H2 (s.trans s2)
  | exc e ρ ω => exact fun R2 σ c dd H2 s2 => o R2 σ c dd H2 (s.trans s2)
  | bad => exact o
theorem Fr.seqS {rel : Rel α β} {t : L2.St → Hp → (α → Hp → Prop) → Prop} {g : DEnv → Store → Res β} {f : β → Store → SRes} {Q : α → Hp → Prop}
    (h : Fr K cl W rel t g) (he : RepEnv K cl R H σ ρ) (hs : RepSt K cl R H ω) (o : OutS K cl W R H ((g ρ ω).then ρ f) D)
    (k : ∀ R' v H' d ω', Step R H R' H' → rel K cl R' H' v d → RepSt K cl R' H' ω' → RepEnv K cl R' H' σ ρ → OutS K cl W R' H' (f d ω') D → Q v H') : t σ H Q := by
  refine h R σ H ρ ω Q he hs ?_
  cases e : g ρ ω with
  | ok d ω' =>
    rw [e] at o
    exact fun R' v H' s r st => k R' v H' d ω' s r st (he.step s) (o.step s)
  | exc x ω' => rw [e] at o; exact fun R' c dd H' s ea st => o R' σ c dd H' s (he.step s) ea st
  | bad => rw [e] at o; exact o
theorem OutS.nx {ρ : DEnv} (o : OutS K cl W R H (.next ρ ω) D) (he : RepEnv K cl R H σ ρ) (st : RepSt K cl R H ω) : D.nx σ H := o R σ H (Step.refl _ _) he st
theorem OutS.rt {d : Dv} {v : V} (o : OutS K cl W R H (.ret d ω) D) (r : Rep K cl R H v d) (st : RepSt K cl R H ω) : D.rt v H := o R v H (Step.refl _ _) r st
end
def JS (cl : Cl) (X : Cx) (W : WX) (st : Stmt) (g : GS) : Prop := ∃ t, PS X st t ∧ FrS X.K cl W t g
def JSs (cl : Cl) (X : Cx) (W : WX) (st : List Stmt) (g : GS) : Prop := ∃ t, PSs X st t ∧ FrS X.K cl W t g
def sSeq (g h : GS) : GS := fun ρ ω => match g ρ ω with
  | .next ρ ω => h ρ ω
  | r => r
def sNext : GS := fun ρ ω => .next ρ ω
def sExpr (g : GE) : GS := fun ρ ω => (g ρ ω).then ρ fun _ ω => .next ρ ω
def sRet (g : GE) : GS := fun ρ ω => (g ρ ω).then ρ fun d ω => .ret d ω
def sRetN : GS := fun _ ω => .ret .non ω
def sIf (c : GT) (g h : GS) : GS := fun ρ ω => (c ρ ω).then ρ fun k ω => if k then g ρ ω else h ρ ω
def sBreak : GS := fun ρ ω => .brk ρ ω
def sCont : GS := fun ρ ω => .cont ρ ω
section
variable {cl : Cl} {X : Cx} {W : WX} {st : Stmt} {rest a b : List Stmt} {g h : GS} {e c : Expr} {ge : GE} {gt : GT} {ga : GA} {pos : Pos}
theorem jss_nil : JSs cl X W [] sNext := ⟨_, pss_nil, fun R σ H ρ ω D he hs o => o.nx he hs⟩
theorem jss_one (h : JS cl X W st g) : JSs cl X W [st] g := let ⟨_, p, q⟩ := h; ⟨_, pss_one p, q⟩
theorem jss_cons (h1 : JS cl X W st g) (h2 : JSs cl X W rest h) : JSs cl X W (st :: rest) (sSeq g h) := let ⟨_, p, q⟩ := h1; let ⟨_, p', q'⟩ := h2; ⟨_, pss_cons p p', fun R σ H ρ ω D he hs o => by
  refine q R σ H ρ ω _ he hs ?_
  unfold sSeq at o
  cases e : g ρ ω with
  | next ρ' ω' => rw [e] at o; exact fun R' σ' H' s he' st' => q' R' σ' H' ρ' ω' D he' st' (o.step s)
  | ret d ω' => rw [e] at o; exact o
  | brk ρ' ω' => rw [e] at o; exact o
  | cont ρ' ω' => rw [e] at o; exact o
  | exc x ρ' ω' => rw [e] at o; exact o
  | bad => rw [e] at o; exact o⟩
theorem js_expr (h : JE cl X W e ge) (hs : swapsWith e none pos.line X.env = pure false := by rfl) : JS cl X W (.Expr e pos) (sExpr ge) := let ⟨_, p, q⟩ := h; ⟨_, ps_expr p hs, fun R σ H ρ ω D he hs o =>
  q.seqS he hs o fun R1 x H1 d ω1 s1 r1 st1 he1 o1 => o1.nx he1 st1⟩
theorem js_ret (h : JE cl X W e ge) : JS cl X W (.Return (some e) pos) (sRet ge) := let ⟨_, p, q⟩ := h; ⟨_, ps_ret p, fun R σ H ρ ω D he hs o =>
  q.seqS he hs o fun R1 x H1 d ω1 s1 r1 st1 he1 o1 => o1.rt r1 st1⟩
theorem js_retN : JS cl X W (.Return none pos) sRetN := ⟨_, ps_retN, fun R σ H ρ ω D he hs o => o.rt .non hs⟩
theorem js_pass : JS cl X W (.Pass pos) sNext := ⟨_, ps_pass, fun R σ H ρ ω D he hs o => o.nx he hs⟩
theorem js_doc {x j pos pos'} : JS cl X W (.Expr (.Constant (.str x) j pos) pos') sNext := ⟨_, ps_doc, fun R σ H ρ ω D he hs o => o.nx he hs⟩
theorem js_break : JS cl X W (.Break pos) sBreak := ⟨_, ps_break, fun R σ H ρ ω D he hs o => o R σ H (Step.refl _ _) he hs⟩
theorem js_cont : JS cl X W (.Continue pos) sCont := ⟨_, ps_continue, fun R σ H ρ ω D he hs o => o R σ H (Step.refl _ _) he hs⟩
theorem js_if (hc : JT cl X W c gt) (ha : JSs cl X W a g) (hb : JSs cl X W b h) : JS cl X W (.If c a b pos) (sIf gt g h) := let ⟨_, p, q⟩ := hc; let ⟨_, p', q'⟩ := ha; let ⟨_, p2, q2⟩ := hb; ⟨_, ps_if p p' p2, fun R σ H ρ ω D he hs o =>
  q.seqS he hs o fun R1 k H1 k' ω1 s1 r1 st1 he1 o1 => by
    have r1 : k = k' := r1
    subst r1
    cases k with
    | true => exact iteT (q' R1 σ H1 ρ ω1 D he1 st1 o1)
    | false => exact iteF (q2 R1 σ H1 ρ ω1 D he1 st1 o1)⟩
/-! ### targets -/
abbrev GG := Dv → DEnv → Option DEnv
def FrG (K : PySem.W.Frag) (cl : Cl) (t : TG) (g : GG) : Prop := ∀ R σ H ρ v d ρ' Q, RepEnv K cl R H σ ρ → Rep K cl R H v d → g d ρ = some ρ' → (∀ σ', RepEnv K cl R H σ' ρ' → Q σ' H) → t v σ H Q
def JG (cl : Cl) (X : Cx) (tg : Expr) (g : GG) : Prop := ∃ t, PG X tg t ∧ FrG X.K cl t g
def tName (i : Nat) : GG := fun d ρ => some (ρ.set i (some d))
theorem fr_name {K : PySem.W.Frag} (i : Nat) : FrG K cl (gName i) (tName i) := fun R σ H ρ v d ρ' Q he r e q => by
  cases e
  exact q _ (he.set r i)
theorem jg_name {i : Nat} {x : Str} (hN : X.N.Nodup) (hi : X.N[i]? = some x) (hx : Loc X.env.scope x) (hf : X.fn x = true ∨ X.env.scope.names.lookup x = some .local := by first | exact .inl rfl | exact .inr rfl | assumption) : JG cl X (.Name x pos) (tName i) := ⟨_, pg_name hN hi hx hf, fr_name i⟩
abbrev GGs := List Dv → DEnv → Option DEnv
def FrGs (K : PySem.W.Frag) (cl : Cl) (t : TGs) (g : GGs) : Prop := ∀ R σ H ρ vs ds ρ' Q, RepEnv K cl R H σ ρ → RepAll K cl R H vs ds → g ds ρ = some ρ' → (∀ σ', RepEnv K cl R H σ' ρ' → Q σ' H) → t vs σ H Q
def JGs (cl : Cl) (X : Cx) (tgs : List Expr) (n : Nat) (g : GGs) : Prop := ∃ t, PGs X tgs t ∧ FrGs X.K cl t g
def tsNil : GGs := fun ds ρ => match ds with
  | [] => some ρ
  | _ => none
def tsCons (g : GG) (h : GGs) : GGs := fun ds ρ => match ds with
  | d :: ds => (g d ρ).bind fun ρ => h ds ρ
  | [] => none
theorem jgs_nil : JGs cl X [] 0 tsNil := ⟨_, pgs_nil, fun R σ H ρ vs ds ρ' Q he r e q => by
  unfold tsNil at e
  split at e
  · cases e; cases r; exact ⟨rfl, q _ he⟩
  · cases e⟩
theorem jgs_cons {e : Expr} {es : List Expr} {n : Nat} {g : GG} {h : GGs} (h1 : JG cl X e g) (h2 : JGs cl X es n h) (hs : (assignEach (e :: es) X.env).map (·.2) = assign e X.env :: (assignEach es X.env).map (·.2) := by rfl) : JGs cl X (e :: es) (n + 1) (tsCons g h) :=
  let ⟨_, p, q⟩ := h1; let ⟨_, p', q'⟩ := h2; ⟨_, pgs_cons p p' hs, fun R σ H ρ vs ds ρ' Q he r e k => by
  unfold tsCons at e
  split at e
  · obtain ⟨ρ1, e1, e2⟩ := Option.bind_eq_some_iff.mp e
    cases r with
    | cons a r => exact ⟨_, _, rfl, q R σ H ρ _ _ ρ1 _ he a e1 fun σ' he' => q' R σ' H ρ1 _ _ ρ' Q he' r e2 k⟩
  · cases e⟩
def tTuple (n : Nat) (g : GGs) : GG := fun d ρ => match d with
  | .tup l => if l.length = n then g l ρ else none
  | _ => none
theorem jg_tup {es : List Expr} {k : Nat} {g : GGs} {n : Nat} (hc : X.calm = true) (h : JGs cl X es n g) (hn : (assignEach es X.env).length = n := by rfl) (hst : (assignEach es X.env).findIdx? (·.1) = none := by rfl) : JG cl X (.Tuple es k pos) (tTuple n g) :=
  let ⟨_, p, q⟩ := h; ⟨_, pg_tup hc p hn hst, fun R σ H ρ v d ρ' Q he r e k => by
  unfold tTuple at e
  split at e
  · split at e
    · rename_i hl
      cases r with
      | tup h1 h2 => exact ⟨_, _, rfl, h1.sq, by rw [h2.length]; exact hl, q R σ H ρ _ _ ρ' Q he h2 e k⟩
    · cases e
  · cases e⟩
def sAsg (g : GE) (t : GG) : GS := fun ρ ω => (g ρ ω).then ρ fun d ω => match t d ρ with
  | some ρ' => .next ρ' ω
  | none => .bad
theorem fr_asg {K : PySem.W.Frag} {te : TE} {tg : TG} {gg : GG} (h : Fr K cl W rV te ge) (h' : FrG K cl tg gg) : FrS K cl W (tAsg te tg) (sAsg ge gg) := fun R σ H ρ ω D he hs o =>
  h.seqS he hs o fun R1 x H1 d ω1 s1 r1 st1 he1 o1 => by
    split at o1
    · rename_i ρ' e
      exact h' R1 σ H1 ρ x d ρ' D.nx he1 r1 e fun σ' he' => o1.nx he' st1
    · exact o1.elim
theorem js_asg {tg : Expr} {gg : GG} (h : JE cl X W e ge) (h' : JG cl X tg gg) (hs : swapsWithSole [tg] e pos.line X.env = pure false := by rfl) (hw : swappedStores [tg] e X.env = pure none := by rfl)
    (ha : (assignEach [tg] X.env).map (·.2) = [assign tg X.env] := by rfl) : JS cl X W (.Assign [tg] e pos) (sAsg ge gg) := let ⟨_, p, q⟩ := h; let ⟨_, p', q'⟩ := h'; ⟨_, ps_asg p p' hs hw ha, fr_asg q q'⟩
abbrev sSet (i : Nat) (g : GE) : GS := sAsg g (tName i)
theorem js_set {i : Nat} {x : Str} {pos' : Pos} (hN : X.N.Nodup) (hi : X.N[i]? = some x) (hx : Loc X.env.scope x) (h : JE cl X W e ge) (hs : swapsWith e (some (.Name x pos')) pos.line X.env = pure false := by rfl) (hf : X.fn x = true ∨ X.env.scope.names.lookup x = some .local := by first | exact .inl rfl | exact .inr rfl | assumption) :
    JS cl X W (.Assign [.Name x pos'] e pos) (sSet i ge) := let ⟨_, p, q⟩ := h; ⟨_, ps_set hN hi hx p hs hf, fr_asg q (fr_name i)⟩
def sPar (i j : Nat) (g : GA) : GS := fun ρ ω => (g ρ ω).then ρ fun ds ω => match ds with
  | [d, e] => .next ((ρ.set i (some d)).set j (some e)) ω
  | _ => .bad
theorem js_par {i j : Nat} {x y : Str} {a b : Expr} {px py pt : Pos} {kt k2 pt2} (hc : X.calm = true) (hN : X.N.Nodup) (hi : X.N[i]? = some x) (hj : X.N[j]? = some y) (hij : i ≠ j)
    (hx : X.env.scope.names.lookup x = some .local) (hy : X.env.scope.names.lookup y = some .local) (ha : JA cl X W [a, b] ga)
    (hw : swappedStores [.Tuple [.Name x px, .Name y py] kt pt] (.Tuple [a, b] k2 pt2) X.env = pure (some [x, y]))
    (hs : swapsWithSole [.Tuple [.Name x px, .Name y py] kt pt] (.Tuple [a, b] k2 pt2) pos.line X.env = pure false := by rfl) :
    JS cl X W (.Assign [.Tuple [.Name x px, .Name y py] kt pt] (.Tuple [a, b] k2 pt2) pos) (sPar i j ga) := let ⟨_, p, q⟩ := ha; ⟨_, ps_par hc hN hi hj hij hx hy p hw hs, fun R σ H ρ ω D he hs o =>
  q.seqS he hs o fun R1 vs H1 ds ω1 s1 r1 st1 he1 o1 => by
    split at o1
    · have r1 : RepAll X.K cl R1 H1 vs _ := r1
      cases r1 with
      | cons a r =>
        cases r with
        | cons b r =>
          cases r
          exact ⟨_, _, rfl, o1.nx ((he1.set a i).set b j) st1⟩
    · exact o1.elim⟩
def sPar3 (i j l : Nat) (g : GA) : GS := fun ρ ω => (g ρ ω).then ρ fun ds ω => match ds with
  | [d, e, f] => .next (((ρ.set i (some d)).set j (some e)).set l (some f)) ω
  | _ => .bad
theorem js_par3 {i j l : Nat} {x y z : Str} {a b c : Expr} {px py pz pt pos : Pos} {kt k2 pt2} (hc : X.calm = true) (hN : X.N.Nodup) (hi : X.N[i]? = some x) (hj : X.N[j]? = some y) (hl : X.N[l]? = some z) (hij : i ≠ j) (hil : i ≠ l) (hjl : j ≠ l)
    (hx : X.env.scope.names.lookup x = some .local) (hy : X.env.scope.names.lookup y = some .local) (hz : X.env.scope.names.lookup z = some .local) (ha : JA cl X W [a, b, c] ga)
    (hw : swappedStores [.Tuple [.Name x px, .Name y py, .Name z pz] kt pt] (.Tuple [a, b, c] k2 pt2) X.env = pure (some [x, y, z]))
    (hs : swapsWithSole [.Tuple [.Name x px, .Name y py, .Name z pz] kt pt] (.Tuple [a, b, c] k2 pt2) pos.line X.env = pure false := by rfl) :
    JS cl X W (.Assign [.Tuple [.Name x px, .Name y py, .Name z pz] kt pt] (.Tuple [a, b, c] k2 pt2) pos) (sPar3 i j l ga) := let ⟨_, p, q⟩ := ha; ⟨_, ps_par3 hc hN hi hj hl hij hil hjl hx hy hz p hw hs, fun R σ H ρ ω D he hs o =>
  q.seqS he hs o fun R1 vs H1 ds ω1 s1 r1 st1 he1 o1 => by
    split at o1
    · have r1 : RepAll X.K cl R1 H1 vs _ := r1
      cases r1 with
      | cons a r =>
        cases r with
        | cons b r =>
          cases r with
          | cons c r =>
            cases r
            exact ⟨_, _, _, rfl, o1.nx (((he1.set a i).set b j).set c l) st1⟩
    · exact o1.elim⟩
/-- x += e, x -= e: ints -/
def sAug (i : Nat) (f : Int → Int → Int) (g : GE) : GS := fun ρ ω => match ρ[i]? with
  | some (some (.int x)) => (g ρ ω).then ρ fun d ω => match d with
    | .int y => .next (ρ.set i (some (.int (f x y)))) ω
    | _ => .bad
  | _ => .bad
theorem js_aug {i : Nat} {x : Str} {op : Operator} {f : Int → Int → Int} {pos' : Pos} (hN : X.N.Nodup) (hi : X.N[i]? = some x) (hx : Loc X.env.scope x) (h : JE cl X W e ge) (ho : PIp X op (ipI f)) (hf : X.fn x = true ∨ X.env.scope.names.lookup x = some .local := by first | exact .inl rfl | exact .inr rfl | assumption) :
    JS cl X W (.AugAssign (.Name x pos') op e pos) (sAug i f ge) := let ⟨_, p, q⟩ := h; ⟨_, ps_aug hN hi hx p ho hf, fun R σ H ρ ω D he hs o => by
  unfold sAug at o
  split at o
  · rename_i z hz
    obtain ⟨v, h1, h2⟩ := he.get hz
    cases h2
    refine ⟨_, h1, q.seqS he hs o fun R1 x H1 d ω1 s1 r1 st1 he1 o1 => ?_⟩
    split at o1
    · cases r1
      exact ⟨_, _, rfl, rfl, o1.nx (he1.set (.int _) i) st1⟩
    · exact o1.elim
  · exact o.elim⟩
/-! ### what is walked -/
def WalkD (K : PySem.W.Frag) (cl : Cl) (R0 : Rc) (H0 : Hp) (J : It) (ds : List Dv) : Prop := ∀ R H ω, Step R0 H0 R H → RepSt K cl R H ω →
  (∀ i, i < ds.length → J.go i H ∧ ∀ x H', J.yld i H x H' → Same H H' ∧ ∃ d, ds[i]? = some d ∧ Rep K cl R H' x d) ∧ J.stop ds.length H
def FrI (K : PySem.W.Frag) (cl : Cl) (W : WX) (t : TI) (g : GA) : Prop := ∀ R σ H ρ ω (Q : It → Hp → Prop), RepEnv K cl R H σ ρ → RepSt K cl R H ω →
  (match g ρ ω with
  | .ok ds ω' => ∀ R' J H', Step R H R' H' → WalkD K cl R' H' J ds → RepSt K cl R' H' ω' → Q J H'
  | .exc e ω' => ∀ R' c dd H', Step R H R' H' → ExcAt K cl R' H' c dd e → RepSt K cl R' H' ω' → W c dd σ H'
  | .bad => False) → t σ H Q
def JI (cl : Cl) (X : Cx) (W : WX) (tg e : Expr) (g : GA) : Prop := ∃ t, PI X tg e t ∧ FrI X.K cl W t g
def loopD (t : GG) (gb : GS) : List Dv → DEnv → Store → SRes
  | [], ρ, ω => .next ρ ω
  | d :: ds, ρ, ω => match t d ρ with
    | none => .bad
    | some ρ => match gb ρ ω with
      | .next ρ ω => loopD t gb ds ρ ω
      | .cont ρ ω => loopD t gb ds ρ ω
      | .brk ρ ω => .next ρ ω
      | r => r
def sFor (gi : GA) (t : GG) (gb : GS) : GS := fun ρ ω => (gi ρ ω).then ρ fun ds ω => loopD t gb ds ρ ω
theorem fr_for {K : PySem.W.Frag} {ti : TI} {tg : TG} {tb : TS} {gi : GA} {t : GG} {gb : GS} (hi : FrI K cl W ti gi) (hg : FrG K cl tg t) (hb : FrS K cl W tb gb) : FrS K cl W (tFor ti tg tb) (sFor gi t gb) := fun R σ H ρ ω D he hs o => by
  refine hi R σ H ρ ω _ he hs ?_
  unfold sFor at o
  cases e : gi ρ ω with
  | bad => rw [e] at o; exact o
  | exc x ω' => rw [e] at o; exact fun R' c dd H' s ea st => o R' σ c dd H' s (he.step s) ea st
  | ok ds ω' =>
    rw [e] at o
    intro R' J H' s wk st
    have o : OutS K cl W R' H' (loopD t gb ds ρ ω') D := OutS.step s o
    refine ⟨fun i m σ H1 => i + m = ds.length ∧ ∃ R1 ρ1 ω1, Step R' H' R1 H1 ∧ RepEnv K cl R1 H1 σ ρ1 ∧ RepSt K cl R1 H1 ω1 ∧ OutS K cl W R1 H1 (loopD t gb (ds.drop i) ρ1 ω1) D, ⟨ds.length, Nat.zero_add _, R', ρ, ω', Step.refl _ _, he.step s, st, o⟩, ?_⟩
    rintro i m σ1 H1 ⟨hl, R1, ρ1, ω1, s1, he1, st1, o1⟩
    obtain ⟨w1, w2⟩ := wk R1 H1 ω1 s1 st1
    by_cases hi : i < ds.length
    · obtain ⟨w3, w4⟩ := w1 i hi
      refine .inr ⟨w3, fun σ2 H2 => ∃ R2 ρ2 ω2, Step R' H' R2 H2 ∧ RepEnv K cl R2 H2 σ2 ρ2 ∧ RepSt K cl R2 H2 ω2 ∧ OutS K cl W R2 H2 (loopD t gb (ds.drop (i + 1)) ρ2 ω2) D, fun σ2 H2 n2 => ⟨m - 1, by omega, by omega, n2⟩, fun x H2 y => ?_⟩
      obtain ⟨sm, d, hd, rx⟩ := w4 x H2 y
      have hdr : ds.drop i = d :: ds.drop (i + 1) := by
        obtain ⟨h, e⟩ := List.getElem?_eq_some_iff.mp hd
        rw [← e, List.drop_eq_getElem_cons h]
      rw [hdr] at o1
      have s2 : Step R1 H1 R1 H2 := Step.same sm
      unfold loopD at o1
      split at o1
      · exact o1.elim
      · rename_i ρ2 hρ
        refine hg R1 σ1 H2 ρ1 x d ρ2 _ (he1.step s2) rx hρ fun σ' he' => ?_
        refine hb R1 σ' H2 ρ2 ω1 _ he' (st1.same sm) ?_
        have o1 := o1.step s2
        cases eg : gb ρ2 ω1 with
        | next ρ3 ω3 => rw [eg] at o1; exact fun R3 σ3 H3 s3 he3 st3 => ⟨R3, _, _, (s1.trans s2).trans s3, he3, st3, o1.step s3⟩
        | cont ρ3 ω3 => rw [eg] at o1; exact fun R3 σ3 H3 s3 he3 st3 => ⟨R3, _, _, (s1.trans s2).trans s3, he3, st3, o1.step s3⟩
        | brk ρ3 ω3 => rw [eg] at o1; exact o1
        | ret d3 ω3 => rw [eg] at o1; exact o1
        | exc x3 ρ3 ω3 => rw [eg] at o1; exact o1
        | bad => rw [eg] at o1; exact o1
    · obtain rfl : i = ds.length := by omega
      rw [List.drop_length] at o1
      exact .inl ⟨w2, OutS.nx o1 he1 st1⟩
end
end Mine
namespace Mine
open PySem PySem.Spec PyProof.Rows L2
/-! ### walkers -/
section
variable {K : PySem.W.Frag} {cl : Cl} {W : WX}
theorem walkD_of {R0 : Rc} {H0 : Hp} {J : It} {ds : List Dv} {n : Nat} {G : Hp → Prop} {Y : Nat → Hp → V → Hp → Prop} (hn : n = ds.length) (w : Walk J n G Y) (hG : ∀ R H, Step R0 H0 R H → G H)
    (hY : ∀ R H ω i x H', Step R0 H0 R H → RepSt K cl R H ω → i < ds.length → Y i H x H' → Same H H' ∧ ∃ d, ds[i]? = some d ∧ Rep K cl R H' x d) : WalkD K cl R0 H0 J ds := fun R H ω s st => by
  subst hn
  exact ⟨fun i hi => ⟨w.goes i H hi (hG R H s), fun x H' y => hY R H ω i x H' s st hi (w.yields i H x H' hi (hG R H s) y)⟩, w.stops H (hG R H s)⟩
theorem rep_at {R : Rc} {H : Hp} {xs : List V} {ds : List Dv} {i : Nat} {x : V} (r : RepAll K cl R H xs ds) (e : xs[i]? = some x) : ∃ d, ds[i]? = some d ∧ Rep K cl R H x d := r.get e
theorem walkD_list {R0 : Rc} {H0 : Hp} {a : Addr} {xs : List V} {ds : List Dv} (h : FL R0 H0 a xs) (r : RepAll K cl R0 H0 xs ds) : WalkD K cl R0 H0 (Itl K a) ds :=
  walkD_of r.length (walk_list (K := K) (a := a) (xs := xs)) (fun R H s => (h.step s).sq) fun R H ω i x H' s st hi y => by
    obtain ⟨rfl, e⟩ := y
    exact ⟨Same.refl _, (r.step s).get e⟩
theorem walkD_tup {R0 : Rc} {H0 : Hp} {a : Addr} {xs : List V} {ds : List Dv} (h : FT K R0 H0 a xs) (r : RepAll K cl R0 H0 xs ds) : WalkD K cl R0 H0 (Itt K a) ds :=
  walkD_of r.length (walk_tup (K := K) (a := a) (xs := xs)) (fun R H s => (h.step s).sq) fun R H ω i x H' s st hi y => by
    obtain ⟨rfl, e⟩ := y
    exact ⟨Same.refl _, (r.step s).get e⟩
def signsD (s : Str) : List Dv := s.cps.toList.map fun c => .str ⟨#[c]⟩
theorem walkD_str {R0 : Rc} {H0 : Hp} {z : Str} : WalkD K cl R0 H0 (Its z) (signsD z) :=
  walkD_of (by unfold signsD; rw [List.length_map, Array.length_toList]) walk_str (fun _ _ _ => trivial) fun R H ω i x H' s st hi y => by
    obtain ⟨rfl, c, e, rfl⟩ := y
    refine ⟨Same.refl _, .str ⟨#[c]⟩, ?_, .str _⟩
    unfold signsD
    rw [List.getElem?_map, Array.getElem?_toList, e]
    rfl
/-- a list, a tuple, a text -/
def iAny (g : GE) : GA := fun ρ ω => (g ρ ω).bind fun d ω => match d with
  | .lst l => .ok l ω
  | .tup l => .ok l ω
  | .str s => .ok (signsD s) ω
  | _ => .bad
theorem pi_or {X : Cx} {tg e : Expr} {w1 w2 : TI} (h1 : PI X tg e w1) (h2 : PI X tg e w2) : PI X tg e (fun σ H R => w1 σ H R ∨ w2 σ H R) := ⟨fun pins s σ H R I h => h.elim (h1.run pins s σ H R I) (h2.run pins s σ H R I)⟩
theorem ji_any {X : Cx} {tg e : Expr} {ge : GE} (h : JE cl X W e ge) : JI cl X W tg e (iAny ge) := by
  obtain ⟨t, p, q⟩ := h
  refine ⟨_, pi_or (pi_list p) (pi_or (pi_tup p) (pi_str p)), fun R σ H ρ ω Q he hs o => ?_⟩
  unfold iAny at o
  cases e : ge ρ ω with
  | bad => rw [e] at o; exact o.elim
  | exc x ω' =>
    rw [e] at o
    refine .inl (q R σ H ρ ω _ he hs ?_)
    rw [e]
    exact o
  | ok d ω' =>
    rw [e] at o
    simp only [bind_ok] at o
    split at o
    · rename_i l ds w
      split at w <;> first | cases w | skip
      · refine .inl (q R σ H ρ ω _ he hs ?_)
        rw [e]
        intro R' v H' s r st
        cases r with
        | lst h a => exact ⟨_, rfl, ⟨_, h.sq⟩, o R' _ H' s (walkD_list h a) st⟩
      · refine .inr (.inl (q R σ H ρ ω _ he hs ?_))
        rw [e]
        intro R' v H' s r st
        cases r with
        | tup h a => exact ⟨_, rfl, ⟨_, h.sq⟩, o R' _ H' s (walkD_tup h a) st⟩
      · refine .inr (.inr (q R σ H ρ ω _ he hs ?_))
        rw [e]
        intro R' v H' s r st
        cases r
        exact ⟨_, rfl, o R' _ H' s walkD_str st⟩
    · rename_i w
      split at w <;> cases w
    · exact o.elim
/-! range -/
def rangeD (lo : Int) (n : Nat) : List Dv := (List.range n).map fun i => .int (lo + (i : Nat))
theorem walkD_range {R0 : Rc} {H0 : Hp} {lo : Int} {n : Nat} : WalkD K cl R0 H0 (Itr lo n) (rangeD lo n) :=
  walkD_of (by unfold rangeD; rw [List.length_map, List.length_range]) walk_range (fun _ _ _ => trivial) fun R H ω i x H' s st hi y => by
    obtain ⟨rfl, rfl⟩ := y
    refine ⟨Same.refl _, .int (lo + (i : Nat)), ?_, .int _⟩
    unfold rangeD at hi ⊢
    rw [List.length_map, List.length_range] at hi
    rw [List.getElem?_map, List.getElem?_range hi]
    rfl
def iRange1 (g : GA) : GA := fun ρ ω => (g ρ ω).bind fun ds ω => match ds with
  | [.int j] => if -(2 ^ 62) ≤ j ∧ j < 2 ^ 62 then .ok (rangeD 0 j.toNat) ω else .bad
  | _ => .bad
def iRange2 (g : GA) : GA := fun ρ ω => (g ρ ω).bind fun ds ω => match ds with
  | [.int i, .int j] => if (-(2 ^ 62) ≤ i ∧ i < 2 ^ 62) ∧ -(2 ^ 62) ≤ j ∧ j < 2 ^ 62 then .ok (rangeD i (j - i).toNat) ω else .bad
  | _ => .bad
/-- from arguments to a walk -/
theorem fr_iargs {ta : TA} {ga : GA} {k : List Dv → Store → Res (List Dv)} {t : TI} {kt : List V → Hp → (It → Hp → Prop) → Prop} (ht : t = fun σ H R => ta σ H fun vs H1 => kt vs H1 R) (q : Fr K cl W rVs ta ga)
    (h : ∀ R σ H ω vs ds (Q : It → Hp → Prop), RepAll K cl R H vs ds → RepSt K cl R H ω → (match k ds ω with
      | .ok ds ω' => ∀ R' J H', Step R H R' H' → WalkD K cl R' H' J ds → RepSt K cl R' H' ω' → Q J H'
      | .exc e ω' => ∀ R' c dd H', Step R H R' H' → ExcAt K cl R' H' c dd e → RepSt K cl R' H' ω' → W c dd σ H'
      | .bad => False) → kt vs H Q) : FrI K cl W t (fun ρ ω => (ga ρ ω).bind k) := fun R σ H ρ ω Q he hs o => by
  subst ht
  refine q R σ H ρ ω _ he hs ?_
  dsimp only at o
  cases e : ga ρ ω with
  | bad => rw [e] at o; exact o.elim
  | exc x ω' => rw [e] at o; exact o
  | ok ds ω' =>
    rw [e] at o
    intro R' vs H' s r st
    refine h R' σ H' ω' vs ds Q r st ?_
    simp only [bind_ok] at o
    cases e2 : k ds ω' with
    | bad => rw [e2] at o; exact o
    | exc x ω2 => rw [e2] at o; exact fun R2 c dd H2 s2 => o R2 c dd H2 (s.trans s2)
    | ok ds2 ω2 => rw [e2] at o; exact fun R2 J H2 s2 => o R2 J H2 (s.trans s2)
theorem ji_range1 {X : Cx} {tg a : Expr} {ga : GA} {p pos : Pos} (hg : Gl X "range") (hm : X.mg "range" = none) (ha : JA cl X W [a] ga) (hs : starEach [a] X.env = [(false, eval a X.env)] := by rfl) : JI cl X W tg (.Call (.Name "range" p) [a] [] pos) (iRange1 ga) := by
  obtain ⟨t, p, q⟩ := ha
  refine ⟨_, pi_range1 hg hm p hs, fr_iargs rfl q fun R σ H ω vs ds Q r st o => ?_⟩
  split at o
  · rename_i e
    split at e
    · split at e
      · rename_i hb
        cases e
        cases r with
        | cons a r =>
          cases r; cases a
          exact ⟨_, rfl, hb.1, hb.2, o R _ H (Step.refl _ _) walkD_range st⟩
      · cases e
    · cases e
  · rename_i e
    split at e
    · split at e <;> cases e
    · cases e
  · exact o.elim
theorem ji_range2 {X : Cx} {tg a b : Expr} {ga : GA} {p pos : Pos} (hg : Gl X "range") (hm : X.mg "range" = none) (ha : JA cl X W [a, b] ga) (hs : starEach [a, b] X.env = [(false, eval a X.env), (false, eval b X.env)] := by rfl) (hs2 : starEach [b] X.env = [(false, eval b X.env)] := by rfl) :
    JI cl X W tg (.Call (.Name "range" p) [a, b] [] pos) (iRange2 ga) := by
  obtain ⟨t, p, q⟩ := ha
  refine ⟨_, pi_range2 hg hm p hs hs2, fr_iargs rfl q fun R σ H ω vs ds Q r st o => ?_⟩
  split at o
  · rename_i e
    split at e
    · split at e
      · rename_i hb
        cases e
        cases r with
        | cons a r =>
          cases r with
          | cons b r =>
            cases r; cases a; cases b
            exact ⟨_, _, rfl, ⟨hb.1.1, hb.1.2, hb.2.1, hb.2.2⟩, o R _ H (Step.refl _ _) walkD_range st⟩
      · cases e
    · cases e
  · rename_i e
    split at e
    · split at e <;> cases e
    · cases e
  · exact o.elim
/-! enumerate, zip -/
theorem pair_rep {R : Rc} {H : Hp} {ω : Store} {T : Addr} {x y : V} {d e : Dv} (st : RepSt K cl R H ω) (nT : H T = none) (rx : Rep K cl R H x d) (ry : Rep K cl R H y e) : Rep K cl R (upd H T (.tup [x, y])) (.ref T) (.tup [d, e]) := rep_newT st nT (.cons rx (.cons ry .nil))
def enumD (l : List Dv) : List Dv := l.zipIdx.map fun p => .tup [.int (p.2 : Nat), p.1]
def zipD (l m : List Dv) : List Dv := (l.zip m).map fun p => .tup [p.1, p.2]
def iEnumD (g : GA) : GA := fun ρ ω => (g ρ ω).bind fun ds ω => match ds with
  | [.lst l] => .ok (enumD l) ω
  | _ => .bad
def iZipD (g : GA) : GA := fun ρ ω => (g ρ ω).bind fun ds ω => match ds with
  | [.lst l, .lst m] => .ok (zipD l m) ω
  | [.tup l, .tup m] => .ok (zipD l m) ω
  | _ => .bad
theorem ji_enum {X : Cx} {e : Expr} {ga : GA} {p pos tpos : Pos} {elts : List Expr} {kk : Nat} (hg : Gl X "enumerate") (hm : X.mg "enumerate" = none) (ha : JA cl X W [e] ga) (hs : starEach [e] X.env = [(false, eval e X.env)] := by rfl) :
    JI cl X W (.Tuple elts kk tpos) (.Call (.Name "enumerate" p) [e] [] pos) (iEnumD ga) := by
  obtain ⟨t, p, q⟩ := ha
  refine ⟨_, pi_enum hg hm p hs, fr_iargs rfl q fun R σ H ω vs ds Q r st o => ?_⟩
  split at o
  · rename_i e
    split at e
    · cases e
      cases r with
      | cons a r =>
        cases r
        cases a with
        | lst h a =>
          refine ⟨_, _, rfl, h.sq, o R _ H (Step.refl _ _) ?_ st⟩
          refine walkD_of (by unfold enumD; rw [List.length_map, List.length_zipIdx, a.length]) walk_enum (fun R' H' s => (h.step s).sq) fun R' H' ω' i x H'' s st' hi y => ?_
          obtain ⟨T, u, v, rfl, nT, rfl, e1, e2⟩ := y
          cases e1
          obtain ⟨d, e3, rd⟩ := (a.step s).get e2
          refine ⟨Same.new nT, .tup [.int (i : Nat), d], ?_, pair_rep st' nT (.int _) rd⟩
          unfold enumD
          rw [List.getElem?_map, List.getElem?_zipIdx, e3]
          simp
    · cases e
  · rename_i e
    split at e <;> cases e
  · exact o.elim
theorem ji_zip {X : Cx} {e e2 : Expr} {ga : GA} {p pos tpos : Pos} {elts : List Expr} {kk : Nat} (hg : Gl X "zip") (hm : X.mg "zip" = none) (ha : JA cl X W [e, e2] ga)
    (hs : starEach [e, e2] X.env = (false, eval e X.env) :: starEach [e2] X.env := by rfl) (hpl : (backTo pos (starEach [e2] X.env)).any (·.1) = false := by rfl) :
    JI cl X W (.Tuple elts kk tpos) (.Call (.Name "zip" p) [e, e2] [] pos) (iZipD ga) := by
  obtain ⟨t, p, q⟩ := ha
  refine ⟨_, RZ.pi_zipA hg hm p hs hpl, fr_iargs rfl q fun R σ H ω vs ds Q r st o => ?_⟩
  have key : ∀ {xs ys : List V} {l m : List Dv} {R' : Rc} {H' : Hp} {ω' : Store} {i : Nat} {x : V} {H'' : Hp}, RepAll X.K cl R' H' xs l → RepAll X.K cl R' H' ys m → RepSt X.K cl R' H' ω' → YPair (fun i => xs[i]?) (fun i => ys[i]?) i H' x H'' → Same H' H'' ∧ ∃ d, (zipD l m)[i]? = some d ∧ Rep X.K cl R' H'' x d := by
    rintro xs ys l m R' H' ω' i x H'' ra rb st' ⟨T, u, v, rfl, nT, rfl, e1, e2⟩
    obtain ⟨d, h1, r1⟩ := ra.get e1
    obtain ⟨d', h2, r2⟩ := rb.get e2
    refine ⟨Same.new nT, .tup [d, d'], ?_, pair_rep st' nT r1 r2⟩
    unfold zipD
    rw [List.getElem?_map, List.getElem?_zip_eq_some (z := (d, d')) |>.mpr ⟨h1, h2⟩]
    rfl
  split at o
  · rename_i e
    split at e
    · cases e
      cases r with
      | cons a r =>
        cases r with
        | cons b r =>
          cases r
          cases a with
          | lst h a =>
            cases b with
            | lst h2 b =>
              refine ⟨_, _, _, _, rfl, .inl ⟨h.sq, h2.sq, o R _ H (Step.refl _ _) ?_ st⟩⟩
              exact walkD_of (by unfold zipD; rw [List.length_map, List.length_zip]) (walk_zip (by rw [a.length, b.length])) (fun R' H' s => ⟨(h.step s).sq, (h2.step s).sq⟩) fun R' H' ω' i x H'' s st' hi y => key (a.step s) (b.step s) st' y
    · cases e
      cases r with
      | cons a r =>
        cases r with
        | cons b r =>
          cases r
          cases a with
          | tup h a =>
            cases b with
            | tup h2 b =>
              refine ⟨_, _, _, _, rfl, .inr ⟨h.sq, h2.sq, o R _ H (Step.refl _ _) ?_ st⟩⟩
              exact walkD_of (by unfold zipD; rw [List.length_map, List.length_zip]) (walk_zipT (by rw [a.length, b.length])) (fun R' H' s => ⟨(h.step s).sq, (h2.step s).sq⟩) fun R' H' ω' i x H'' s st' hi y => key (a.step s) (b.step s) st' y
    · cases e
  · rename_i e
    split at e <;> cases e
  · exact o.elim
theorem js_for {X : Cx} {tg iter : Expr} {body : List Stmt} {gi : GA} {t : GG} {gb : GS} {pos : Pos} (hp : PassesOwn (model X.prog X.w) X.A X.env X.xe) (hc : X.calm = true) (hi : JI cl X W tg iter gi) (hg : JG cl X tg t) (hb : JSs cl X W body gb)
    (hs : ∀ x, foldedSetIterable iter X.env x = pure x := by intro _; rfl) : JS cl X W (.For tg iter body [] pos) (sFor gi t gb) :=
  let ⟨_, p, q⟩ := hi; let ⟨_, p', q'⟩ := hg; let ⟨_, p2, q2⟩ := hb; ⟨_, ps_for hp hc p p' p2 hs, fr_for q q' q2⟩
/-! ### while: by a number of turns that is enough -/
def whileD (c : GT) (gb : GS) : Nat → DEnv → Store → SRes
  | 0, _, _ => .bad
  | n + 1, ρ, ω => (c ρ ω).then ρ fun k ω => if k then (match gb ρ ω with
      | .next ρ ω => whileD c gb n ρ ω
      | .cont ρ ω => whileD c gb n ρ ω
      | .brk ρ ω => .next ρ ω
      | r => r) else .next ρ ω
def sWhile (fuel : DEnv → Store → Nat) (c : GT) (gb : GS) : GS := fun ρ ω => whileD c gb (fuel ρ ω) ρ ω
theorem js_while {X : Cx} {c : Expr} {body : List Stmt} {gc : GT} {gb : GS} {pos : Pos} (fuel : DEnv → Store → Nat) (hp : PassesOwn (model X.prog X.w) X.A X.env X.xe) (hc : JT cl X W c gc) (hb : JSs cl X W body gb) : JS cl X W (.While c body [] pos) (sWhile fuel gc gb) := by
  obtain ⟨t, p, q⟩ := hc
  obtain ⟨t', p', q'⟩ := hb
  refine ⟨_, ps_while hp p p', fun R σ H ρ ω D he hs o => ?_⟩
  refine ⟨fun m σ H => ∃ R1 ρ1 ω1, RepEnv X.K cl R1 H σ ρ1 ∧ RepSt X.K cl R1 H ω1 ∧ OutS X.K cl W R1 H (whileD gc gb m ρ1 ω1) D, ⟨fuel ρ ω, R, ρ, ω, he, hs, o⟩, ?_⟩
  rintro m σ1 H1 ⟨R1, ρ1, ω1, he1, st1, o1⟩
  cases m with
  | zero => exact o1.elim
  | succ m =>
    refine q.seqS he1 st1 o1 fun R2 k H2 k' ω2 s2 r2 st2 he2 o2 => ?_
    have r2 : k = k' := r2
    subst r2
    cases k with
    | false => exact iteF (OutS.nx o2 he2 st2)
    | true =>
      refine iteT ⟨fun σ' H' => ∃ R1 ρ1 ω1, RepEnv X.K cl R1 H' σ' ρ1 ∧ RepSt X.K cl R1 H' ω1 ∧ OutS X.K cl W R1 H' (whileD gc gb m ρ1 ω1) D, fun σ' H' n => ⟨m, Nat.lt_succ_self m, n⟩, ?_⟩
      refine q' R2 σ1 H2 ρ1 ω2 _ he2 st2 ?_
      rw [if_pos rfl] at o2
      cases eg : gb ρ1 ω2 with
      | next ρ3 ω3 => rw [eg] at o2; exact fun R3 σ3 H3 s3 he3 st3 => ⟨R3, _, _, he3, st3, OutS.step s3 o2⟩
      | cont ρ3 ω3 => rw [eg] at o2; exact fun R3 σ3 H3 s3 he3 st3 => ⟨R3, _, _, he3, st3, OutS.step s3 o2⟩
      | brk ρ3 ω3 => rw [eg] at o2; exact o2
      | ret d3 ω3 => rw [eg] at o2; exact o2
      | exc x3 ρ3 ω3 => rw [eg] at o2; exact o2
      | bad => rw [eg] at o2; exact o2
end
end Mine
namespace Mine
open PySem PySem.Spec PyProof.Rows L2
/-! ### the canonical reading of what g says -/
section
variable (K : PySem.W.Frag) (cl : Cl) (W : WX)
def tG (g : GE) : TE := fun σ H Q => ∃ R ρ ω, RepEnv K cl R H σ ρ ∧ RepSt K cl R H ω ∧ Out K cl W rV R σ H (g ρ ω) Q
def tGT (g : GT) : TT := fun σ H Q => ∃ R ρ ω, RepEnv K cl R H σ ρ ∧ RepSt K cl R H ω ∧ Out K cl W rB R σ H (g ρ ω) Q
variable {K cl W}
theorem JE.pe {X : Cx} {e : Expr} {g : GE} (h : JE cl X W e g) : PE X e (tG X.K cl W g) := let ⟨_, p, q⟩ := h; ⟨fun pins s σ H Q I ⟨R, ρ, ω, he, hs, o⟩ => p.run pins s σ H Q I (q R σ H ρ ω Q he hs o)⟩
theorem JT.pt {X : Cx} {e : Expr} {g : GT} (h : JT cl X W e g) : PT X e (tGT X.K cl W g) := let ⟨_, p, q⟩ := h; ⟨fun pins s σ H Q I ⟨R, ρ, ω, he, hs, o⟩ => p.run pins s σ H Q I (q R σ H ρ ω Q he hs o)⟩
end
abbrev WF : WX := fun _ _ _ _ => False
/-! ### list comprehensions -/
def wipeD (ρ : DEnv) : List Nat → DEnv
  | [] => ρ
  | v :: vs => (wipeD ρ vs).set v none
def JTs (cl : Cl) (X : Cx) (W : WX) (ifs : List Expr) (g : GT) : Prop := PTs X ifs (tGT X.K cl W g)
def gYes : GT := fun _ ω => .ok true ω
theorem jts_nil {cl : Cl} {X : Cx} {W : WX} : JTs cl X W [] gYes := ⟨fun pins s σ H Q I ⟨R, ρ, ω, he, hs, o⟩ => pts_nil.run pins s σ H Q I (Out.val (rel := rB) o rfl hs)⟩
theorem jts_one {cl : Cl} {X : Cx} {W : WX} {c : Expr} {g : GT} (h : JT cl X W c g) : JTs cl X W [c] g := pts_one h.pt
/-- a target that stores to the slots vs alone -/
def FrGw (K : PySem.W.Frag) (cl : Cl) (vs : List Nat) (t : TG) (g : GG) : Prop := ∀ R σ H ρ v d ρ' Q, RepEnv K cl R H σ ρ → Rep K cl R H v d → g d ρ = some ρ' → (∀ σ', RepEnv K cl R H σ' ρ' → wipe σ' vs = wipe σ vs → Q σ' H) → t v σ H Q
def FrGsw (K : PySem.W.Frag) (cl : Cl) (vs : List Nat) (t : TGs) (g : GGs) : Prop := ∀ R σ H ρ us ds ρ' Q, RepEnv K cl R H σ ρ → RepAll K cl R H us ds → g ds ρ = some ρ' → (∀ σ', RepEnv K cl R H σ' ρ' → wipe σ' vs = wipe σ vs → Q σ' H) → t us σ H Q
theorem wipe_set {σ : L2.St} {i : Nat} {x : Option V} : ∀ {vs : List Nat}, i ∈ vs → wipe (σ.set i x) vs = wipe σ vs
  | v :: vs, h => by
    unfold wipe
    by_cases e : v = i
    · subst e
      have : ∀ vs : List Nat, (wipe (σ.set v x) vs).set v none = (wipe σ vs).set v none := by
        intro vs
        induction vs with
        | nil => show (σ.set v x).set v none = σ.set v none; rw [List.set_set]
        | cons u us ih =>
          unfold wipe
          by_cases e : u = v
          · subst e; rw [List.set_set, List.set_set, ih]
          · rw [List.set_comm _ _ e, List.set_comm _ _ e, ih]
      exact this vs
    · rw [wipe_set ((List.mem_cons.mp h).resolve_left fun z => e z.symm)]
theorem fgw_name {K : PySem.W.Frag} {cl : Cl} {vs : List Nat} (i : Nat) (h : i ∈ vs) : FrGw K cl vs (gName i) (tName i) := fun R σ H ρ v d ρ' Q he r e q => by
  cases e
  exact q _ (he.set r i) (wipe_set h)
theorem fgw_nil {K : PySem.W.Frag} {cl : Cl} {vs : List Nat} : FrGsw K cl vs gNil tsNil := fun R σ H ρ us ds ρ' Q he r e q => by
  unfold tsNil at e
  split at e
  · cases e; cases r; exact ⟨rfl, q _ he rfl⟩
  · cases e
theorem fgw_cons {K : PySem.W.Frag} {cl : Cl} {vs : List Nat} {t : TG} {u : TGs} {g : GG} {h : GGs} (h1 : FrGw K cl vs t g) (h2 : FrGsw K cl vs u h) : FrGsw K cl vs (gCons t u) (tsCons g h) := fun R σ H ρ us ds ρ' Q he r e q => by
  unfold tsCons at e
  split at e
  · obtain ⟨ρ1, e1, e2⟩ := Option.bind_eq_some_iff.mp e
    cases r with
    | cons a r => exact ⟨_, _, rfl, h1 R σ H ρ _ _ ρ1 _ he a e1 fun σ' he' w => h2 R σ' H ρ1 _ _ ρ' Q he' r e2 fun σ2 he2 w2 => q σ2 he2 (w2.trans w)⟩
  · cases e
theorem fgw_tup {K : PySem.W.Frag} {cl : Cl} {vs : List Nat} {u : TGs} {h : GGs} {n : Nat} (h2 : FrGsw K cl vs u h) : FrGw K cl vs (gTup K n u) (tTuple n h) := fun R σ H ρ v d ρ' Q he r e q => by
  unfold tTuple at e
  split at e
  · split at e
    · rename_i hl
      cases r with
      | tup a b => exact ⟨_, _, rfl, a.sq, by rw [b.length]; exact hl, h2 R σ H ρ _ _ ρ' Q he b e q⟩
    · cases e
  · cases e
def lcD (t : GG) (gt : GT) (ge : GE) (ρ0 : DEnv) : List Dv → Store → Res (List Dv)
  | [], ω => .ok [] ω
  | d :: ds, ω => match t d ρ0 with
    | none => .bad
    | some ρ => (gt ρ ω).bind fun k ω => if k then (ge ρ ω).bind fun z ω => (lcD t gt ge ρ0 ds ω).bind fun zs ω => .ok (z :: zs) ω else lcD t gt ge ρ0 ds ω
def eLc (gi : GA) (t : GG) (gt : GT) (ge : GE) (vs : List Nat) : GE := fun ρ ω => (gi ρ ω).bind fun ds ω => match lcD t gt ge (wipeD ρ vs) ds ω with
  | .ok zs ω => if ds.length ≤ sizeLine then .ok (.lst zs) ω else .bad
  | _ => .bad
/-- as R, with D among those that are never met -/
def Rc.but (R : Rc) (D : Addr) : Rc := ⟨fun a => R.fb a ∨ a = D, R.mu, R.nm⟩
def Rc.back (R : Rc) (D : Addr) : Rc := ⟨fun a => R.fb a ∧ a ≠ D, R.mu, R.nm⟩
section
variable {K : PySem.W.Frag} {cl : Cl} {R : Rc} {H : Hp} {ω : Store}
theorem Step.but {D : Addr} {o : HO} (h : H D = none) : Step R H (R.but D) (upd H D o) := by
  have s : Step R H R (upd H D o) := Step.new h
  exact ⟨fun a z => .inl z, fun a z => z.imp id fun z => by subst z; exact nt_none h, s.nm, s.mu, s.keep, s.dom, s.ext⟩
theorem RepSt.but {D : Addr} {o : HO} (h : RepSt K cl R H ω) (n : H D = none) (tf : ∀ ps, o ≠ .tbl ps) : RepSt K cl (R.but D) (upd H D o) ω := by
  have s := Step.but (R := R) (o := o) n
  have k : ∀ a u, H a = some u → upd H D o a = some u := fun a u e => by rw [upd_ne (ne_of_none e n)]; exact e
  refine ⟨h.len, h.inj, fun i c e l => ?_, h.mu, fun a e => ?_, fun a e z => h.nmd a e (s.dom a z), h.tabs.ext (Same.new n)⟩
  · obtain ⟨a, h1, h2, h3⟩ := h.cell i c e l
    exact ⟨a, h1, h2, h3.step s fun o _ q => k a o q⟩
  · rcases e with e | rfl
    · exact ⟨fun z => (h.fbd a e).1 (s.dom a z), (h.fbd a e).2⟩
    · exact ⟨nt_not upd_same tf, fun z => h.mud z (nt_none n)⟩
/-- the object at D is changed, D being one that is never met -/
theorem ext_upd {D : Addr} {o u : HO} (hu : H D = some u) (tf : tabFree u = true) : ∀ a p, H a = some (.ext p) → upd H D o a = some (.ext p) := fun a p e => by
  rw [upd_ne (fun z => by rw [z, hu] at e; cases e; cases tf)]; exact e
theorem On.fb {D : Addr} {o u : HO} (f : R.fb D) (hu : H D = some u) (tf : tabFree u = true) : On R H R (upd H D o) := ⟨fun _ f _ => f, fun a u g _ e => by rw [upd_ne (fun z => g.1 (by rw [z]; exact f))]; exact e, fun _ _ h => h, ext_upd hu tf⟩
theorem RepSt.fb {D : Addr} {o u : HO} (h : RepSt K cl R H ω) (f : R.fb D) (hu : H D = some u) (tf : tabFree u = true) (to : ∀ ps, o ≠ .tbl ps) : RepSt K cl R (upd H D o) ω := by
  have ne : ∀ a, R.mu a → a ≠ D := fun a m z => (h.fbd D f).2 (by rw [← z]; exact m)
  have nn : ∀ a, ¬ Nt H a → ¬ Nt (upd H D o) a := fun a e w => by
    by_cases z : a = D
    · subst z; exact nt_not upd_same to w
    · exact e fun u q => w u (by rw [upd_ne z]; exact q)
  refine ⟨h.len, h.inj, fun i c e l => ?_, h.mu, fun a e => ⟨nn a (h.fbd a e).1, (h.fbd a e).2⟩, fun a e => nn a (h.nmd a e), tabs_upd hu tf h.tabs⟩
  obtain ⟨a, h1, h2, h3⟩ := h.cell i c e l
  exact ⟨a, h1, h2, h3.on (On.fb f hu tf) fun u _ q => by rw [upd_ne (ne a h2)]; exact q⟩
/-- behind: D is met again -/
theorem On.back {D : Addr} : On R H (R.back D) H := ⟨fun a f _ => ⟨fun z => f.1 z.1, f.2⟩, fun _ _ _ _ e => e, fun _ _ h => h, fun _ _ h => h⟩
theorem RepSt.back {D : Addr} (h : RepSt K cl R H ω) : RepSt K cl (R.back D) H ω := ⟨h.len, h.inj, fun i c e l => (let ⟨a, h1, h2, h3⟩ := h.cell i c e l; ⟨a, h1, h2, h3.on On.back fun _ _ q => q⟩), h.mu, fun a e => h.fbd a e.1, h.nmd, h.tabs⟩
end
theorem wipe_rep {K : PySem.W.Frag} {cl : Cl} {R : Rc} {H : Hp} {σ : L2.St} {ρ : DEnv} (h : RepEnv K cl R H σ ρ) : ∀ vs : List Nat, RepEnv K cl R H (wipe σ vs) (wipeD ρ vs)
  | [] => h
  | v :: vs => (wipe_rep h vs).clear v
theorem wipe_wipe {σ : L2.St} (vs : List Nat) : wipe (wipe σ vs) vs = wipe σ vs := by
  have : ∀ us : List Nat, (∀ u ∈ us, u ∈ vs) → wipe (wipe σ us) vs = wipe σ vs := by
    intro us
    induction us with
    | nil => intro _; rfl
    | cons u us ih =>
      intro h
      show wipe ((wipe σ us).set u none) vs = _
      rw [wipe_set (h u List.mem_cons_self)]
      exact ih fun x hx => h x (List.mem_cons_of_mem _ hx)
  exact this vs fun _ h => h
theorem Step.updD {R R' : Rc} {H H' : Hp} {D : Addr} {o u u' : HO} (s : Step R H R' H') (h : H D = some u) (h' : H' D = some u') (f : tabFree u' = true) (fo : tabFree o = true) (fu : tabFree u = true) : Step R (upd H D o) R' (upd H' D o) := by
  have c : ∀ a, Nt H a → Nt (upd H D o) a := fun a z v q => by
    by_cases e : a = D
    · subst e
      obtain ⟨ps, w⟩ := z u h
      subst w
      cases fu
    · rw [upd_ne e] at q; exact z v q
  refine ⟨s.fb, fun a z => (s.fn a z).imp id (c a), s.nm, fun a z => (s.mu a z).imp id (c a), fun a x n nt q => ?_, fun a z => ?_, fun a p q => ?_⟩
  · by_cases e : a = D
    · rw [e, upd_same] at q ⊢; exact q
    · rw [upd_ne e] at q ⊢; exact s.keep a x n nt q
  · intro v q
    by_cases e : a = D
    · subst e
      rw [upd_same] at q
      cases q
      exact z _ upd_same
    · rw [upd_ne e] at q
      exact s.dom a (fun v' q' => z v' (by rw [upd_ne e]; exact q')) v q
  · by_cases e : a = D
    · rw [e, upd_same] at q ⊢; exact q
    · rw [upd_ne e] at q ⊢; exact s.ext a p q
theorem bind_ok_inv {α β : Type} {r : Res α} {f : α → Store → Res β} {b : β} {w : Store} (h : r.bind f = .ok b w) : ∃ a w', r = .ok a w' ∧ f a w' = .ok b w := by
  cases r with
  | ok a w' => exact ⟨a, w', rfl, h⟩
  | exc e w' => cases h
  | bad => cases h
theorem fr_lc {K : PySem.W.Frag} {cl : Cl} {W : WX} {wi : TI} {tg : TG} {gi : GA} {t : GG} {gt : GT} {ge : GE} {vs : List Nat} (hi : FrI K cl W wi gi) (hg : FrGw K cl vs tg t) :
    Fr K cl W rV (tLc wi tg (tGT K cl WF gt) (tG K cl WF ge) vs) (eLc gi t gt ge vs) := fun R σ H ρ ω Q he hs o => by
  refine hi R σ H ρ ω _ he hs ?_
  unfold eLc at o
  cases e : gi ρ ω with
  | bad => rw [e] at o; exact o.elim
  | exc x ω' => rw [e] at o; exact o
  | ok ds ω' =>
    rw [e] at o
    simp only [bind_ok] at o
    split at o
    case h_2 => exact o.elim
    rename_i zs ωf elc
    split at o
    case isFalse => exact o.elim
    rename_i hsz
    intro R' J H' s wk st D nD
    have he' := he.step s
    have s0 : Step R' H' (R'.but D) (upd H' D (.lst [])) := Step.but nD
    refine ⟨fun i m H1 => i + m = ds.length ∧ ∃ R1 ω1 acc xs zs1, Step (R'.but D) (upd H' D (.lst [])) R1 (upd H1 D (.lst [])) ∧ R1.fb D ∧ H1 D = some (.lst xs) ∧ RepAll K cl R1 H1 xs acc ∧ acc.length ≤ i ∧ RepSt K cl R1 H1 ω1 ∧ lcD t gt ge (wipeD ρ vs) (ds.drop i) ω1 = .ok zs1 ωf ∧ acc ++ zs1 = zs,
      ⟨ds.length, Nat.zero_add _, R'.but D, ω', [], [], zs, ?_, .inr rfl, upd_same, .nil, Nat.le_refl _, RepSt.but st nD (fun _ z => nomatch z), elc, rfl⟩, ?_⟩
    · rw [upd_upd]; exact Step.refl _ _
    rintro i m H1 ⟨hl, R1, ω1, acc, xs, zs1, s1, fD, hD, rA, la, st1, el1, ez⟩
    have i1 : Step (R'.but D) (upd H' D (.lst [])) R1 (upd H1 D (.lst [])) := s1
    have full : Step R' H' R1 (upd H1 D (.lst [])) := s0.trans s1
    have on1 : On R' H' R1 H1 := by
      have o1 := full.on
      refine ⟨o1.fr, fun a u f nt q => ?_, o1.nm, fun a p q => ?_⟩
      · have z := o1.keep a u f nt q
        rw [upd_ne (ne_of_none q nD)] at z
        exact z
      · have z := o1.ext a p q
        rw [upd_ne (ne_of_none q nD)] at z
        exact z
    have keepF : ∀ a u, ¬ R'.mu a → (∀ ps, u ≠ .tbl ps) → H' a = some u → H1 a = some u := fun a u n nt q => by
      have z := full.keep a u n nt q
      rw [upd_ne (ne_of_none q nD)] at z
      exact z
    have domF : ∀ a, Nt H1 a → Nt H' a := fun a z => full.dom a fun v q => by
      by_cases e : a = D
      · subst e; exact (nt_not hD (fun _ z => nomatch z) z).elim
      · rw [upd_ne e] at q; exact z v q
    have extF : ∀ a p, H' a = some (.ext p) → H1 a = some (.ext p) := fun a p q => by
      have z := full.ext a p q
      rw [upd_ne (ne_of_none q nD)] at z
      exact z
    have stepF : Step R' H' R1 H1 := ⟨full.fb, full.fn, full.nm, full.mu, keepF, domF, extF⟩
    have stepB : Step R' H' (R1.back D) H1 := ⟨fun a f => ⟨full.fb a f, fun z => (st.fbd a f).1 (by rw [z]; exact nt_none nD)⟩, fun a f => full.fn a f.1, full.nm, full.mu, keepF, domF, extF⟩
    obtain ⟨w1, w2⟩ := wk R1 H1 ω1 stepF st1
    by_cases hi' : i < ds.length
    · obtain ⟨w3, w4⟩ := w1 i hi'
      refine .inr ⟨w3, fun H2 => ∃ R1 ω1 acc xs zs1, Step (R'.but D) (upd H' D (.lst [])) R1 (upd H2 D (.lst [])) ∧ R1.fb D ∧ H2 D = some (.lst xs) ∧ RepAll K cl R1 H2 xs acc ∧ acc.length ≤ i + 1 ∧ RepSt K cl R1 H2 ω1 ∧ lcD t gt ge (wipeD ρ vs) (ds.drop (i + 1)) ω1 = .ok zs1 ωf ∧ acc ++ zs1 = zs,
        fun H2 n2 => ⟨m - 1, by omega, by omega, n2⟩, fun x H2 y => ?_⟩
      obtain ⟨sm, d, hd, rx⟩ := w4 x H2 y
      have hdr : ds.drop i = d :: ds.drop (i + 1) := by
        obtain ⟨h, e⟩ := List.getElem?_eq_some_iff.mp hd
        rw [← e, List.drop_eq_getElem_cons h]
      rw [hdr] at el1
      unfold lcD at el1
      split at el1
      case h_1 => cases el1
      rename_i ρ2 hρ
      have s2 : Step R1 H1 R1 H2 := Step.same sm
      have st2 := st1.same sm
      refine hg R1 (wipe σ vs) H2 (wipeD ρ vs) x d ρ2 _ ((wipe_rep (he'.step stepF) vs).step s2) rx hρ fun σ2 he2 hw => ⟨hw.trans (wipe_wipe vs), ?_⟩
      obtain ⟨k, ω2, eg, el2⟩ := bind_ok_inv el1
      refine ⟨R1, ρ2, ω1, he2, st2, ?_⟩
      rw [eg]
      intro R3 b H3 s3 rb st3
      have rb : b = k := rb
      subst rb
      have nm1 : ¬ R1.mu D := (st1.fbd D fD).2
      have hD2 := sm _ _ hD
      have hD3 := s3.keep D (.lst xs) nm1 (fun _ z => nomatch z) hD2
      have fD3 := s3.fb D fD
      have nm3 : ¬ R3.mu D := (st3.fbd D fD3).2
      have go : ∀ {R4 : Rc} {H4 : Hp}, Step R1 H1 R4 H4 → H4 D = some (.lst xs) → Step (R'.but D) (upd H' D (.lst [])) R4 (upd H4 D (.lst [])) := fun s4 h4 => s1.trans (s4.updD hD h4 rfl rfl rfl)
      cases b with
      | false =>
        refine iteF ?_
        exact ⟨R3, ω2, acc, xs, zs1, go (s2.trans s3) hD3, fD3, hD3, (rA.step s2).step s3, Nat.le_succ_of_le la, st3, el2, ez⟩
      | true =>
        refine iteT ?_
        rw [if_pos rfl] at el2
        obtain ⟨z, ω3, eg3, el3⟩ := bind_ok_inv el2
        obtain ⟨zs2, ω4, eg4, el4⟩ := bind_ok_inv el3
        cases el4
        refine ⟨R3, ρ2, ω2, he2.step s3, st3, ?_⟩
        rw [eg3]
        intro R4 y H4 s4 ry st4
        have hD4 := s4.keep D (.lst xs) nm3 (fun _ z => nomatch z) hD3
        have fD4 := s4.fb D fD3
        refine ⟨xs, hD4, ?_, R4, ω3, acc ++ [z], xs ++ [y], zs2, ?_, fD4, upd_same, ?_, ?_, st4.fb fD4 hD4 rfl (fun _ z => nomatch z), eg4, ?_⟩
        · rw [rA.length]; exact Nat.lt_of_lt_of_le (Nat.lt_of_le_of_lt la hi') hsz
        · rw [upd_upd]; exact go ((s2.trans s3).trans s4) hD4
        · exact (((rA.step s2).step s3).step s4 |>.append (.cons ry .nil)).on (On.fb fD4 hD4 rfl)
        · rw [List.length_append]; exact Nat.succ_le_succ la
        · rw [List.append_assoc]; exact ez
    · obtain rfl : i = ds.length := by omega
      rw [List.drop_length] at el1
      cases el1
      rw [List.append_nil] at ez
      subst ez
      refine .inl ⟨w2, ?_⟩
      refine o (R1.back D) (.ref D) H1 (s.trans stepB) (.lst ⟨hD, ?_, ?_⟩ (rA.on On.back)) (RepSt.back st1)
      · exact fun z => z.2 rfl
      · exact fun z => (st1.fbd D fD).2 z
theorem j_lc {cl : Cl} {X : Cx} {W : WX} {elt tg iter : Expr} {ifs : List Expr} {scope : Scope} {own : List (Str × Nat)} {pos : Pos} {g : TG} {gi : GA} {t : GG} {gt : GT} {ge : GE} (hc : X.calm = true) (hN : X.N.Nodup) (hi : JI cl X W tg iter gi) (ok : BlkOk X.N X.env.scope scope own)
    (hg : ∀ (s : Shared) (H : Hp) (C : Addr) (c : List (Str × Addr)) (fp : List Addr), PG (X.blk s H scope (compEnvC scope c C X.env) fp) tg g) (hw : FrGw X.K cl (own.map (·.2)) g t)
    (ht : ∀ (s : Shared) (H : Hp) (C : Addr) (c : List (Str × Addr)) (fp : List Addr), JTs cl (X.blk s H scope (compEnvC scope c C X.env) fp) WF ifs gt)
    (he : ∀ (s : Shared) (H : Hp) (C : Addr) (c : List (Str × Addr)) (fp : List Addr), JE cl (X.blk s H scope (compEnvC scope c C X.env) fp) WF elt ge) (hs : ∀ x, foldedSetIterable iter X.env x = pure x := by intro _; rfl) :
    JE cl X W (.ListComp elt [⟨tg, iter, ifs, 0⟩] scope pos) (eLc gi t gt ge (own.map (·.2))) :=
  let ⟨_, p, q⟩ := hi; ⟨_, pe_lc (tt := tGT X.K cl WF gt) hc hN p ok hg (fun s H C c fp => ht s H C c fp) (fun s H C c fp => (he s H C c fp).pe) hs, fr_lc q hw⟩
theorem js_setLc {cl : Cl} {X : Cx} {W : WX} {i : Nat} {y : Str} {py spos : Pos} {elt tg iter : Expr} {ifs : List Expr} {scope : Scope} {own : List (Str × Nat)} {pos : Pos} {g : TG} {gi : GA} {t : GG} {gt : GT} {ge : GE} (hc : X.calm = true) (hN : X.N.Nodup) (hy : X.N[i]? = some y) (hyl : X.env.scope.names.lookup y = some .local)
    (hsw : swapsWith (.ListComp elt [⟨tg, iter, ifs, 0⟩] scope pos) (some (.Name y py)) spos.line X.env = pure true) (hi : JI cl X W tg iter gi) (ok : BlkOk X.N X.env.scope scope own)
    (hg : ∀ (s : Shared) (H : Hp) (C : Addr) (c : List (Str × Addr)) (fp : List Addr), PG (X.blk s H scope (compEnvC scope c C X.env) fp) tg g) (hw : FrGw X.K cl (own.map (·.2)) g t)
    (ht : ∀ (s : Shared) (H : Hp) (C : Addr) (c : List (Str × Addr)) (fp : List Addr), JTs cl (X.blk s H scope (compEnvC scope c C X.env) fp) WF ifs gt)
    (he : ∀ (s : Shared) (H : Hp) (C : Addr) (c : List (Str × Addr)) (fp : List Addr), JE cl (X.blk s H scope (compEnvC scope c C X.env) fp) WF elt ge) (hs : ∀ x, foldedSetIterable iter X.env x = pure x := by intro _; rfl) :
    JS cl X W (.Assign [.Name y py] (.ListComp elt [⟨tg, iter, ifs, 0⟩] scope pos) spos) (sSet i (eLc gi t gt ge (own.map (·.2)))) :=
  let ⟨_, p, q⟩ := hi; ⟨_, ps_setLc (tt := tGT X.K cl WF gt) hc hN hy hyl hsw p ok hg (fun s H C c fp => ht s H C c fp) (fun s H C c fp => (he s H C c fp).pe) hs, fr_asg (fr_lc q hw) (fr_name i)⟩
end Mine
namespace Mine
open PySem PySem.Spec PyProof.Rows L2
/-! ### what a def does: a function of values -/
inductive PRes where
  | ok (d : Dv) | exc (e : Exc) | bad
abbrev PFn := List Dv → PRes
def R0 (fb : Addr → Prop) : Rc := ⟨fb, fun _ => False, []⟩
def spG (K : PySem.W.Frag) (cl : Cl) (n : Nat) (g : PFn) : Sp := fun vs H Q E => vs.length = n ∧ ∃ (fb : Addr → Prop) (ds : List Dv), (∀ a, fb a → ¬ Nt H a) ∧ LamX.Tabs cl.tb H ∧ RepAll K cl (R0 fb) H vs ds ∧
  match g ds with
  | .ok d => ∀ v H', Keep H H' → LamX.Tabs cl.tb H' → Rep K cl (R0 fb) H' v d → Q v H'
  | .exc e => ∀ c dd H', Keep H H' → LamX.Tabs cl.tb H' → ExcAt K cl (R0 fb) H' c dd e → E c dd H'
  | .bad => False
/-- a call of it, out of a state with cells -/
def callP (n : Nat) (g : PFn) (ds : List Dv) (ω : Store) : Res Dv := if ds.length = n ∧ cleans ds = true then (match g ds with
  | .ok d => .ok d ω
  | .exc e => .exc e ω
  | .bad => .bad) else .bad
section
variable {K : PySem.W.Frag} {cl : Cl} {W : WX} {R : Rc} {H H' : Hp} {ω : Store}
theorem free_in {a : Addr} (h : Free R a) : Free (R0 fun a => R.fb a ∨ R.mu a) a := ⟨fun z => z.elim h.1 h.2, fun z => z⟩
theorem free_out {a : Addr} (h : Free (R0 fun a => R.fb a ∨ R.mu a) a) : Free R a := ⟨fun z => h.1 (.inl z), fun z => h.1 (.inr z)⟩
theorem Rep.out {v : V} {d : Dv} (h : Rep K cl (R0 fun a => R.fb a ∨ R.mu a) H v d) : Rep K cl R H v d := rep_clean (fun _ f => free_out f) d v (rep_up (R' := R) (fun _ f => free_out f) rfl d v h) h
theorem RepAll.out {v : List V} {d : List Dv} (h : RepAll K cl (R0 fun a => R.fb a ∨ R.mu a) H v d) : RepAll K cl R H v d := repAll_clean (fun _ f => free_out f) d v (repAll_up (R' := R) (fun _ f => free_out f) rfl d v h) h
theorem ExcAt.out {c : Value} {dd : Option Addr} {e : Exc} (h : ExcAt K cl (R0 fun a => R.fb a ∨ R.mu a) H c dd e) : ExcAt K cl R H c dd e := by
  obtain ⟨h1, a, fs, h2, h3, h4, h5⟩ := h
  exact ⟨h1, a, fs, h2, h3, h4, h5.out⟩
theorem spG_of {n : Nat} {g : PFn} {vs : List V} {ds : List Dv} {σ : L2.St} {Q : VK} (r : RepAll K cl R H vs ds) (st : RepSt K cl R H ω) (o : Out K cl W rV R σ H (callP n g ds ω) Q) : spG K cl n g vs H Q (WE W σ) := by
  unfold callP at o
  split at o
  · rename_i hc
    refine ⟨r.length.trans hc.1, fun a => R.fb a ∨ R.mu a, ds, fun a z => z.elim (fun z => (st.fbd a z).1) st.mud, st.tabs, repAll_clean (fun _ f => free_in f) ds vs hc.2 r, ?_⟩
    cases e : g ds with
    | ok d => rw [e] at o; exact fun v H' k tb rv => o R v H' k.step rv.out (st.keep k tb)
    | exc x => rw [e] at o; exact fun c dd H' k tb ea => o R c dd H' k.step ea.out (st.keep k tb)
    | bad => rw [e] at o; exact o
  · exact o.elim
end
/-- the body as a function -/
def startD (N : Nat) (ds : List Dv) : DEnv := ds.map some ++ List.replicate (N - ds.length) none
def runP (N : Nat) (g : GS) : PFn := fun ds => match g (startD N ds) [] with
  | .ret d _ => if clean d = true then .ok d else .bad
  | .next _ _ => .ok .non
  | .exc e _ _ => if cleans e.ds = true then .exc e else .bad
  | _ => .bad
section
variable {P : Program} {w : World} {K : PySem.W.Frag} {mg : Str → Option Value} {base : Heap} {cl : Cl}
theorem start_rep {R : Rc} {H : Hp} : ∀ {vs : List V} {ds : List Dv}, RepAll K cl R H vs ds → ∀ n, RepEnv K cl R H (vs.map some ++ List.replicate n none) (ds.map some ++ List.replicate n none)
  | _, _, .nil, 0 => .nil
  | _, _, .nil, n + 1 => .mt (start_rep .nil n)
  | _, _, .cons a b, n => .vl a (start_rep b n)
theorem st_nil {fb : Addr → Prop} {H : Hp} (h : ∀ a, fb a → ¬ Nt H a) (tb : LamX.Tabs cl.tb H) : RepSt K cl (R0 fb) H [] := ⟨rfl, fun i j a e => by simp [R0] at e, fun i c e => by simp at e, fun a e => e.elim, fun a e => ⟨h a e, fun z => z⟩, fun a e => by simp [R0] at e, tb⟩
theorem Step.keep0 {fb : Addr → Prop} {R' : Rc} {H H' : Hp} (s : Step (R0 fb) H R' H') : Keep H H' := ⟨fun a o t q => s.keep a o (fun z => z) t q, s.dom⟩
theorem free_ret {fb : Addr → Prop} {R' : Rc} {H H' : Hp} (s : Step (R0 fb) H R' H') {a : Addr} (h : Free R' a) : Free (R0 fb) a := ⟨fun z => h.1 (s.fb a z), fun z => z⟩
theorem body_pure {N ps : List Str} {g : GS} {t : TS} {vs : List V} {H : Hp} {Q : VK} {E : XK} (q : FrS K cl (fun c d _ H => E c d H) t g) (h : spG K cl ps.length (runP N.length g) vs H Q E) : t { nx := fun _ H' => Q .non H', rt := Q } (L2.start N vs) H := by
  obtain ⟨hl, fb, ds, hfb, htb, r, hg⟩ := h
  have he : RepEnv K cl (R0 fb) H (L2.start N vs) (startD N.length ds) := by
    unfold L2.start startD
    rw [← r.length]
    exact start_rep r _
  refine q (R0 fb) _ H _ [] _ he (st_nil hfb htb) ?_
  unfold runP at hg
  show OutS K cl _ (R0 fb) H (g (startD N.length ds) []) _
  cases e : g (startD N.length ds) [] with
  | ret d ω =>
    rw [e] at hg
    dsimp only at hg
    split at hg
    · rename_i hz
      split at hz
      · rename_i hcl
        cases hz
        exact fun R' v H' s rv st => hg v H' s.keep0 st.tabs (rep_clean (fun _ f => free_ret s f) _ v hcl rv)
      · cases hz
    · rename_i hz
      split at hz <;> cases hz
    · exact hg.elim
  | next ρ ω => rw [e] at hg; exact fun R' σ H' s he st => hg .non H' s.keep0 st.tabs .non
  | exc x ρ ω =>
    rw [e] at hg
    dsimp only at hg
    split at hg
    · rename_i hz
      split at hz <;> cases hz
    · rename_i hz
      split at hz
      · rename_i hcl
        cases hz
        intro R' σ c dd H' s he ea st
        obtain ⟨h1, a, fs, h2, h3, h4, h5⟩ := ea
        exact hg c dd H' s.keep0 st.tabs ⟨h1, a, fs, h2, h3, h4, repAll_clean (fun _ f => free_ret s f) _ _ hcl h5⟩
      · cases hz
    · exact hg.elim
  | brk ρ ω => rw [e] at hg; exact hg.elim
  | cont ρ ω => rw [e] at hg; exact hg.elim
  | bad => rw [e] at hg; exact hg.elim
theorem fn_pure {x qual : Str} {st : Stmt} {f : Addr} {fd : FuncData} {N ps : List Str} {k : Nat} {g : GS} (F : Fun K x qual st f fd) (S : FnScope N ps (defScope st))
    (hbody : ∀ (cdv : Value) (A : Around) (outer : List Env) (s : Shared) (H : Hp) (E : XK), Room k (A.deeper (envOfC qual (defScope st) s.heap.objs.size f cdv)) →
      JSs cl (cxOf (L2.CX P w) P w K mg base N qual (defScope st) f cdv A outer s H E) (fun c d _ H => E c d H) (defBody st) g) : FnOk P w K mg base (L2.CX P w) (k + 1) f fd ps (spG K cl ps.length (runP N.length g)) := by
  refine F.okX S (fun vs H Q E h => h.1) fun cdv A outer s H vs Q E hr h => ?_
  obtain ⟨t, p, q⟩ := hbody cdv A outer s H E hr
  exact ⟨t, p, body_pure q h⟩
/-- what may raise, where nothing is raised -/
theorem FnOk.calm0 {k : Nat} {f : Addr} {fd : FuncData} {ps : List Str} {sp : Sp} (F : FnOk P w K mg base (L2.CX P w) k f fd ps sp) : FnOk P w K mg base CX0 k f fd ps (fun vs H Q _ => sp vs H Q E0) :=
  ⟨fun vs H Q E h => F.len vs H Q E0 h, fun A outer s H args us vs Q E hr he hb hv h => codeAny_mono (F.run A outer s H args us vs Q E0 hr he hb hv h) fun r s' q => by
    cases r with
    | ok f => cases f <;> exact q
    | error e =>
      obtain ⟨_, _, _, _, _, _, _, _, _, _, _, _, z⟩ := q
      exact z.elim⟩
end
section
variable {cl : Cl} {X : Cx} {W : WX} {E : XK} {o e : Expr} {es : List Expr} {go : GE} {gs : GA} {k n : Nat} {f C : Addr} {fd : FuncData} {ps : List Str} {g : PFn} {dvs : List V} {dds : List Dv} {ds : List Value} {x m : Str} {p pos apos : Pos}
def eCall (n : Nat) (g : PFn) (dds : List Dv) (gs : GA) : GE := fun ρ ω => (gs ρ ω).bind fun ds ω => callP n g (ds ++ dds) ω
theorem j_call (F : FnOk X.prog X.w X.K X.mg X.base (L2.CX X.prog X.w) k f fd ps (spG X.K cl n g)) (hr : Room k X.A) (hg : Gl X x) (hm : X.mg x = some (.ref f)) (hk : PySem.W.keepIn X.K (.ref f) = true) (hb : Binds X.K fd ps ds) (hd : Vals dvs ds) (hdd : ∀ R H, RepAll X.K cl R H dvs dds) (tk : Takes X W)
    (ha : JA cl X W (e :: es) gs) (hdb : (x == ("__debug__" : Str)) = false := by decide) (he : starEach (e :: es) X.env = (false, eval e X.env) :: starEach es X.env := by rfl) (hpl : (backTo pos (starEach es X.env)).any (·.1) = false := by rfl) :
    JE cl X W (.Call (.Name x p) (e :: es) [] pos) (eCall n g dds gs) :=
  let ⟨_, p, q⟩ := ha
  ⟨_, pe_callSD F hr hg hm hk hb hd (fun σ => passAt tk σ) p hdb he hpl, fun R σ H ρ ω Q he hs o =>
    q.seq he hs o fun R1 vs H1 ds ω1 s1 r1 st1 he1 o1 => spG_of (RepAll.append r1 (hdd R1 H1)) st1 o1⟩
theorem j_call0 (F : FnOk X.prog X.w X.K X.mg X.base (L2.CX X.prog X.w) k f fd ps (spG X.K cl n g)) (hr : Room k X.A) (hg : Gl X x) (hm : X.mg x = some (.ref f)) (hk : PySem.W.keepIn X.K (.ref f) = true) (hb : Binds X.K fd ps ds) (hd : Vals dvs ds) (hdd : ∀ R H, RepAll X.K cl R H dvs dds) (hx : Passes (L2.CX X.prog X.w) X E)
    (hdb : (x == ("__debug__" : Str)) = false := by decide) : JE cl X (fun c d _ H => E c d H) (.Call (.Name x p) [] [] pos) (eCall n g dds aNil) :=
  ⟨_, pe_call0 F hr hg hm hk hb hd hx hdb, fun R σ H ρ ω Q he hs o => spG_of (W := fun c d _ H => E c d H) (hdd R H) hs o⟩
/-- o.m(..), o an instance of the class c -/
def eMeth (c : Nat) (m : Str) (n : Nat) (g : PFn) (dds : List Dv) (go : GE) (gs : GA) : GE := fun ρ ω => (go ρ ω).bind fun d ω => match asO ω d with
  | some (c', ns, _) => if c' = c ∧ (ns.all fun y => !(m == y)) = true then (gs ρ ω).bind fun ds ω => callP n g (d :: (ds ++ dds)) ω else .bad
  | none => .bad
theorem lookup_none {m : Str} : ∀ {fs : List (Str × V)}, ((fs.map (·.1)).all fun y => !(m == y)) = true → fs.lookup m = none
  | [], _ => rfl
  | (y, v) :: fs, h => by
    rw [List.map_cons, List.all_cons] at h
    obtain ⟨h1, h2⟩ := Bool.and_eq_true_iff.mp h
    have h1 : (m == y) = false := by simpa using h1
    rw [List.lookup_cons, h1]
    exact lookup_none h2
theorem j_meth {c : Nat} {pl : Sem Bool} (hc : Cls X.K (cl c)) (hm : Meth X.K (cl c) m f) (F : FnOk X.prog X.w X.K X.mg X.base (L2.CX X.prog X.w) k f fd ps (spG X.K cl n g)) (hr : Room k X.A) (hb : Binds X.K fd ps ds) (hd : Vals dvs ds) (hdd : ∀ R H, RepAll X.K cl R H dvs dds) (hx : Passes (L2.CX X.prog X.w) X E)
    (ho : JE cl X (fun c d _ H => E c d H) o go) (ha : JA cl X (fun c d _ H => E c d H) (e :: es) gs)
    (hst : starEach (e :: es) X.env = (false, eval e X.env) :: starEach es X.env := by rfl) (hpl : (backTo pos (starEach es X.env)).any (·.1) = false := by rfl)
    (ht : eval (.Call (.Attribute o m apos) (e :: es) [] pos) X.env = (do
      let ov ← eval o X.env
      standAt apos.atName
      let (f, first) ← holding [ov] (getMethod ov m pl)
      callWith pos f first (backTo pos (starEach (e :: es) X.env)) (backToKw pos (keywordEach [] X.env))) := by rfl) :
    JE cl X (fun c d _ H => E c d H) (.Call (.Attribute o m apos) (e :: es) [] pos) (eMeth c m n g dds go gs) :=
  let ⟨_, p, q⟩ := ho
  let ⟨_, p', q'⟩ := ha
  ⟨_, pe_meth (pl := pl) p hc hm F hr hb hd hx p' hst hpl ht, fun R σ H ρ ω Q he hs o =>
    q.seq he hs o fun R1 v H1 d ω1 s1 r1 st1 he1 o1 => by
      split at o1
      · rename_i c' ns l ho
        split at o1
        · rename_i hcc
          obtain ⟨rfl, hcc⟩ := hcc
          obtain ⟨a, dx, fs, rfl, h1, h2, h3⟩ := asO_at r1 st1 ho
          refine ⟨a, dx, fs, rfl, h1, lookup_none (by rw [h2]; exact hcc), ?_⟩
          exact q'.seq he1 st1 o1 fun R2 vs H2 ds ω2 s2 r2 st2 he2 o2 => spG_of (W := fun c d _ H => E c d H) (.cons (r1.step s2) (RepAll.append r2 (hdd R2 H2))) st2 o2
        · exact o1.elim
      · exact o1.elim⟩
theorem j_meth0 {c : Nat} {pl : Sem Bool} (hc : Cls X.K (cl c)) (hm : Meth X.K (cl c) m f) (F : FnOk X.prog X.w X.K X.mg X.base (L2.CX X.prog X.w) k f fd ps (spG X.K cl n g)) (hr : Room k X.A) (hb : Binds X.K fd ps ds) (hd : Vals dvs ds) (hdd : ∀ R H, RepAll X.K cl R H dvs dds) (hx : Passes (L2.CX X.prog X.w) X E)
    (ho : JE cl X (fun c d _ H => E c d H) o go)
    (ht : eval (.Call (.Attribute o m apos) [] [] pos) X.env = (do
      let ov ← eval o X.env
      standAt apos.atName
      let (f, first) ← holding [ov] (getMethod ov m pl)
      callWith pos f first (backTo pos (starEach [] X.env)) (backToKw pos (keywordEach [] X.env))) := by rfl) :
    JE cl X (fun c d _ H => E c d H) (.Call (.Attribute o m apos) [] [] pos) (eMeth c m n g dds go aNil) :=
  let ⟨_, p, q⟩ := ho
  ⟨_, pe_meth0 (pl := pl) p hc hm F hr hb hd hx ht, fun R σ H ρ ω Q he hs o =>
    q.seq he hs o fun R1 v H1 d ω1 s1 r1 st1 he1 o1 => by
      split at o1
      · rename_i c' ns l ho
        split at o1
        · rename_i hcc
          obtain ⟨rfl, hcc⟩ := hcc
          obtain ⟨a, dx, fs, rfl, h1, h2, h3⟩ := asO_at r1 st1 ho
          exact ⟨a, dx, fs, rfl, h1, lookup_none (by rw [h2]; exact hcc), spG_of (W := fun c d _ H => E c d H) (.cons r1 (hdd R1 H1)) st1 o1⟩
        · exact o1.elim
      · exact o1.elim⟩
/-- a field -/
def lookF (f : Str) : List Str → List Dv → Option Dv
  | n :: ns, d :: ds => if f == n then some d else lookF f ns ds
  | _, _ => none
theorem lookF_rep {K : PySem.W.Frag} {R : Rc} {H : Hp} {f : Str} {z : Dv} : ∀ {fs : List (Str × V)} {ds : List Dv}, RepAll K cl R H (fs.map (·.2)) ds → lookF f (fs.map (·.1)) ds = some z → ∃ v, fs.lookup f = some v ∧ Rep K cl R H v z
  | [], _, _, h => by cases h
  | (n, v) :: fs, _, .cons a b, h => by
    show ∃ v', List.lookup f ((n, v) :: fs) = some v' ∧ _
    rw [List.lookup_cons]
    have h : (if (f == n) = true then some _ else lookF f (fs.map (·.1)) _) = some z := h
    split at h
    · rename_i e
      cases h
      rw [e]
      exact ⟨v, rfl, a⟩
    · rename_i e
      have e : (f == n) = false := by simpa using e
      rw [e]
      exact lookF_rep b h
def fFld (cs : List Nat) (f : Str) : F1 := fun d ω => match asO ω d with
  | some (c, ns, ds) => if c ∈ cs then (match lookF f ns ds with
    | some z => .ok z ω
    | none => .bad) else .bad
  | none => .bad
theorem j_fld {f : Str} {cs : List Nat} (hc : ∀ c ∈ cs, Cls X.K (cl c) ∧ NoAttr X.K (cl c) f) (ho : JE cl X W o go) (hb : attributeBase o f X.env (eval o X.env) = eval o X.env := by rfl) : JE cl X W (.Attribute o f pos) (e1 (fFld cs f) go) :=
  let ⟨_, p, q⟩ := ho
  ⟨_, pe_fld p hb, fun R σ H ρ ω Q he hs o =>
    q.seq he hs o fun R1 v H1 d ω1 s1 r1 st1 he1 o1 => by
      unfold fFld at o1
      split at o1
      · rename_i c ns l ho
        split at o1
        · rename_i hcc
          split at o1
          · rename_i z hz
            obtain ⟨a, dx, fs, rfl, h1, h2, h3⟩ := asO_at r1 st1 ho
            subst h2
            obtain ⟨v, h4, h5⟩ := lookF_rep h3 hz
            exact ⟨a, _, dx, fs, v, rfl, h1, (hc c hcc).1, (hc c hcc).2, h4, o1.val h5 st1⟩
          · exact o1.elim
        · exact o1.elim
      · exact o1.elim⟩
/-- a property -/
def ePropD (c : Nat) (g : PFn) (go : GE) : GE := fun ρ ω => (go ρ ω).bind fun d ω => match asO ω d with
  | some (c', _, _) => if c' = c ∧ clean d = true then (match g [d] with
    | .ok z => .ok z ω
    | _ => .bad) else .bad
  | none => .bad
theorem j_prop {c : Nat} {f : Str} {pp gg : Addr} (hc : Cls X.K (cl c)) (hp : PropOf X.K (cl c) f pp gg) (F : FnOk X.prog X.w X.K X.mg X.base (L2.CX X.prog X.w) k gg fd ps (spG X.K cl 1 g)) (hr : Room (k + 1) X.A) (hb : Binds X.K fd ps []) (ho : JE cl X W o go)
    (hab : attributeBase o f X.env (eval o X.env) = eval o X.env := by rfl) : JE cl X W (.Attribute o f pos) (ePropD c g go) :=
  let ⟨_, p, q⟩ := ho
  ⟨_, pe_prop p hc hp F hr hb .nil (passL (X := X.nox)) hab, fun R σ H ρ ω Q he hs o =>
    q.seq he hs o fun R1 v H1 d ω1 s1 r1 st1 he1 o1 => by
      split at o1
      · rename_i c' ns l ho
        split at o1
        · rename_i hcc
          obtain ⟨rfl, hcc⟩ := hcc
          obtain ⟨a, dx, fs, rfl, h1, h2, h3⟩ := asO_at r1 st1 ho
          refine ⟨a, dx, fs, rfl, h1, ?_⟩
          refine spG_of (W := WF) (σ := σ) (R := R1) (ω := ω1) (RepAll.cons r1 .nil) st1 ?_
          unfold callP
          rw [if_pos ⟨rfl, by show (clean d && true) = true; rw [hcc]; rfl⟩]
          cases eg : g [d] with
          | ok z => rw [eg] at o1; exact o1
          | exc z => rw [eg] at o1; exact o1.elim
          | bad => rw [eg] at o1; exact o1.elim
        · exact o1.elim
      · exact o1.elim⟩
end
end Mine
namespace Mine
open PySem PySem.Spec PyProof.Rows L2
/-! ### defs that change cells -/
abbrev MFn := List Dv → Store → Res Dv
def spM (K : PySem.W.Frag) (cl : Cl) (n : Nat) (g : MFn) : Sp := fun vs H Q E => vs.length = n ∧ ∃ (R : Rc) (ω : Store) (ds : List Dv), RepSt K cl R H ω ∧ RepAll K cl R H vs ds ∧ Out K cl (fun c d _ H => E c d H) rV R [] H (g ds ω) Q
def runM (N : Nat) (g : GS) : MFn := fun ds ω => match g (startD N ds) ω with
  | .ret d ω => .ok d ω
  | .next _ ω => .ok .non ω
  | .exc e _ ω => .exc e ω
  | _ => .bad
def callM (n : Nat) (g : MFn) : MFn := fun ds ω => if ds.length = n then g ds ω else .bad
section
variable {P : Program} {w : World} {K : PySem.W.Frag} {mg : Str → Option Value} {base : Heap} {cl : Cl} {W : WX}
theorem spM_of {R : Rc} {H : Hp} {ω : Store} {n : Nat} {g : MFn} {vs : List V} {ds : List Dv} {σ : L2.St} {Q : VK} (r : RepAll K cl R H vs ds) (st : RepSt K cl R H ω) (o : Out K cl W rV R σ H (callM n g ds ω) Q) : spM K cl n g vs H Q (WE W σ) := by
  unfold callM at o
  split at o
  · rename_i hc
    refine ⟨r.length.trans hc, R, ω, ds, st, r, ?_⟩
    cases e : g ds ω with
    | ok d ω' => rw [e] at o; exact o
    | exc x ω' => rw [e] at o; exact o
    | bad => rw [e] at o; exact o
  · exact o.elim
theorem out_run {R : Rc} {H : Hp} {E : XK} {Q : VK} {r : SRes} (h : Out K cl (fun c d _ H => E c d H) rV R [] H (match r with
    | .ret d ω => .ok d ω
    | .next _ ω => .ok .non ω
    | .exc e _ ω => .exc e ω
    | _ => .bad) Q) : OutS K cl (fun c d _ H => E c d H) R H r { nx := fun _ H' => Q .non H', rt := Q } := by
  cases r with
  | ret d ω => exact h
  | next ρ ω => exact fun R' σ H' s he st => h R' .non H' s .non st
  | exc e ρ ω => exact fun R' σ c dd H' s he ea st => h R' c dd H' s ea st
  | brk ρ ω => exact h.elim
  | cont ρ ω => exact h.elim
  | bad => exact h
theorem fn_st {x qual : Str} {st : Stmt} {f : Addr} {fd : FuncData} {N ps : List Str} {k : Nat} {g : GS} (F : Fun K x qual st f fd) (S : FnScope N ps (defScope st))
    (hbody : ∀ (cdv : Value) (A : Around) (outer : List Env) (s : Shared) (H : Hp) (E : XK), Room k (A.deeper (envOfC qual (defScope st) s.heap.objs.size f cdv)) →
      JSs cl (cxOf (L2.CX P w) P w K mg base N qual (defScope st) f cdv A outer s H E) (fun c d _ H => E c d H) (defBody st) g) : FnOk P w K mg base (L2.CX P w) (k + 1) f fd ps (spM K cl ps.length (runM N.length g)) := by
  refine F.okX S (fun vs H Q E h => h.1) fun cdv A outer s H vs Q E hr h => ?_
  obtain ⟨t, p, q⟩ := hbody cdv A outer s H E hr
  refine ⟨t, p, ?_⟩
  obtain ⟨hl, R, ω, ds, st, r, o⟩ := h
  have he : RepEnv K cl R H (L2.start N vs) (startD N.length ds) := by
    unfold L2.start startD
    rw [← r.length]
    exact start_rep r _
  exact q R _ H _ ω _ he st (out_run o)
end
section
variable {cl : Cl} {X : Cx} {W : WX} {E : XK} {o e : Expr} {es : List Expr} {go : GE} {gs : GA} {k n : Nat} {f C : Addr} {fd : FuncData} {ps : List Str} {g : MFn} {dvs : List V} {dds : List Dv} {ds : List Value} {x m : Str} {p pos apos : Pos}
def eCallM (n : Nat) (g : MFn) (dds : List Dv) (gs : GA) : GE := fun ρ ω => (gs ρ ω).bind fun ds ω => callM n g (ds ++ dds) ω
theorem j_callM (F : FnOk X.prog X.w X.K X.mg X.base (L2.CX X.prog X.w) k f fd ps (spM X.K cl n g)) (hr : Room k X.A) (hg : Gl X x) (hm : X.mg x = some (.ref f)) (hk : PySem.W.keepIn X.K (.ref f) = true) (hb : Binds X.K fd ps ds) (hd : Vals dvs ds) (hdd : ∀ R H, RepAll X.K cl R H dvs dds) (tk : Takes X W)
    (ha : JA cl X W (e :: es) gs) (hdb : (x == ("__debug__" : Str)) = false := by decide) (he : starEach (e :: es) X.env = (false, eval e X.env) :: starEach es X.env := by rfl) (hpl : (backTo pos (starEach es X.env)).any (·.1) = false := by rfl) :
    JE cl X W (.Call (.Name x p) (e :: es) [] pos) (eCallM n g dds gs) :=
  let ⟨_, p, q⟩ := ha
  ⟨_, pe_callSD F hr hg hm hk hb hd (fun σ => passAt tk σ) p hdb he hpl, fun R σ H ρ ω Q he hs o =>
    q.seq he hs o fun R1 vs H1 ds ω1 s1 r1 st1 he1 o1 => spM_of (RepAll.append r1 (hdd R1 H1)) st1 o1⟩
/-! ### C(..): a new instance that never changes behind its __init__ -/
def mkP (c : Nat) (g : MFn) : PFn := fun ds => match g (.own 0 :: ds) [.obj c [] []] with
  | .ok .non ω => match ω[(0 : Nat)]? with
    | some (.obj c' ns l) => if c' = c ∧ cleans l = true then .ok (.obj c ns l) else .bad
    | _ => .bad
  | .exc e _ => if cleans e.ds = true then .exc e else .bad
  | _ => .bad
theorem make_of {K : PySem.W.Frag} {R : Rc} {H : Hp} {ω : Store} {σ : L2.St} {c : Nat} {vs : List V} {ds : List Dv} {Q : VK} (r : RepAll K cl R H vs ds) (st : RepSt K cl R H ω) (hl : n = vs.length + 1) (o : Out K cl W rV R σ H (callP vs.length (mkP c g) ds ω) Q) :
    ∀ x dx, H x = none → H dx = none → dx ≠ x → spM K cl n g (.ref x :: vs) (upd (upd H dx (.own x)) x (.ins (cl c) dx [])) (fun v H2 => v = .non ∧ Q (.ref x) H2) (WE W σ) := fun x dx nx nd ne => by
  unfold callP at o
  split at o
  case isFalse => exact o.elim
  rename_i hc
  obtain ⟨_, hc⟩ := hc
  have sm : Same H (upd (upd H dx (.own x)) x (.ins (cl c) dx [])) := Same.make nx nd
  have hne : ∀ a, ¬ Nt H a → a ≠ x := fun a e z => e (by rw [z]; exact nt_none nx)
  have nn : ∀ a, ¬ Nt H a → ¬ Nt (upd (upd H dx (.own x)) x (.ins (cl c) dx [])) a := fun a e z => e fun u q => z u (sm a u q)
  refine ⟨hl.symm, ⟨fun a => R.fb a ∨ R.mu a, fun a => a = x, [x]⟩, [.obj c [] []], .own 0 :: ds, ⟨rfl, ?_, ?_, ?_, ?_, ?_, st.tabs.ext sm⟩, .cons (.own rfl) ?_, ?_⟩
  · intro i j a e1 e2
    have h1 := (List.getElem?_eq_some_iff.mp e1).1
    have h2 := (List.getElem?_eq_some_iff.mp e2).1
    have h1 : i < 1 := h1
    have h2 : j < 1 := h2
    omega
  · intro i c' e l
    have h1 : i < 1 := (List.getElem?_eq_some_iff.mp e).1
    obtain rfl : i = 0 := by omega
    cases e
    exact ⟨x, rfl, rfl, dx, [], upd_same, rfl, .nil⟩
  · rintro a rfl
    exact ⟨0, _, rfl, rfl, rfl⟩
  · intro a e
    have e : ¬ Nt H a := e.elim (fun z => (st.fbd a z).1) fun z => st.mud z
    exact ⟨nn a e, hne a e⟩
  · intro a e
    obtain rfl := List.mem_singleton.mp e
    exact nt_not upd_same fun _ z => nomatch z
  · have on1 : On R H (R.but x) (upd (upd H dx (.own x)) x (.ins (cl c) dx [])) := ⟨fun a f e => ⟨fun z => z.elim f.1 (hne a e), f.2⟩, fun a u _ _ q => sm a u q, fun _ _ h => h, fun a p q => sm a _ q⟩
    exact repAll_clean (R := R.but x) (fun a (f : Free (R.but x) a) => ⟨fun z => Or.elim z (fun z => f.1 (Or.inl z)) f.2, fun z => f.1 (Or.inr z)⟩) ds vs hc (r.on on1)
  · have key : ∀ {R' : Rc} {H' : Hp}, Step ⟨fun a => R.fb a ∨ R.mu a, fun a => a = x, [x]⟩ (upd (upd H dx (.own x)) x (.ins (cl c) dx [])) R' H' → Keep H H' ∧ ∀ a, Free R' a → Free R a := fun s =>
      ⟨⟨fun a u nt q => s.keep a u (hne a (nt_not q nt)) nt (sm a u q), fun a z u q => s.dom a z u (sm a u q)⟩, fun a f => ⟨fun z => f.1 (s.fb a (.inl z)), fun z => f.1 (s.fb a (.inr z))⟩⟩
    unfold mkP at o
    cases e : g (.own 0 :: ds) [.obj c [] []] with
    | bad => rw [e] at o; exact o.elim
    | exc x' ω' =>
      rw [e] at o
      dsimp only at o
      split at o
      · rename_i hz
        split at hz <;> cases hz
      · rename_i hz
        split at hz
        · rename_i hcl
          cases hz
          intro R' c' dd H' s ea st'
          obtain ⟨k, f⟩ := key s
          obtain ⟨h1, a, fs, h2, h3, h4, h5⟩ := ea
          exact o R c' dd H' k.step ⟨h1, a, fs, h2, h3, h4, repAll_clean f _ _ hcl h5⟩ (st.keep k st'.tabs)
        · cases hz
      · exact o.elim
    | ok d ω' =>
      rw [e] at o
      intro R' v H' s rv st'
      obtain ⟨k, f⟩ := key s
      cases d with
      | non =>
        cases rv
        refine ⟨rfl, ?_⟩
        dsimp only at o
        split at o
        · rename_i z hz
          split at hz
          · rename_i c' ns l h0
            split at hz
            · rename_i hcc
              obtain ⟨rfl, hcl⟩ := hcc
              cases hz
              obtain ⟨a, h1, h2, dx', fs, h3, h4, h5⟩ := st'.cell 0 _ h0 rfl
              obtain ⟨more, em⟩ := s.nm
              rw [em] at h1
              have h1 : some x = some a := h1
              cases h1
              exact o R (.ref x) H' k.step (.obj h3 (st.free nx) h4 (repAll_clean f _ _ hcl h5)) (st.keep k st'.tabs)
            · cases hz
          · cases hz
        · rename_i hz
          split at hz
          · split at hz <;> cases hz
          · cases hz
        · exact o.elim
      | _ => exact o.elim
def eMake (n : Nat) (c : Nat) (g : MFn) (dds : List Dv) (gs : GA) : GE := fun ρ ω => (gs ρ ω).bind fun ds ω => callP n (mkP c g) (ds ++ dds) ω
theorem callP_len {n : Nat} {g : PFn} {ds : List Dv} {K : PySem.W.Frag} {R : Rc} {σ : L2.St} {H : Hp} {ω : Store} {Q : VK} (o : Out K cl W rV R σ H (callP n g ds ω) Q) : ds.length = n := by
  unfold callP at o
  split at o
  · rename_i h; exact h.1
  · exact o.elim
theorem j_make {c : Nat} (M : Mk X.K (cl c) f) (F : FnOk X.prog X.w X.K X.mg X.base (L2.CX X.prog X.w) k f fd ps (spM X.K cl (n + 1) g)) (hr : Room (k + 1) X.A) (hg : Gl X x) (hm : X.mg x = some (.ref (cl c))) (hb : Binds X.K fd ps ds) (hd : Vals dvs ds) (hdd : ∀ R H, RepAll X.K cl R H dvs dds) (hx : Passes (L2.CX X.prog X.w) X E)
    (ha : JA cl X (fun c d _ H => E c d H) (e :: es) gs) (hdb : (x == ("__debug__" : Str)) = false := by decide) (he : starEach (e :: es) X.env = (false, eval e X.env) :: starEach es X.env := by rfl) (hpl : (backTo pos (starEach es X.env)).any (·.1) = false := by rfl) :
    JE cl X (fun c d _ H => E c d H) (.Call (.Name x p) (e :: es) [] pos) (eMake n c g dds gs) :=
  let ⟨_, p, q⟩ := ha
  ⟨_, pe_make M F hr hg hm hb hd hx p hdb he hpl, fun R σ H ρ ω Q he hs o =>
    q.seq he hs o fun R1 vs H1 ds ω1 s1 r1 st1 he1 o1 => by
      have ra := RepAll.append r1 (hdd R1 H1)
      have hl := callP_len o1
      rw [← ra.length] at hl
      subst hl
      exact make_of (W := fun c d _ H => E c d H) ra st1 rfl o1⟩
theorem j_make0 {c : Nat} (M : Mk X.K (cl c) f) (F : FnOk X.prog X.w X.K X.mg X.base (L2.CX X.prog X.w) k f fd ps (spM X.K cl (n + 1) g)) (hr : Room (k + 1) X.A) (hg : Gl X x) (hm : X.mg x = some (.ref (cl c))) (hb : Binds X.K fd ps ds) (hd : Vals dvs ds) (hdd : ∀ R H, RepAll X.K cl R H dvs dds) (hx : Passes (L2.CX X.prog X.w) X E)
    (hdb : (x == ("__debug__" : Str)) = false := by decide) : JE cl X (fun c d _ H => E c d H) (.Call (.Name x p) [] [] pos) (eMake n c g dds aNil) :=
  ⟨_, pe_make0 M F hr hg hm hb hd hx hdb, fun R σ H ρ ω Q he hs o => by
      have ra := hdd R H
      have hl := callP_len o
      rw [show ([] : List Dv) ++ dds = dds from rfl, ← ra.length] at hl
      subst hl
      exact make_of (W := fun c d _ H => E c d H) ra hs rfl o⟩
/-! ### a store to a field of a cell -/
def putD (f : Str) (v : Dv) : List Str → List Dv → List Str × List Dv
  | n :: ns, d :: ds => if n = f then (n :: ns, v :: ds) else (n :: (putD f v ns ds).1, d :: (putD f v ns ds).2)
  | _, _ => ([f], [v])
theorem putD_rep {K : PySem.W.Frag} {R : Rc} {H : Hp} {f : Str} {x : V} {v : Dv} (r : Rep K cl R H x v) : ∀ {fs : List (Str × V)} {ds : List Dv}, RepAll K cl R H (fs.map (·.2)) ds → (putF f x fs).map (·.1) = (putD f v (fs.map (·.1)) ds).1 ∧ RepAll K cl R H ((putF f x fs).map (·.2)) (putD f v (fs.map (·.1)) ds).2
  | [], _, .nil => ⟨rfl, .cons r .nil⟩
  | (n, y) :: fs, _, .cons a b => by
    unfold putF
    show List.map _ (if n = f then _ else _) = (putD f v (n :: fs.map (·.1)) _).1 ∧ RepAll K cl R H (List.map _ (if n = f then _ else _)) (putD f v (n :: fs.map (·.1)) _).2
    unfold putD
    split
    · exact ⟨rfl, .cons r b⟩
    · obtain ⟨h1, h2⟩ := putD_rep r b
      exact ⟨by rw [List.map_cons, h1], .cons a h2⟩
def setFld (cs : List Nat) (f : Str) (d v : Dv) (ω : Store) : Option Store := match d with
  | .own i => match ω[i]? with
    | some (.obj c ns l) => if c ∈ cs ∧ ns.length < 1000 then some (ω.set i (.obj c (putD f v ns l).1 (putD f v ns l).2)) else none
    | _ => none
  | _ => none
/-- the object of a cell is changed -/
theorem On.cell {K : PySem.W.Frag} {R : Rc} {H : Hp} {a : Addr} {o u : HO} (m : R.mu a) (hu : H a = some u) (tf : tabFree u = true) : On R H R (upd H a o) := ⟨fun _ f _ => f, fun b u g _ e => by rw [upd_ne (fun z => g.2 (by rw [z]; exact m))]; exact e, fun _ _ h => h, ext_upd hu tf⟩
theorem CellAt.obj {K : PySem.W.Frag} {R : Rc} {H : Hp} {a : Addr} : ∀ {c : Cell}, live c = true → CellAt K cl R H a c → ∃ u, H a = some u ∧ tabFree u = true
  | .gone, l, _ => nomatch l
  | .lst _, _, ⟨_, h, _⟩ => ⟨_, h, rfl⟩
  | .dct _ _, _, ⟨_, h, _⟩ => ⟨_, h, rfl⟩
  | .dtp _ _, _, ⟨_, h, _⟩ => ⟨_, h, rfl⟩
  | .obj _ _ _, _, ⟨_, _, h, _⟩ => ⟨_, h, rfl⟩
theorem Step.cell {R : Rc} {H : Hp} {a : Addr} {o u : HO} (m : R.mu a) (h : H a = some u) (f : tabFree u = true) (fo : tabFree o = true) : Step R H R (upd H a o) := ⟨fun _ h => h, fun _ h => .inl h, ⟨[], by rw [List.append_nil]⟩, fun _ h => .inl h, fun b u n _ q => by rw [upd_ne (fun z => n (by rw [z]; exact m))]; exact q, fun b z => (by
  by_cases e : b = a
  · subst e
    exfalso
    obtain ⟨ps, w⟩ := z _ upd_same
    subst w
    cases fo
  · exact fun v q => z v (by rw [upd_ne e]; exact q)), ext_upd h f⟩
theorem RepSt.put {K : PySem.W.Frag} {R : Rc} {H : Hp} {ω : Store} {i : Nat} {a : Addr} {o : HO} {c c' : Cell} (st : RepSt K cl R H ω) (hi : ω[i]? = some c') (l' : live c' = true) (ha : R.nm[i]? = some a) (lc : live c = true) (h : CellAt K cl R (upd H a o) a c) (fo : ∀ ps, o ≠ .tbl ps := by intro _ z; cases z) : RepSt K cl R (upd H a o) (ω.set i c) := by
  obtain ⟨a', h1, m, hcell⟩ := st.cell i c' hi l'
  rw [ha] at h1
  cases h1
  have hil := (List.getElem?_eq_some_iff.mp hi).1
  obtain ⟨u0, hu0, tu0⟩ := hcell.obj l'
  have nn : ∀ b, ¬ Nt H b → ¬ Nt (upd H a o) b := fun b e w => by
    by_cases z : b = a
    · subst z; exact nt_not upd_same fo w
    · exact e fun u q => w u (by rw [upd_ne z]; exact q)
  refine ⟨by rw [List.length_set]; exact st.len, st.inj, fun j d e l => ?_, fun b e => ?_, fun b e => ⟨nn b (st.fbd b e).1, (st.fbd b e).2⟩, fun b e => nn b (st.nmd b e), ?_⟩
  · by_cases z : i = j
    · subst z
      rw [List.getElem?_set_self hil] at e
      cases e
      exact ⟨a, ha, m, h⟩
    · rw [List.getElem?_set_ne z] at e
      obtain ⟨b, h1, h2, h3⟩ := st.cell j d e l
      exact ⟨b, h1, h2, h3.on (On.cell (K := K) m hu0 tu0) fun u _ q => by rw [upd_ne (fun w => z (st.inj i j a ha (by rw [← w]; exact h1)))]; exact q⟩
  · obtain ⟨j, d, h1, h2, h3⟩ := st.mu b e
    by_cases z : i = j
    · subst z
      exact ⟨i, c, h1, List.getElem?_set_self hil, lc⟩
    · exact ⟨j, d, h1, by rw [List.getElem?_set_ne z]; exact h2, h3⟩
  · exact tabs_upd hu0 tu0 st.tabs
def sFldD (cs : List Nat) (f : Str) (go gv : GE) : GS := fun ρ ω => (gv ρ ω).then ρ fun v ω => (go ρ ω).then ρ fun d ω => match setFld cs f d v ω with
  | some ω => .next ρ ω
  | none => .bad
theorem js_fld {f : Str} {cs : List Nat} {v : Expr} {gv : GE} {pos' : Pos} (hc : ∀ c ∈ cs, Cls X.K (cl c) ∧ NoAttr X.K (cl c) f) (ho : JE cl X W o go) (hv : JE cl X W v gv) (hs : swapsWith v (some (.Attribute o f pos')) pos.line X.env = pure false := by rfl) :
    JS cl X W (.Assign [.Attribute o f pos'] v pos) (sFldD cs f go gv) :=
  let ⟨_, p, q⟩ := ho
  let ⟨_, p', q'⟩ := hv
  ⟨_, ps_fld p p' hs, fun R σ H ρ ω D he hs o =>
    q'.seqS he hs o fun R1 y H1 v ω1 s1 r1 st1 he1 o1 => q.seqS he1 st1 o1 fun R2 x H2 d ω2 s2 r2 st2 he2 o2 => by
      split at o2
      case h_2 => exact o2.elim
      rename_i ω3 hω
      unfold setFld at hω
      split at hω
      case h_2 => cases hω
      split at hω
      case h_2 => cases hω
      rename_i c ns l h0
      split at hω
      case isFalse => cases hω
      rename_i hcc
      cases hω
      cases r2 with
      | own ha =>
        obtain ⟨a, h1, m, dx, fs, h3, h4, h5⟩ := st2.cell _ _ h0 rfl
        rw [ha] at h1
        cases h1
        subst h4
        have ry := r1.step s2
        obtain ⟨e1, e2⟩ := putD_rep (f := f) ry h5
        refine ⟨_, _, dx, fs, rfl, h3, (hc c hcc.1).1, (hc c hcc.1).2, by rw [List.length_map] at hcc; exact hcc.2, ?_⟩
        refine o2 R2 σ _ (Step.cell m h3 rfl rfl) (he2.step (Step.cell m h3 rfl rfl)) (st2.put h0 rfl ha rfl ⟨dx, _, upd_same, e1, e2.on (On.cell (K := X.K) m h3 rfl)⟩)⟩
/-! ### raise of an error of one's own -/
def spErrG (C : Addr) (n : Nat) (fs : List V → List (Str × V)) : Sp := fun vs H Q _ => ∃ (a : Addr) (us : List V), vs = .ref a :: us ∧ us.length = n ∧ H a = some (exo a C none) ∧
  ∀ (d : Addr) (H' : Hp), H d = none → d ≠ a → H' a = some (exo a C (some d)) → H' d = some (exd d (fs us)) → (∀ b, b ≠ a → b ≠ d → H' b = H b) → Q .non H'
def sRaise (c : Nat) (n : Nat) (fs : List Dv → List Str × List Dv) (gs : GA) : GS := fun ρ ω => (gs ρ ω).then ρ fun ds ω => if ds.length = n ∧ n ≤ 1000 then .exc ⟨c, (fs ds).1, (fs ds).2⟩ ρ ω else .bad
theorem js_raise {c : Nat} {fI : Addr} {fv : List V → List (Str × V)} {fs : List Dv → List Str × List Dv} (hfs : ∀ (K : PySem.W.Frag) (R : Rc) (H : Hp) (vs : List V) (ds : List Dv), vs.length = n → RepAll K cl R H vs ds → (fv vs).map (·.1) = (fs ds).1 ∧ RepAll K cl R H ((fv vs).map (·.2)) (fs ds).2)
    (hc : X.calm = true) (tk : Takes X W) (T : OexC X.K (cl c)) (iC : PySem.W.findIn X.K (.ref (cl c)) "__init__" = some (some (.ref fI))) (tI : PySem.W.typeIn X.K (.ref fI) = some (.type "function"))
    (F1 : FnOk X.prog X.w X.K X.mg X.base CX0 k fI fd ps (spErrG (cl c) n fv)) (hr : Room (k + 1) X.A) (hb : Binds X.K fd ps []) (hg : Gl X x) (hm : X.mg x = some (.ref (cl c))) (ha : JA cl X W (e :: es) gs)
    (hdb : (x == ("__debug__" : Str)) = false := by decide) (he : starEach (e :: es) X.env = (false, eval e X.env) :: starEach es X.env := by rfl) (hpl : (backTo apos (starEach es X.env)).any (·.1) = false := by rfl) :
    JS cl X W (.Raise (some (.Call (.Name x p) (e :: es) [] apos)) none pos) (sRaise c n fs gs) :=
  let ⟨_, p, q⟩ := ha
  ⟨_, ps_raise hc tk (pmk_oex T iC tI F1 hr hb .nil pass0 hg hm p hdb he hpl), fun R σ H ρ ω D he hs o =>
    q.seqS he hs o fun R1 vs H1 ds ω1 s1 r1 st1 he1 o1 => by
      split at o1
      case isFalse => exact o1.elim
      rename_i hn
      have hl : vs.length = n := (RepAll.length r1).trans hn.1
      refine ⟨by rw [hl]; exact hn.2, fun a na => ⟨a, vs ++ [], rfl, by rw [List.append_nil]; exact hl, upd_same, fun d H2 nd ne h1 h2 h3 => ⟨rfl, d, _, h1, h2, ?_, ?_⟩⟩⟩
      · rw [upd_ne ne] at nd; exact nd
      · rw [upd_ne ne] at nd
        rw [List.append_nil]
        have eq : upd (del H2 a) d (.xd (fv vs)) = upd H1 d (.xd (fv vs)) := by
          funext b
          by_cases hb : b = d
          · rw [hb, upd_same, upd_same]
          · rw [upd_ne hb, upd_ne hb]
            by_cases hba : b = a
            · rw [hba, del_same, na]
            · rw [del_ne hba, h3 b hba hb, upd_ne hba]
        rw [eq]
        have s2 : Step R1 H1 R1 (upd H1 d (.xd (fv vs))) := Step.new nd
        obtain ⟨e1, e2⟩ := hfs X.K R1 (upd H1 d (.xd (fv vs))) vs ds hl (RepAll.step s2 r1)
        exact o1 R1 σ _ _ _ s2 (he1.step s2) ⟨rfl, d, fv vs, rfl, upd_same, e1, e2⟩ (st1.same (Same.new nd))⟩
end
end Mine
namespace Mine
open PySem PySem.Spec PyProof.Rows L2
/-! ### isinstance -/
def tyN : List String := ["bool", "int", "str", "list", "tuple"]
structure Wd (K : PySem.W.Frag) (cl : Cl) (sub : Nat → Nat → Bool) (nc : Nat) : Prop where
  ty : ∀ c, c < nc → ∀ (H : Hp) (a dx : Addr) (fs : List (Str × V)), H a = some (.ins (cl c) dx fs) → TyX K H (.ref a) (.ref (cl c))
  k1 : ∀ c, c < nc → ∀ c', c' < nc → PySem.W.kitOne K (.ref (cl c)) (.ref (cl c')) = some (sub c c')
  k2 : ∀ c, c < nc → ∀ n ∈ tyN, PySem.W.kitOne K (.ref (cl c)) (.type n) = some false
  k3 : ∀ c, c < nc → ∀ n ∈ "NoneType" :: "dict" :: tyN, PySem.W.kitOne K (.type n) (.ref (cl c)) = some false
inductive Ty where
  | b (n : String) | o (c : Nat)
def tyD' (ω : Store) : Dv → Option Ty
  | .non => some (.b "NoneType") | .bl _ => some (.b "bool") | .int _ => some (.b "int") | .str _ => some (.b "str") | .lst _ => some (.b "list") | .tup _ => some (.b "tuple")
  | .obj c _ _ => some (.o c)
  | .own i => match ω[i]? with
    | some (.lst _) => some (.b "list")
    | some (.obj c _ _) => some (.o c)
    | _ => none
  | _ => none
def tyVal (cl : Cl) : Ty → Value
  | .b n => .type n
  | .o c => .ref (cl c)
def kitD (sub : Nat → Nat → Bool) (nc : Nat) : Ty → Dv → Option Bool
  | .b t, .ty n => if n ∈ tyN then some (t == n || (t == "bool" && n == "int")) else none
  | .o c, .ty n => if n ∈ tyN ∧ c < nc then some false else none
  | .b t, .gl c' => if c' < nc then some false else none
  | .o c, .gl c' => if c < nc ∧ c' < nc then some (sub c c') else none
  | _, _ => none
def isC : Dv → Bool
  | .ty _ => true
  | .gl _ => true
  | _ => false
def anyD (sub : Nat → Nat → Bool) (nc : Nat) (t : Ty) : List Dv → Option Bool
  | [] => some false
  | d :: ds => match kitD sub nc t d with
    | some true => some true
    | some false => anyD sub nc t ds
    | none => none
def bIsi (sub : Nat → Nat → Bool) (nc : Nat) : FV := fun ds ω => match ds with
  | [d, .tup ts] => match tyD' ω d with
    | some t => if ts.all isC = true ∧ ts ≠ [] then (match anyD sub nc t ts with
      | some b => .ok (.bl b) ω
      | none => .bad) else .bad
    | none => .bad
  | [d, c] => match tyD' ω d with
    | some t => match kitD sub nc t c with
      | some b => .ok (.bl b) ω
      | none => .bad
    | none => .bad
  | _ => .bad
section
variable {K : PySem.W.Frag} {cl : Cl} {sub : Nat → Nat → Bool} {nc : Nat} {R : Rc} {H : Hp} {ω : Store} {W : WX} {v : V} {d : Dv}
def tOk : Ty → Prop
  | .b n => n ∈ "NoneType" :: "dict" :: tyN
  | .o _ => True
theorem ty_of (wd : Wd K cl sub nc) {t : Ty} (r : Rep K cl R H v d) (st : RepSt K cl R H ω) (e : tyD' ω d = some t) (h : ∀ c, t = .o c → c < nc) : TyX K H v (tyVal cl t) ∧ tOk t := by
  unfold tyD' at e
  split at e
  · cases e; cases r; exact ⟨.base .non, (by show _ ∈ _ :: _; decide)⟩
  · cases e; cases r; exact ⟨.base (.bl _), (by show _ ∈ _ :: _; decide)⟩
  · cases e; cases r; exact ⟨.base (.int _), (by show _ ∈ _ :: _; decide)⟩
  · cases e; cases r; exact ⟨.base (.str _), (by show _ ∈ _ :: _; decide)⟩
  · cases e
    cases r with
    | lst h a => exact ⟨.base (.lst h.1), (by show _ ∈ _ :: _; decide)⟩
  · cases e
    cases r with
    | tup h a =>
      refine ⟨?_, (by show _ ∈ _ :: _; decide)⟩
      rcases h with ⟨h, _⟩ | ⟨o, its, n, h1, h2, _⟩
      · exact .base (.tup h)
      · exact .kTuple h1 h2
  · cases e
    cases r with
    | obj h' _ _ _ => exact ⟨wd.ty _ (h _ rfl) _ _ _ _ h', trivial⟩
  · split at e
    · cases e
      rename_i hi
      cases r with
      | own ha =>
        obtain ⟨a, h1, h2, xs, h3, h4⟩ := st.cell _ _ hi rfl
        rw [ha] at h1
        cases h1
        exact ⟨.base (.lst h3), (by show _ ∈ _ :: _; decide)⟩
    · cases e
      rename_i hi
      cases r with
      | own ha =>
        obtain ⟨a, h1, h2, dx, fs, h3, h4⟩ := st.cell _ _ hi rfl
        rw [ha] at h1
        cases h1
        exact ⟨wd.ty _ (h _ rfl) _ _ _ _ h3, trivial⟩
    · cases e
  · cases e
theorem kit_bb (t n : String) (ht : t ∈ "NoneType" :: "dict" :: tyN) (hn : n ∈ tyN) : PySem.W.kitOne K (.type t) (.type n) = some (t == n || (t == "bool" && n == "int")) := by
  have key : ∀ t ∈ "NoneType" :: "dict" :: tyN, ∀ n ∈ tyN, kitB t n = some (t == n || (t == "bool" && n == "int")) := by decide +kernel
  exact kit_ty (key t ht n hn)
theorem kit_of' (wd : Wd K cl sub nc) {t : Ty} {c : Dv} {x : V} {b : Bool} (tk : tOk t) (rc : Rep K cl R H x c) (e : kitD sub nc t c = some b) : ∃ u, ClsV x u ∧ PySem.W.kitOne K (tyVal cl t) u = some b := by
  unfold kitD at e
  split at e
  · split at e
    · rename_i hn
      cases e; cases rc
      exact ⟨_, .ty _, kit_bb _ _ tk hn⟩
    · cases e
  · split at e
    · rename_i hn
      cases e; cases rc
      exact ⟨_, .ty _, wd.k2 _ hn.2 _ hn.1⟩
    · cases e
  · split at e
    · rename_i hn
      cases e; cases rc
      exact ⟨_, .own _, wd.k3 _ hn _ tk⟩
    · cases e
  · split at e
    · rename_i hn
      cases e; cases rc
      exact ⟨_, .own _, wd.k1 _ hn.1 _ hn.2⟩
    · cases e
  · cases e
theorem kit_lt_of {t : Ty} {c : Dv} {b : Bool} (e : kitD sub nc t c = some b) : ∀ k, t = .o k → k < nc := fun k z => by
  subst z
  cases c <;> first | (cases e; done) | skip
  · unfold kitD at e
    dsimp only at e
    split at e
    · rename_i h; exact h.2
    · cases e
  · unfold kitD at e
    dsimp only at e
    split at e
    · rename_i h; exact h.1
    · cases e
theorem cls_all : ∀ {ts : List Dv} {xs : List V}, RepAll K cl R H xs ts → ts.all isC = true → ∃ us, Paired ClsV xs us
  | [], _, .nil, _ => ⟨[], .nil⟩
  | c :: ts, _, .cons a r, h => by
    rw [List.all_cons] at h
    obtain ⟨h1, h2⟩ := Bool.and_eq_true_iff.mp h
    obtain ⟨us, h3⟩ := cls_all r h2
    cases a <;> first | (cases h1; done) | skip
    · exact ⟨_, .cons (.ty _) h3⟩
    · exact ⟨_, .cons (.own _) h3⟩
theorem any_of' (wd : Wd K cl sub nc) {t : Ty} (tk : tOk t) : ∀ {ts : List Dv} {xs : List V} {b : Bool}, RepAll K cl R H xs ts → ts.all isC = true → anyD sub nc t ts = some b → ∃ us, Paired ClsV xs us ∧ PySem.W.kitAny K (tyVal cl t) us = some b
  | [], _, _, .nil, _, e => by cases e; exact ⟨[], .nil, kitAny_nil⟩
  | c :: ts, _, _, .cons a r, ha, e => by
    rw [List.all_cons] at ha
    obtain ⟨_, ha⟩ := Bool.and_eq_true_iff.mp ha
    unfold anyD at e
    split at e
    · rename_i h
      cases e
      obtain ⟨u, h1, h2⟩ := kit_of' wd tk a h
      obtain ⟨us, h3⟩ := cls_all r ha
      exact ⟨u :: us, .cons h1 h3, kitAny_cons h2 (fun z => by cases z) fun _ => rfl⟩
    · rename_i h
      obtain ⟨u, h1, h2⟩ := kit_of' wd tk a h
      obtain ⟨us, h3, h4⟩ := any_of' wd tk r ha e
      exact ⟨u :: us, .cons h1 h3, kitAny_cons h2 (fun _ => h4) fun z => by cases z⟩
    · cases e
theorem any_lt_of {t : Ty} : ∀ {ts : List Dv} {b : Bool}, ts ≠ [] → anyD sub nc t ts = some b → ∀ k, t = .o k → k < nc
  | [], _, h, _ => absurd rfl h
  | c :: ts, b, _, e => by
    unfold anyD at e
    split at e
    · rename_i h; exact kit_lt_of h
    · rename_i h; exact kit_lt_of h
    · cases e
theorem rc_isi (wd : Wd K cl sub nc) : RC cl K W (fun xs H Q => rIsi K xs H Q ∨ rIsiT K xs H Q ∨ rIsiK K xs H Q) (bIsi sub nc) := fun R σ H ω xs ds Q rx st o => by
  unfold bIsi at o
  split at o
  · rename_i d ts
    split at o
    · rename_i t ht
      split at o
      · rename_i hz
        split at o
        · rename_i b hb
          cases rx with
          | cons a r =>
            cases r with
            | cons b' r =>
              cases r
              cases b' with
              | tup h3 h4 =>
                rcases h3 with ⟨h3, _⟩ | h3
                · obtain ⟨h1, h2⟩ := ty_of wd a st ht (any_lt_of hz.2 hb)
                  obtain ⟨us, h5, h6⟩ := any_of' wd h2 h4 hz.1 hb
                  exact .inr (.inl ⟨_, _, _, _, us, b, rfl, h3, h5, h1, h6, o.val (.bl _) st⟩)
                · obtain ⟨h1, h2⟩ := ty_of wd a st ht (any_lt_of hz.2 hb)
                  obtain ⟨us, h5, h6⟩ := any_of' wd h2 h4 hz.1 hb
                  obtain ⟨⟨oc, od, odt, osl⟩, its, n, k1, rfl, rfl, k4, k5⟩ := h3
                  have := ClsV.all h5 k5
                  subst this
                  exact .inr (.inr ⟨_, _, od, its.toList, n, osl, _, b, rfl, k1, h1, h6, o.val (.bl _) st⟩)
        · exact o.elim
      · exact o.elim
    · exact o.elim
  · split at o
    · rename_i t ht
      split at o
      · rename_i b hb
        cases rx with
        | cons a r =>
          cases r with
          | cons c r =>
            cases r
            obtain ⟨h1, h2⟩ := ty_of wd a st ht (kit_lt_of hb)
            obtain ⟨u, h5, h6⟩ := kit_of' wd h2 c hb
            exact .inl ⟨_, _, _, u, b, rfl, h5, h1, h6, o.val (.bl _) st⟩
      · exact o.elim
    · exact o.elim
  · exact o.elim
end
end Mine
namespace Mine
open PySem PySem.Spec PyProof.Rows L2
/-! ### special methods of one's own: nothing is raised -/
def spG0 (K : PySem.W.Frag) (cl : Cl) (n : Nat) (g : PFn) : Sp := fun vs H Q _ => spG K cl n g vs H Q E0
def noX {α : Type} : Res α → Res α
  | .exc _ _ => .bad
  | r => r
section
variable {P : Program} {w : World} {K : PySem.W.Frag} {mg : Str → Option Value} {base : Heap} {cl : Cl} {W : WX} {R : Rc} {H : Hp} {ω : Store} {σ : L2.St}
theorem FnOk.g0 {k n : Nat} {f : Addr} {fd : FuncData} {ps : List Str} {g : PFn} (F : FnOk P w K mg base (L2.CX P w) k f fd ps (spG K cl n g)) : FnOk P w K mg base CX0 k f fd ps (spG0 K cl n g) := FnOk.calm0 F
theorem spG0_of {n : Nat} {g : PFn} {vs : List V} {ds : List Dv} {Q : VK} {E : XK} (r : RepAll K cl R H vs ds) (st : RepSt K cl R H ω) (o : Out K cl W rV R σ H (noX (callP n g ds ω)) Q) : spG0 K cl n g vs H Q E := by
  refine spG_of (W := WF) (σ := σ) r st ?_
  cases e : callP n g ds ω with
  | ok d ω' => rw [e] at o; exact o
  | exc x ω' => rw [e] at o; exact o.elim
  | bad => rw [e] at o; exact o
theorem Out.inner {α β γ δ : Type} {rel : Rel α β} {rel2 : Rel γ δ} {r : Res β} {k : β → Store → Res δ} {Q : α → Hp → Prop} {Q2 : γ → Hp → Prop} (o : Out K cl W rel2 R σ H (r.bind k) Q2)
    (h : ∀ R' v H' d ω', Step R H R' H' → rel K cl R' H' v d → RepSt K cl R' H' ω' → Out K cl W rel2 R' σ H' (k d ω') Q2 → Q v H') : Out K cl W rel R σ H r Q := by
  cases r with
  | ok d ω' => exact fun R' v H' s rv st => h R' v H' d ω' s rv st (Out.step s o)
  | exc x ω' => exact o
  | bad => exact o
/-- == -/
def tyLt (nc : Nat) : Ty → Bool
  | .o c => decide (c < nc)
  | .b _ => true
def fEqO (nc c : Nat) (g : PFn) (neg : Bool) : F2 := fun d e ω => match asO ω d, tyD' ω e with
  | some (c', _, _), some t => if c' = c ∧ tyLt nc t = true then (noX (callP 2 g [d, e] ω)).bind fun z ω => match z with
    | .bl b => .ok (.bl (if neg then !b else b)) ω
    | _ => .bad else .bad
  | _, _ => .bad
structure NF (K : PySem.W.Frag) (cl : Cl) (nc c : Nat) : Prop where
  b : ∀ n ∈ "NoneType" :: "dict" :: tyN, PySem.W.notFirst K (cl c) (.type n) = true
  o : ∀ c', c' < nc → PySem.W.notFirst K (cl c) (.ref (cl c')) = true
theorem ro_eqO {sub : Nat → Nat → Bool} {nc c : Nat} {g : PFn} {neg : Bool} (wd : Wd K cl sub nc) (nf : NF K cl nc c) : RO cl K W (rEqO K (cl c) (spG0 K cl 2 g) neg) (fEqO nc c g neg) := fun R σ H ω x y d e Q rx ry st o => by
  unfold fEqO at o
  split at o
  case h_2 => exact o.elim
  rename_i c' ns l t ho ht
  split at o
  case isFalse => exact o.elim
  rename_i hcc
  obtain ⟨rfl, hlt⟩ := hcc
  obtain ⟨a, dx, fs, rfl, h1, h2, h3⟩ := asO_at rx st ho
  have hlt' : ∀ c, t = .o c → c < nc := fun c z => by subst z; exact of_decide_eq_true hlt
  obtain ⟨t1, t2⟩ := ty_of wd ry st ht hlt'
  refine ⟨a, dx, fs, _, rfl, h1, t1, ?_, ?_⟩
  · cases t with
    | b n => exact nf.b n t2
    | o c' => exact nf.o c' (hlt' c' rfl)
  · refine spG0_of (W := W) (σ := σ) (RepAll.cons rx (.cons ry .nil)) st (Out.inner (rel := rV) o fun R' v H' z ω' s rv st' o' => ?_)
    split at o'
    · cases rv
      exact ⟨_, rfl, o'.val (.bl _) st'⟩
    · exact o'.elim
/-- x + y and the like: both of the class; the right, the left one an int -/
def fBinO (c : Nat) (g : PFn) : F2 := fun d e ω => match asO ω d, asO ω e with
  | some (c', _, _), some (c2, _, _) => if c' = c ∧ c2 = c then noX (callP 2 g [d, e] ω) else .bad
  | _, _ => .bad
def fBinI (c : Nat) (g : PFn) : F2 := fun d e ω => match asO ω d, e with
  | some (c', _, _), .int _ => if c' = c then noX (callP 2 g [d, e] ω) else .bad
  | _, _ => .bad
def fBinR (c : Nat) (g : PFn) : F2 := fun e d ω => match asO ω d, e with
  | some (c', _, _), .int _ => if c' = c then noX (callP 2 g [d, e] ω) else .bad
  | _, _ => .bad
def fUnO (c : Nat) (g : PFn) : F1 := fun d ω => match asO ω d with
  | some (c', _, _) => if c' = c then noX (callP 1 g [d] ω) else .bad
  | none => .bad
theorem ro_binO {c : Nat} {g : PFn} : RO cl K W (rBinO (cl c) (spG0 K cl 2 g)) (fBinO c g) := fun R σ H ω x y d e Q rx ry st o => by
  unfold fBinO at o
  split at o
  case h_2 => exact o.elim
  rename_i c' ns l c2 ns2 l2 ho ho2
  split at o
  case isFalse => exact o.elim
  rename_i hcc
  obtain ⟨rfl, rfl⟩ := hcc
  obtain ⟨a, dx, fs, rfl, h1, h2, h3⟩ := asO_at rx st ho
  obtain ⟨b, dy, gs, rfl, k1, k2, k3⟩ := asO_at ry st ho2
  exact ⟨a, dx, fs, b, dy, gs, rfl, rfl, h1, k1, spG0_of (W := W) (σ := σ) (RepAll.cons rx (.cons ry .nil)) st o⟩
theorem ro_binI {c : Nat} {g : PFn} : RO cl K W (rBinI (cl c) (spG0 K cl 2 g)) (fBinI c g) := fun R σ H ω x y d e Q rx ry st o => by
  unfold fBinI at o
  split at o
  case h_2 => exact o.elim
  rename_i c' ns l i ho
  split at o
  case isFalse => exact o.elim
  rename_i hcc
  subst hcc
  obtain ⟨a, dx, fs, rfl, h1, h2, h3⟩ := asO_at rx st ho
  have ry' := ry
  cases ry
  exact ⟨a, dx, fs, i, rfl, rfl, h1, spG0_of (W := W) (σ := σ) (RepAll.cons rx (.cons ry' .nil)) st o⟩
theorem ro_binR {c : Nat} {g : PFn} : RO cl K W (rBinR (cl c) (spG0 K cl 2 g)) (fBinR c g) := fun R σ H ω y x e d Q ry rx st o => by
  unfold fBinR at o
  split at o
  case h_2 => exact o.elim
  rename_i c' ns l i ho
  split at o
  case isFalse => exact o.elim
  rename_i hcc
  subst hcc
  obtain ⟨a, dx, fs, rfl, h1, h2, h3⟩ := asO_at rx st ho
  have ry' := ry
  cases ry
  exact ⟨a, dx, fs, i, rfl, rfl, h1, spG0_of (W := W) (σ := σ) (RepAll.cons rx (.cons ry' .nil)) st o⟩
theorem ru_unO {c : Nat} {g : PFn} : RU1 cl K W (rUnO (cl c) (spG0 K cl 1 g)) (fUnO c g) := fun R σ H ω x d Q rx st o => by
  unfold fUnO at o
  split at o
  case h_2 => exact o.elim
  rename_i c' ns l ho
  split at o
  case isFalse => exact o.elim
  rename_i hcc
  subst hcc
  obtain ⟨a, dx, fs, rfl, h1, h2, h3⟩ := asO_at rx st ho
  exact ⟨a, dx, fs, rfl, h1, spG0_of (W := W) (σ := σ) (RepAll.cons rx .nil) st o⟩
def bUnO (c : Nat) (g : PFn) : FV := fun ds ω => match ds with
  | [d] => fUnO c g d ω
  | _ => .bad
theorem rc_absO {c : Nat} {g : PFn} : RC cl K W (rAbsO (cl c) (spG0 K cl 1 g)) (bUnO c g) := fun R σ H ω xs ds Q rx st o => by
  unfold bUnO at o
  split at o
  · cases rx with
    | cons a r =>
      cases r
      exact ⟨_, rfl, ru_unO R σ H ω _ _ Q a st o⟩
  · exact o.elim
/-- str(x), repr(x), a field of an f-string -/
def fStrO (c : Nat) (g : PFn) : F1 := fun d ω => (fUnO c g d ω).bind fun z ω => match z with
  | .str s => .ok (.str s) ω
  | _ => .bad
theorem strs_of {c : Nat} {g : PFn} {x : V} {d : Dv} {Q : VK} (rx : Rep K cl R H x d) (st : RepSt K cl R H ω) (o : Out K cl W rV R σ H (fStrO c g d ω) Q) : spStrs (cl c) (spG0 K cl 1 g) x H Q := by
  unfold fStrO at o
  have o1 : Out K cl W rV R σ H (fUnO c g d ω) (fun v H' => ∃ z, v = .str z ∧ Q (.str z) H') := Out.inner o fun R' v H' z ω' s rv st' o' => by
    split at o'
    · cases rv
      exact ⟨_, rfl, o'.val (.str _) st'⟩
    · exact o'.elim
  unfold fUnO at o1
  split at o1
  case h_2 => exact o1.elim
  rename_i c' ns l ho
  split at o1
  case isFalse => exact o1.elim
  rename_i hcc
  subst hcc
  obtain ⟨a, dx, fs, rfl, h1, h2, h3⟩ := asO_at rx st ho
  exact ⟨a, dx, fs, rfl, h1, spG0_of (W := W) (σ := σ) (RepAll.cons rx .nil) st o1⟩
def bStrO (c : Nat) (g : PFn) : FV := fun ds ω => match ds with
  | [d] => fStrO c g d ω
  | _ => .bad
theorem rc_strO {c : Nat} {g : PFn} : RC cl K W (rStrO (cl c) (spG0 K cl 1 g)) (bStrO c g) := fun R σ H ω xs ds Q rx st o => by
  unfold bStrO at o
  split at o
  · cases rx with
    | cons a r =>
      cases r
      exact ⟨_, rfl, strs_of a st o⟩
  · exact o.elim
end
section
variable {cl : Cl} {X : Cx} {W : WX} {E : XK} {o e : Expr} {es : List Expr} {go ge : GE} {gs : GA} {k n : Nat} {f C : Addr} {fd : FuncData} {ps : List Str} {g : PFn} {dvs : List V} {dds : List Dv} {ds : List Value} {x m : Str} {p pos apos : Pos}
theorem j_fmtO {c : Nat} (F : FnOk X.prog X.w X.K X.mg X.base (L2.CX X.prog X.w) k f fd ps (spG X.K cl 1 g)) (S : Spec X.K (cl c) "__str__" f) (M : FmtC X.K (cl c)) (hr : Room (k + 1) X.A) (hb : Binds X.K fd ps []) (h : JE cl X W e ge) : JE cl X W (.FormattedValue e (-1) none pos) (e1 (fStrO c g) ge) :=
  let ⟨_, p, q⟩ := h
  ⟨_, pe_fmtO (Mine.FnOk.g0 F) S M hr hb p, fun R σ H ρ ω Q he hs o => q.seq he hs o fun R1 x H1 d ω1 s1 r1 st1 he1 o1 => strs_of r1 st1 o1⟩
/-- one rule or another -/
def eOrE (g h : GE) : GE := fun ρ ω => match g ρ ω with
  | .bad => h ρ ω
  | r => r
theorem j_orE {e : Expr} {g h : GE} (h1 : JE cl X W e g) (h2 : JE cl X W e h) : JE cl X W e (eOrE g h) := by
  obtain ⟨t, p, q⟩ := h1
  obtain ⟨t', p', q'⟩ := h2
  refine ⟨fun σ H Q => t σ H Q ∨ t' σ H Q, ⟨fun pins s σ H Q I h => h.elim (p.run pins s σ H Q I) (p'.run pins s σ H Q I)⟩, fun R σ H ρ ω Q he hs o => ?_⟩
  unfold eOrE at o
  split at o
  · exact .inr (q' R σ H ρ ω Q he hs o)
  · exact .inl (q R σ H ρ ω Q he hs o)
theorem j_dead {e : Expr} : JE cl X W e (fun _ _ => .bad) := ⟨_, pe_dead, fun R σ H ρ ω Q he hs o => o⟩
/-- C.m(..), a static method -/
def eSMeth (c n : Nat) (g : PFn) (dds : List Dv) (go : GE) (gs : GA) : GE := fun ρ ω => (go ρ ω).bind fun d ω => match d with
  | .gl c' => if c' = c then (gs ρ ω).bind fun ds ω => callP n g (ds ++ dds) ω else .bad
  | _ => .bad
theorem j_smeth {c : Nat} {pl : Sem Bool} {mc : Value} {pp gg : Addr} (r : ClX.CRead X.K (cl c) mc) (sm : SMet X.K (cl c) mc m pp gg) (F : FnOk X.prog X.w X.K X.mg X.base (L2.CX X.prog X.w) k gg fd ps (spG X.K cl n g)) (hr : Room k X.A) (hb : Binds X.K fd ps ds) (hd : Vals dvs ds) (hdd : ∀ R H, RepAll X.K cl R H dvs dds) (hx : Passes (L2.CX X.prog X.w) X E)
    (ho : JE cl X (fun c d _ H => E c d H) o go) (ha : JA cl X (fun c d _ H => E c d H) (e :: es) gs)
    (hst : starEach (e :: es) X.env = (false, eval e X.env) :: starEach es X.env := by rfl) (hpl : (backTo pos (starEach es X.env)).any (·.1) = false := by rfl)
    (ht : eval (.Call (.Attribute o m apos) (e :: es) [] pos) X.env = (do
      let ov ← eval o X.env
      standAt apos.atName
      let (f, first) ← holding [ov] (getMethod ov m pl)
      callWith pos f first (backTo pos (starEach (e :: es) X.env)) (backToKw pos (keywordEach [] X.env))) := by rfl) :
    JE cl X (fun c d _ H => E c d H) (.Call (.Attribute o m apos) (e :: es) [] pos) (eSMeth c n g dds go gs) :=
  let ⟨_, p, q⟩ := ho
  let ⟨_, p', q'⟩ := ha
  ⟨_, pe_smeth (pl := pl) p r sm F hr hb hd hx p' hst hpl ht, fun R σ H ρ ω Q he hs o =>
    q.seq he hs o fun R1 v H1 d ω1 s1 r1 st1 he1 o1 => by
      split at o1
      · split at o1
        · rename_i hcc
          subst hcc
          cases r1
          exact ⟨rfl, q'.seq he1 st1 o1 fun R2 vs H2 ds ω2 s2 r2 st2 he2 o2 => spG_of (W := fun c d _ H => E c d H) (RepAll.append r2 (hdd R2 H2)) st2 o2⟩
        · exact o1.elim
      · exact o1.elim⟩
/-! ### keywords -/
def JK (cl : Cl) (X : Cx) (W : WX) (kws : List Keyword) (g : GA) : Prop := ∃ t, PK X kws t ∧ Fr X.K cl W rVs t g
theorem jk_nil : JK cl X W [] aNil := ⟨_, pk_nil, fun R σ H ρ ω Q he hs o => Out.val (rel := rVs) o .nil hs⟩
theorem jk_cons {nm : Option Str} {kws : List Keyword} {kpos : Pos} (h : JE cl X W e ge) (h' : JK cl X W kws gs) : JK cl X W (⟨nm, e, kpos⟩ :: kws) (aCons ge gs) := let ⟨_, p, q⟩ := h; let ⟨_, p', q'⟩ := h'; ⟨_, pk_cons p p', fun R σ H ρ ω Q he hs o =>
  q.seq he hs o fun R1 x H1 d ω1 s1 r1 st1 he1 o1 => q'.seq he1 st1 o1 fun R2 xs H2 ds ω2 s2 r2 st2 he2 o2 => Out.val (rel := rVs) o2 (.cons (r1.step s2) r2) st2⟩
/-- how values and keywords come together -/
def RKw (cl : Cl) (gV : List V → List V → List V) (gD : List Dv → List Dv → List Dv) : Prop := ∀ (K : PySem.W.Frag) (R : Rc) (H : Hp) (vs zs : List V) (ds es : List Dv), RepAll K cl R H vs ds → RepAll K cl R H zs es → RepAll K cl R H (gV vs zs) (gD ds es)
def eMakeK (n l : Nat) (q : Nat) (c : Nat) (g : MFn) (gD : List Dv → List Dv → List Dv) (gs gk : GA) : GE := fun ρ ω => (gs ρ ω).bind fun ds ω => (gk ρ ω).bind fun es ω => if ds.length = n ∧ es.length = l then callP q (mkP c g) (gD ds es) ω else .bad
theorem j_makeK {c q l : Nat} {g : MFn} {ks : List Str} {kws : List Keyword} {gk : GA} {gg : List Value → List Value → List Value} {gV gV' : List V → List V → List V} {gD : List Dv → List Dv → List Dv} (hV : ∀ x vs zs, gV (x :: vs) zs = x :: (gV' vs zs)) (hD : RKw cl gV' gD) (M : Mk X.K (cl c) f)
    (F : FnOk X.prog X.w X.K X.mg X.base (L2.CX X.prog X.w) k f fd ps (spM X.K cl (q + 1) g)) (hr : Room (k + 1) X.A) (hg : Gl X x) (hm : X.mg x = some (.ref (cl c))) (hb : KBn X.K fd ps (n + 1) ks gg gV) (hx : Passes (L2.CX X.prog X.w) X E)
    (ha : JA cl X (fun c d _ H => E c d H) (e :: es) gs) (hk : JK cl X (fun c d _ H => E c d H) kws gk)
    (hsm : (backToKw pos (keywordEach kws X.env)).all (·.1.isSome) = true := by rfl) (hks : (backToKw pos (keywordEach kws X.env)).filterMap (·.1) = ks := by rfl) (hdb : (x == ("__debug__" : Str)) = false := by decide)
    (he : starEach (e :: es) X.env = (false, eval e X.env) :: starEach es X.env := by rfl) (hpl : ((backTo pos (starEach (e :: es) X.env)).any (·.1) || (backToKw pos (keywordEach kws X.env)).any (·.1.isNone)) = false := by rfl) (hkl : ks.length = l := by rfl) :
    JE cl X (fun c d _ H => E c d H) (.Call (.Name x p) (e :: es) kws pos) (eMakeK n l q c g gD gs gk) :=
  let ⟨_, p, pq⟩ := ha
  let ⟨_, p', pq'⟩ := hk
  ⟨_, pe_makeK M F hr hg hm hb hx p p' hsm hks hdb he hpl, fun R σ H ρ ω Q he hs o =>
    pq.seq he hs o fun R1 vs H1 ds ω1 s1 r1 st1 he1 o1 => pq'.seq he1 st1 o1 fun R2 zs H2 es ω2 s2 r2 st2 he2 o2 => by
      split at o2
      case isFalse => exact o2.elim
      rename_i hl
      have r1' := RepAll.step s2 r1
      refine ⟨(RepAll.length r1).trans hl.1, (RepAll.length r2).trans (hl.2.trans hkl.symm), fun x dx nx nd ne => ?_⟩
      have ra := hD X.K R2 H2 vs zs ds es r1' r2
      have hl := callP_len o2
      rw [← ra.length] at hl
      subst hl
      rw [hV]
      exact make_of (W := fun c d _ H => E c d H) ra st2 rfl o2 x dx nx nd ne⟩
theorem j_makeK0 {c q l : Nat} {g : MFn} {ks : List Str} {kws : List Keyword} {gk : GA} {gg : List Value → List Value → List Value} {gV gV' : List V → List V → List V} {gD : List Dv → List Dv → List Dv} (hV : ∀ x vs zs, gV (x :: vs) zs = x :: (gV' vs zs)) (hD : RKw cl gV' gD) (M : Mk X.K (cl c) f)
    (F : FnOk X.prog X.w X.K X.mg X.base (L2.CX X.prog X.w) k f fd ps (spM X.K cl (q + 1) g)) (hr : Room (k + 1) X.A) (hg : Gl X x) (hm : X.mg x = some (.ref (cl c))) (hb : KBn X.K fd ps 1 ks gg gV) (hx : Passes (L2.CX X.prog X.w) X E)
    (hk : JK cl X (fun c d _ H => E c d H) kws gk)
    (hsm : (backToKw pos (keywordEach kws X.env)).all (·.1.isSome) = true := by rfl) (hks : (backToKw pos (keywordEach kws X.env)).filterMap (·.1) = ks := by rfl) (hdb : (x == ("__debug__" : Str)) = false := by decide)
    (hpl : ((backTo pos (starEach [] X.env)).any (·.1) || (backToKw pos (keywordEach kws X.env)).any (·.1.isNone)) = false := by rfl) (hkl : ks.length = l := by rfl) :
    JE cl X (fun c d _ H => E c d H) (.Call (.Name x p) [] kws pos) (eMakeK 0 l q c g gD aNil gk) :=
  let ⟨_, p', pq'⟩ := hk
  ⟨_, pe_makeK0 M F hr hg hm hb hx p' hsm hks hdb hpl, fun R σ H ρ ω Q he hs o =>
    pq'.seq he hs o fun R2 zs H2 es ω2 s2 r2 st2 he2 o2 => by
      split at o2
      case isFalse => exact o2.elim
      rename_i hl
      refine ⟨rfl, (RepAll.length r2).trans (hl.2.trans hkl.symm), fun x dx nx nd ne => ?_⟩
      have ra := hD X.K R2 H2 [] zs [] es .nil r2
      have hl := callP_len o2
      rw [← ra.length] at hl
      subst hl
      rw [hV]
      exact make_of (W := fun c d _ H => E c d H) ra st2 rfl o2 x dx nx nd ne⟩
def eCallK0 (n l : Nat) (g : PFn) (gD : List Dv → List Dv → List Dv) (gk : GA) : GE := fun ρ ω => (gk ρ ω).bind fun es ω => if es.length = l then callP n g (gD [] es) ω else .bad
theorem j_callK0 {l : Nat} {ks : List Str} {kws : List Keyword} {gk : GA} {gg : List Value → List Value → List Value} {gV : List V → List V → List V} {gD : List Dv → List Dv → List Dv} (hD : RKw cl gV gD) (F : FnOk X.prog X.w X.K X.mg X.base (L2.CX X.prog X.w) k f fd ps (spG X.K cl n g)) (hr : Room k X.A) (hg : Gl X x) (hm : X.mg x = some (.ref f)) (hk : PySem.W.keepIn X.K (.ref f) = true) (hb : KBn X.K fd ps 0 ks gg gV) (hx : Passes (L2.CX X.prog X.w) X E)
    (hkw : JK cl X (fun c d _ H => E c d H) kws gk)
    (hsm : (backToKw pos (keywordEach kws X.env)).all (·.1.isSome) = true := by rfl) (hks : (backToKw pos (keywordEach kws X.env)).filterMap (·.1) = ks := by rfl) (hdb : (x == ("__debug__" : Str)) = false := by decide)
    (hpl : ((backTo pos (starEach [] X.env)).any (·.1) || (backToKw pos (keywordEach kws X.env)).any (·.1.isNone)) = false := by rfl) (hkl : ks.length = l := by rfl) :
    JE cl X (fun c d _ H => E c d H) (.Call (.Name x p) [] kws pos) (eCallK0 n l g gD gk) :=
  let ⟨_, p', pq'⟩ := hkw
  ⟨_, pe_callK0 F hr hg hm hk hb hx p' (hall := hsm) (hks := hks) (hdb := hdb) (hpl := hpl), fun R σ H ρ ω Q he hs o =>
    pq'.seq he hs o fun R2 zs H2 es ω2 s2 r2 st2 he2 o2 => by
      split at o2
      case isFalse => exact o2.elim
      rename_i hl
      exact ⟨(RepAll.length r2).trans (hl.trans hkl.symm), spG_of (W := fun c d _ H => E c d H) (hD X.K R2 H2 [] zs [] es .nil r2) st2 o2⟩⟩
/-! ### lists that change -/
/-- [..] as a new cell -/
def eLstM (g : GA) : GE := fun ρ ω => (g ρ ω).bind fun ds ω => if ds.length ≤ sizeLine then .ok (.own ω.length) (ω ++ [.lst ds]) else .bad
def Rc.cell (R : Rc) (p : Addr) : Rc := ⟨R.fb, fun a => R.mu a ∨ a = p, R.nm ++ [p]⟩
theorem Step.newCell {R : Rc} {H : Hp} {q : Addr} {o : HO} (h : H q = none) : Step R H (R.cell q) (upd H q o) := by
  have s : Step R H R (upd H q o) := Step.new h
  exact ⟨fun _ z => z, fun _ z => .inl z, ⟨[q], rfl⟩, fun a z => z.imp id fun z => by rw [z]; exact nt_none h, s.keep, s.dom, s.ext⟩
theorem RepSt.newCell {K : PySem.W.Frag} {R : Rc} {H : Hp} {ω : Store} {q : Addr} {o : HO} {c : Cell} (st : RepSt K cl R H ω) (h : H q = none) (lc : live c = true) (hc : CellAt K cl (R.cell q) (upd H q o) q c) (fo : ∀ ps, o ≠ .tbl ps := by intro _ z; cases z) : RepSt K cl (R.cell q) (upd H q o) (ω ++ [c]) := by
  have s := Step.newCell (R := R) (o := o) h
  have k : ∀ a u, H a = some u → upd H q o a = some u := fun a u e => by rw [upd_ne (ne_of_none e h)]; exact e
  have nq : q ∉ R.nm := fun m => st.nmd q m (nt_none h)
  have len := st.len
  have at_ : ∀ (i : Nat) (a : Addr), (R.nm ++ [q])[i]? = some a → R.nm[i]? = some a ∨ (i = R.nm.length ∧ a = q) := fun i a e => by
    by_cases hi : i < R.nm.length
    · rw [List.getElem?_append_left hi] at e; exact .inl e
    · rw [List.getElem?_append_right (by omega)] at e
      have : i - R.nm.length < 1 := (List.getElem?_eq_some_iff.mp e).1
      have hi' : i = R.nm.length := by omega
      subst hi'
      simp at e
      exact .inr ⟨rfl, e.symm⟩
  refine ⟨?_, fun i j a e1 e2 => ?_, fun i d e l => ?_, fun a e => ?_, fun a e => ⟨fun z => (st.fbd a e).1 (s.dom a z), fun z => z.elim (st.fbd a e).2 fun z => (st.fbd a e).1 (by rw [z]; exact nt_none h)⟩, fun a e => ?_, st.tabs.ext (Same.new h)⟩
  · show (R.nm ++ [q]).length = _
    rw [List.length_append, List.length_append, len]
    rfl
  · rcases at_ i a e1 with z1 | ⟨rfl, rfl⟩
    · rcases at_ j a e2 with z2 | ⟨rfl, rfl⟩
      · exact st.inj i j a z1 z2
      · exact absurd (List.mem_of_getElem? z1) nq
    · rcases at_ j _ e2 with z2 | ⟨rfl, _⟩
      · exact absurd (List.mem_of_getElem? z2) nq
      · rfl
  · by_cases hi : i < ω.length
    · rw [List.getElem?_append_left hi] at e
      obtain ⟨a, h1, h2, h3⟩ := st.cell i d e l
      exact ⟨a, by show (R.nm ++ [q])[i]? = _; rw [List.getElem?_append_left (by rw [len]; exact hi)]; exact h1, .inl h2, h3.step s fun u _ z => k a u z⟩
    · rw [List.getElem?_append_right (by omega)] at e
      have : i - ω.length < 1 := (List.getElem?_eq_some_iff.mp e).1
      have hi' : i = ω.length := by omega
      subst hi'
      simp at e
      subst e
      refine ⟨q, ?_, .inr rfl, hc⟩
      show (R.nm ++ [q])[ω.length]? = _
      rw [← len, List.getElem?_append_right (Nat.le_refl _)]
      simp
  · rcases e with e | rfl
    · obtain ⟨i, d, h1, h2, h3⟩ := st.mu a e
      exact ⟨i, d, by show (R.nm ++ [q])[i]? = _; rw [List.getElem?_append_left (List.getElem?_eq_some_iff.mp h1).1]; exact h1, by rw [List.getElem?_append_left (List.getElem?_eq_some_iff.mp h2).1]; exact h2, h3⟩
    · refine ⟨ω.length, c, ?_, ?_, lc⟩
      · show (R.nm ++ [a])[ω.length]? = _
        rw [← len, List.getElem?_append_right (Nat.le_refl _)]
        simp
      · rw [List.getElem?_append_right (Nat.le_refl _)]
        simp
  · rcases List.mem_append.mp e with e | e
    · exact fun z => st.nmd a e (s.dom a z)
    · obtain rfl := List.mem_singleton.mp e
      exact nt_not upd_same fo
theorem j_lstM {es : List Expr} (h : JA cl X W es gs) : JE cl X W (.List es pos) (eLstM gs) := let ⟨_, p, q⟩ := h; ⟨_, pe_lst p, fun R σ H ρ ω Q he hs o =>
  q.seq he hs o fun R1 xs H1 ds ω1 s1 r1 st1 he1 o1 => by
    split at o1
    · rename_i hl
      refine ⟨by rw [RepAll.length r1]; exact hl, fun q nq => ?_⟩
      have s := Step.newCell (R := R1) (o := .lst xs) nq
      refine o1 (R1.cell q) (.ref q) _ s (.own ?_) (st1.newCell nq rfl ⟨xs, upd_same, RepAll.step s r1⟩)
      show (R1.nm ++ [q])[ω1.length]? = _
      rw [← st1.len, List.getElem?_append_right (Nat.le_refl _)]
      simp
    · exact o1.elim⟩
/-- xs.append(y) -/
def eAppend (go ge : GE) : GE := fun ρ ω => (go ρ ω).bind fun d ω => match d with
  | .own i => match ω[i]? with
    | some (.lst _) => (ge ρ ω).bind fun y ω => match ω[i]? with
      | some (.lst l) => if l.length < sizeLine then .ok .non (ω.set i (.lst (l ++ [y]))) else .bad
      | _ => .bad
    | _ => .bad
  | _ => .bad
theorem j_append (ho : JE cl X W o go) (ha : JE cl X W e ge) (hbase : attributeBase o "append" X.env (eval o X.env) = eval o X.env := by rfl)
    (hfew : ((backTo pos (starEach [e] X.env)).all (fun x => !x.1) && (backToKw pos (keywordEach [] X.env)).all (fun x => x.1.isSome)
      && decide (([e] : List Expr).length + ([] : List Keyword).length + (if ([] : List Keyword).isEmpty then 0 else 1) < 30)) = true := by rfl)
    (hline : (apos.endLine == pos.line) = true := by rfl) (hs : starEach [e] X.env = (false, eval e X.env) :: starEach [] X.env := by rfl) (hplain : (backTo pos (starEach [] X.env)).any (·.1) = false := by rfl) :
    JE cl X W (.Call (.Attribute o "append" apos) [e] [] pos) (eAppend go ge) :=
  let ⟨_, p, q⟩ := ho
  let ⟨_, p', q'⟩ := ha
  ⟨_, pe_bm PySem.F.plainAttrs_list PySem.F.slot_list_append PySem.F.type_list_append mt_append p (pa_cons p' pa_nil hs) hbase hfew hline hs hplain, fun R σ H ρ ω Q he hs o =>
    q.seq he hs o fun R1 x H1 d ω1 s1 r1 st1 he1 o1 => by
      split at o1
      case h_2 => exact o1.elim
      rename_i i
      split at o1
      case h_2 => exact o1.elim
      rename_i l h0
      cases r1 with
      | own ha =>
        obtain ⟨a, h1, m, xs, h3, h4⟩ := st1.cell _ _ h0 rfl
        rw [ha] at h1
        cases h1
        refine ⟨.inl ⟨rfl, _, SqL.of h3⟩, ?_⟩
        refine q'.seq he1 st1 o1 fun R2 y H2 z ω2 s2 r2 st2 he2 o2 => ?_
        split at o2
        case h_2 => exact o2.elim
        rename_i l2 h2
        split at o2
        case isFalse => exact o2.elim
        rename_i hl
        have ha2 : R2.nm[i]? = some _ := s2.on.nm _ _ ha
        obtain ⟨a', k1, m2, ys, k3, k4⟩ := st2.cell _ _ h2 rfl
        rw [ha2] at k1
        cases k1
        refine ⟨_, ys, y, rfl, rfl, k3, by rw [k4.length]; exact hl, ?_⟩
        exact o2 R2 .non _ (Step.cell m2 k3 rfl rfl) .non (st2.put h2 rfl ha2 rfl ⟨_, upd_same, (k4.append (.cons r2 .nil)).on (On.cell (K := X.K) m2 k3 rfl)⟩)⟩
/-- from here on the list of a variable's cell does not change -/
def sFreeze (j : Nat) (g : GS) : GS := fun ρ ω => match ρ[j]? with
  | some (some (.own i)) => match ω[i]? with
    | some (.lst l) => g (ρ.set j (some (.lst l))) (ω.set i .gone)
    | _ => .bad
  | _ => g ρ ω
def Rc.thaw (R : Rc) (a : Addr) : Rc := ⟨R.fb, fun b => R.mu b ∧ b ≠ a, R.nm⟩
theorem set_same_st {σ : L2.St} {j : Nat} {v : V} (h : σ[j]? = some (some v)) : σ.set j (some v) = σ := by
  obtain ⟨h1, h2⟩ := List.getElem?_eq_some_iff.mp h
  rw [← h2, List.set_getElem_self]
theorem fr_freeze {K : PySem.W.Frag} {t : TS} {g : GS} {j : Nat} (h : FrS K cl W t g) : FrS K cl W t (sFreeze j g) := fun R σ H ρ ω D he hs o => by
  unfold sFreeze at o
  split at o
  · rename_i i hj
    split at o
    · rename_i l hi
      obtain ⟨v, h1, h2⟩ := he.get hj
      cases h2 with
      | own ha =>
        rename_i a
        obtain ⟨a', k1, m, xs, k3, k4⟩ := hs.cell _ _ hi rfl
        rw [ha] at k1
        cases k1
        have on : On R H (R.thaw a) H := ⟨fun b f _ => ⟨f.1, fun z => f.2 z.1⟩, fun _ _ _ _ e => e, fun _ _ e => e, fun _ _ e => e⟩
        have hil := (List.getElem?_eq_some_iff.mp hi).1
        have stT : RepSt K cl (R.thaw a) H (ω.set i .gone) := by
          refine ⟨by rw [List.length_set]; exact hs.len, hs.inj, fun n c e lc => ?_, fun b e => ?_, fun b e => ⟨(hs.fbd b e).1, fun z => (hs.fbd b e).2 z.1⟩, hs.nmd, hs.tabs⟩
          · by_cases z : i = n
            · subst z
              rw [List.getElem?_set_self hil] at e
              cases e
              cases lc
            · rw [List.getElem?_set_ne z] at e
              obtain ⟨b, q1, q2, q3⟩ := hs.cell n c e lc
              exact ⟨b, q1, ⟨q2, fun w => z (hs.inj i n a ha (by rw [← w]; exact q1))⟩, q3.on on fun _ _ q => q⟩
          · obtain ⟨n, c, q1, q2, q3⟩ := hs.mu b e.1
            have z : i ≠ n := fun w => e.2 (by subst w; rw [ha] at q1; exact (Option.some.inj q1).symm)
            exact ⟨n, c, q1, by rw [List.getElem?_set_ne z]; exact q2, q3⟩
        have heT : RepEnv K cl (R.thaw a) H σ (ρ.set j (some (.lst l))) := by
          have fa : Free (R.thaw a) a := ⟨hs.nofb ha m, fun z => z.2 rfl⟩
          have rr : Rep K cl (R.thaw a) H (.ref a) (.lst l) := .lst ⟨k3, fa⟩ (k4.on on)
          have := (he.on on).set rr j
          rw [set_same_st h1] at this
          exact this
        have st2 : Step R H (R.thaw a) H := ⟨fun _ z => z, fun _ z => .inl z, ⟨[], by rw [List.append_nil]; rfl⟩, fun _ z => .inl z.1, fun _ _ _ _ q => q, fun _ z => z, fun _ _ q => q⟩
        exact h (R.thaw a) σ H _ _ D heT stT (OutS.step st2 o)
    · exact o.elim
  · exact h R σ H ρ ω D he hs o
theorem js_freeze {st : Stmt} {g : GS} (j : Nat) (h : JS cl X W st g) : JS cl X W st (sFreeze j g) := let ⟨_, p, q⟩ := h; ⟨_, p, fr_freeze q⟩
/-- xs[i] = v -/
def sSetIx (go gi gv : GE) : GS := fun ρ ω => (gv ρ ω).then ρ fun v ω => (go ρ ω).then ρ fun d ω => (gi ρ ω).then ρ fun k ω => match d, k with
  | .own i, .int k => match ω[i]? with
    | some (.lst l) => match ixN l.length k with
      | some j => .next ρ (ω.set i (.lst (l.set j v)))
      | none => .bad
    | _ => .bad
  | _, _ => .bad
theorem js_setIx {i v : Expr} {gi gv : GE} {ipos : Pos} (ho : JE cl X W o go) (hi : JE cl X W i gi) (hv : JE cl X W v gv)
    (ha : ∀ v, assign (.Subscript o i ipos) X.env v = (do
      let ov ← holding [v] (eval o X.env)
      let iv ← holding [v, ov] (eval i X.env)
      standAt ipos
      holding [v, ov, iv] (setItem ov iv v)
      release [v, ov, iv] []) := by intro _; rfl) (hs : swapsWithSole [.Subscript o i ipos] v pos.line X.env = pure false := by rfl) (hw : swappedStores [.Subscript o i ipos] v X.env = pure none := by rfl)
    (hae : (assignEach [.Subscript o i ipos] X.env).map (·.2) = [assign (.Subscript o i ipos) X.env] := by rfl) : JS cl X W (.Assign [.Subscript o i ipos] v pos) (sSetIx go gi gv) :=
  let ⟨_, p, q⟩ := ho
  let ⟨_, p', q'⟩ := hi
  let ⟨_, p2, q2⟩ := hv
  ⟨_, ps_asg p2 (pg_sub p p' set_list ha) hs hw hae, fun R σ H ρ ω D he hs o =>
    q2.seqS he hs o fun R1 y H1 v ω1 s1 r1 st1 he1 o1 => q.seqS he1 st1 o1 fun R2 x H2 d ω2 s2 r2 st2 he2 o2 => q'.seqS he2 st2 o2 fun R3 z H3 k ω3 s3 r3 st3 he3 o3 => by
      split at o3
      case h_2 => exact o3.elim
      rename_i i kk
      split at o3
      case h_2 => exact o3.elim
      rename_i l h0
      split at o3
      case h_2 => exact o3.elim
      rename_i j hj
      cases r3
      have r2 := r2.step s3
      cases r2 with
      | own ha =>
        obtain ⟨a, h1, m, xs, h3, h4⟩ := st3.cell _ _ h0 rfl
        rw [ha] at h1
        cases h1
        refine ⟨_, xs, kk, j, rfl, rfl, h3, by rw [h4.length]; exact hj, ?_⟩
        have ry := (r1.step s2).step s3
        exact o3 R3 σ _ (Step.cell m h3 rfl rfl) (he3.step (Step.cell m h3 rfl rfl)) (st3.put h0 rfl ha rfl ⟨_, upd_same, (h4.set ry j).on (On.cell (K := X.K) m h3 rfl)⟩)⟩
end
end Mine
namespace Mine
open PySem PySem.Spec PyProof.Rows L2
section
variable {P : Program} {w : World} {K : PySem.W.Frag} {mg : Str → Option Value} {base : Heap} {cl : Cl} {N : List Str} {qual : Str} {sc : Scope} {f : Addr} {cdv : Value} {A : Around} {outer : List Env} {s : Shared} {H : Hp} {E : XK}
theorem tkD : Takes (cxOf (L2.CX P w) P w K mg base N qual sc f cdv A outer s H E) (fun c d _ H => E c d H) := takes_of rfl rfl rfl rfl
theorem hxD : Passes (L2.CX P w) (cxOf (L2.CX P w) P w K mg base N qual sc f cdv A outer s H E) E := passes_call tkD fun _ _ _ _ h => h
theorem poD : PassesOwn (model P w) (cxOf (L2.CX P w) P w K mg base N qual sc f cdv A outer s H E).A (cxOf (L2.CX P w) P w K mg base N qual sc f cdv A outer s H E).env (cxOf (L2.CX P w) P w K mg base N qual sc f cdv A outer s H E).xe := passes_of rfl
end
theorem tkB {X : Cx} : Takes X WF := takes0
/-- a def that is a function of values; a def that changes cells -/
def FnG (P : Program) (w : World) (K : PySem.W.Frag) (mg : Str → Option Value) (base : Heap) (cl : Cl) (k : Nat) (f : Addr) (fd : FuncData) (ps : List Str) (g : PFn) : Prop := FnOk P w K mg base (L2.CX P w) k f fd ps (spG K cl ps.length g)
def FnM (P : Program) (w : World) (K : PySem.W.Frag) (mg : Str → Option Value) (base : Heap) (cl : Cl) (k : Nat) (f : Addr) (fd : FuncData) (ps : List Str) (g : MFn) : Prop := FnOk P w K mg base (L2.CX P w) k f fd ps (spM K cl ps.length g)
theorem FnG.bot {P : Program} {w : World} {K : PySem.W.Frag} {mg : Str → Option Value} {base : Heap} {cl : Cl} {k : Nat} {f : Addr} {fd : FuncData} {ps : List Str} : FnG P w K mg base cl k f fd ps (fun _ => .bad) :=
  ⟨fun _ _ _ _ h => h.1, fun _ _ _ _ _ _ _ _ _ _ _ _ _ h => let ⟨_, _, _, _, _, _, z⟩ := h; z.elim⟩
theorem rn0 {K : PySem.W.Frag} {cl : Cl} : ∀ (R : Rc) (H : Hp), RepAll K cl R H [] [] := fun _ _ => .nil
section
variable {cl : Cl} {X : Cx} {W : WX} {e : Expr} {es : List Expr} {gs : GA} {ga gb : GE} {pos p : Pos} {r : RCall} {f : FV} {x : Str} {id : String} {a b : Expr}
theorem j_callBf (hc : CallR X (.builtin id) r) (h : RC cl X.K W r f) (hg : Gl X x) (hm : X.mg x = some (.builtin id)) (ha : JA cl X W (e :: es) gs) (hdb : (x == ("__debug__" : Str)) = false := by decide)
    (he : starEach (e :: es) X.env = (false, eval e X.env) :: starEach es X.env := by rfl) (hpl : (backTo pos (starEach es X.env)).any (·.1) = false := by rfl) : JE cl X W (.Call (.Name x p) (e :: es) [] pos) (eB f gs) :=
  let ⟨_, p, q⟩ := ha
  ⟨_, pe_callBfun hc hg hm p hdb he hpl, fr_cb h q⟩
/-! ### operations by their signs -/
theorem j_add (ha : JE cl X W a ga) (hb : JE cl X W b gb) : JE cl X W (.BinOp a .Add b pos) (e2 uAdd ga gb) := j_op (opr_or op_add (opr_or op_add_str (opr_or op_cat op_catA))) (ro_or ro_add (ro_or ro_sadd (ro_or ro_cat ro_catA))) ha hb
theorem j_sub (ha : JE cl X W a ga) (hb : JE cl X W b gb) : JE cl X W (.BinOp a .Sub b pos) (e2 (fP iSub) ga gb) := j_op op_sub ro_sub ha hb
theorem j_mul (ha : JE cl X W a ga) (hb : JE cl X W b gb) : JE cl X W (.BinOp a .Mult b pos) (e2 (fP iMul) ga gb) := j_op op_mulA ro_mul ha hb
theorem j_fdiv (ha : JE cl X W a ga) (hb : JE cl X W b gb) : JE cl X W (.BinOp a .FloorDiv b pos) (e2 (fP iFdiv) ga gb) := j_op op_fdivG ro_fdiv ha hb
theorem j_mod (ha : JE cl X W a ga) (hb : JE cl X W b gb) : JE cl X W (.BinOp a .Mod b pos) (e2 (fP iMod) ga gb) := j_op op_mod ro_mod ha hb
theorem j_pow (ha : JE cl X W a ga) (hb : JE cl X W b gb) : JE cl X W (.BinOp a .Pow b pos) (e2 (fP iPow) ga gb) := j_op op_pow ro_pow ha hb
theorem j_band (ha : JE cl X W a ga) (hb : JE cl X W b gb) : JE cl X W (.BinOp a .BitAnd b pos) (e2 (fP iAnd) ga gb) := j_op op_and ro_and ha hb
theorem j_neg (ha : JE cl X W a ga) : JE cl X W (.UnaryOp .USub a pos) (e1 (f1P iNeg) ga) := j_un un_neg ru_neg ha
theorem j_ixA (ha : JE cl X W a ga) (hb : JE cl X W b gb) (hs : PlainIx b) : JE cl X W (.Subscript a b pos) (e2 uIx ga gb) := j_ix (ixr_or ix_list (ixr_or ix_tup ix_str)) (ro_or ro_ixL (ro_or ro_ixT ro_ixS)) ha hb hs
theorem opEq (hu : X.A.units + 64 < cLine) : OpR X (compareOp .Eq) (fun x y H Q => rEq x y H Q ∨ rEqD X.K x y H Q) := opr_or op_eq (op_eqD hu)
theorem opNe (hu : X.A.units + 64 < cLine) : OpR X (compareOp .NotEq) (fun x y H Q => rNe x y H Q ∨ rNeD X.K x y H Q) := opr_or op_ne (op_neD hu)
theorem roEq {K : PySem.W.Frag} : RO cl K W (fun x y H Q => rEq x y H Q ∨ rEqD K x y H Q) uEq := ro_or ro_eq ro_eqD
theorem roNe {K : PySem.W.Frag} : RO cl K W (fun x y H Q => rNe x y H Q ∨ rNeD K x y H Q) uNe := ro_or ro_ne ro_neD
theorem opLt : OpR X (compareOp .Lt) (fun x y H Q => rI0 (fun i j => .bl (decide (i < j))) x y H Q ∨ ∃ i j, x = .str i ∧ y = .str j ∧ Q (.bl (decide (i.cps.toList < j.cps.toList))) H) := opr_or op_lt op_lt_str
theorem roLt {K : PySem.W.Frag} : RO cl K W (fun x y H Q => rI0 (fun i j => .bl (decide (i < j))) x y H Q ∨ ∃ i j, x = .str i ∧ y = .str j ∧ Q (.bl (decide (i.cps.toList < j.cps.toList))) H) uLt := ro_or ro_lt ro_slt
theorem opGt : OpR X (compareOp .Gt) (fun x y H Q => rI0 (fun i j => .bl (decide (j < i))) x y H Q ∨ ∃ i j, x = .str i ∧ y = .str j ∧ Q (.bl (decide (j.cps.toList < i.cps.toList))) H) := opr_or op_gt op_gt_str
theorem roGt {K : PySem.W.Frag} : RO cl K W (fun x y H Q => rI0 (fun i j => .bl (decide (j < i))) x y H Q ∨ ∃ i j, x = .str i ∧ y = .str j ∧ Q (.bl (decide (j.cps.toList < i.cps.toList))) H) uGt := ro_or ro_gt ro_sgt
theorem opLe : OpR X (compareOp .LtE) (fun x y H Q => rI0 (fun i j => .bl (decide (i ≤ j))) x y H Q ∨ ∃ i j, x = .str i ∧ y = .str j ∧ Q (.bl (!decide (j.cps.toList < i.cps.toList))) H) := opr_or op_le op_le_str
theorem roLe {K : PySem.W.Frag} : RO cl K W (fun x y H Q => rI0 (fun i j => .bl (decide (i ≤ j))) x y H Q ∨ ∃ i j, x = .str i ∧ y = .str j ∧ Q (.bl (!decide (j.cps.toList < i.cps.toList))) H) uLe := ro_or ro_le ro_sle
theorem opIn (hu : X.A.units + 65 < cLine) : OpR X (compareOp .In) (fun x y H Q => (∃ (c : Nat) (z : Str), x = .str ⟨#[c]⟩ ∧ y = .str z ∧ Q (.bl (decide (c ∈ z.cps.toList))) H) ∨ rInT X.K false x y H Q ∨ rInD X.K x y H Q) := opr_or op_in_sign (opr_or (op_inT hu) (op_inD hu))
theorem roIn {K : PySem.W.Frag} : RO cl K W (fun x y H Q => (∃ (c : Nat) (z : Str), x = .str ⟨#[c]⟩ ∧ y = .str z ∧ Q (.bl (decide (c ∈ z.cps.toList))) H) ∨ rInT K false x y H Q ∨ rInD K x y H Q) uIn := ro_or ro_insign (ro_or ro_inT ro_inD)
theorem opNotIn (hu : X.A.units + 65 < cLine) : OpR X (compareOp .NotIn) (fun x y H Q => (∃ (c : Nat) (z : Str), x = .str ⟨#[c]⟩ ∧ y = .str z ∧ Q (.bl (!decide (c ∈ z.cps.toList))) H) ∨ rInT X.K true x y H Q ∨ rNotInD X.K x y H Q) := opr_or op_notIn_sign (opr_or (op_notInT hu) (op_notInD hu))
theorem roNotIn {K : PySem.W.Frag} : RO cl K W (fun x y H Q => (∃ (c : Nat) (z : Str), x = .str ⟨#[c]⟩ ∧ y = .str z ∧ Q (.bl (!decide (c ∈ z.cps.toList))) H) ∨ rInT K true x y H Q ∨ rNotInD K x y H Q) uNotIn := ro_or ro_notinsign (ro_or ro_inT ro_notInD)
end
end Mine
namespace Mine
open PySem PySem.Spec PyProof.Rows L2
section
variable {P : Program} {w : World} {K : PySem.W.Frag} {mg : Str → Option Value} {base : Heap} {cl : Cl}
theorem g0 {k n : Nat} {f : Addr} {fd : FuncData} {ps : List Str} {g : PFn} (F : FnOk P w K mg base (L2.CX P w) k f fd ps (spG K cl n g)) : FnOk P w K mg base CX0 k f fd ps (spG0 K cl n g) := FnOk.g0 F
/-- as fn_pure, fn_st, for defs with defaults -/
theorem fn_pureD {x qual : Str} {st : Stmt} {f : Addr} {fd : FuncData} {N ps : List Str} {k : Nat} {g : GS} {dvs : List V} {kws : List (Str × V)} (F : FunD K x qual (defArgs st) (defBody st) (defScope st) dvs kws f fd) (S : FnScope N ps (defScope st))
    (hbody : ∀ (cdv : Value) (A : Around) (outer : List Env) (s : Shared) (H : Hp) (E : XK), Room k (A.deeper (envOfC qual (defScope st) s.heap.objs.size f cdv)) →
      JSs cl (cxOf (L2.CX P w) P w K mg base N qual (defScope st) f cdv A outer s H E) (fun c d _ H => E c d H) (defBody st) g) : FnOk P w K mg base (L2.CX P w) (k + 1) f fd ps (spG K cl ps.length (runP N.length g)) := by
  refine F.ok S (fun vs H Q E h => h.1) fun cdv A outer s H vs Q E hr h => ?_
  obtain ⟨t, p, q⟩ := hbody cdv A outer s H E hr
  exact ⟨t, p, body_pure q h⟩
theorem fn_stD {x qual : Str} {st : Stmt} {f : Addr} {fd : FuncData} {N ps : List Str} {k : Nat} {g : GS} {dvs : List V} {kws : List (Str × V)} (F : FunD K x qual (defArgs st) (defBody st) (defScope st) dvs kws f fd) (S : FnScope N ps (defScope st))
    (hbody : ∀ (cdv : Value) (A : Around) (outer : List Env) (s : Shared) (H : Hp) (E : XK), Room k (A.deeper (envOfC qual (defScope st) s.heap.objs.size f cdv)) →
      JSs cl (cxOf (L2.CX P w) P w K mg base N qual (defScope st) f cdv A outer s H E) (fun c d _ H => E c d H) (defBody st) g) : FnOk P w K mg base (L2.CX P w) (k + 1) f fd ps (spM K cl ps.length (runM N.length g)) := by
  refine F.ok S (fun vs H Q E h => h.1) fun cdv A outer s H vs Q E hr h => ?_
  obtain ⟨t, p, q⟩ := hbody cdv A outer s H E hr
  refine ⟨t, p, ?_⟩
  obtain ⟨hl, R, ω, ds, st, r, o⟩ := h
  have he : RepEnv K cl R H (L2.start N vs) (startD N.length ds) := by
    unfold L2.start startD
    rw [← r.length]
    exact start_rep r _
  exact q R _ H _ ω _ he st (out_run o)
end
end Mine
namespace Mine
open PySem PySem.Spec PyProof.Rows L2
/-! ### _law_why(lambda: ..): what a call returns, or the code of its error and what it has -/
/-- what is told of an error; tab: classes and the fields that they have -/
def tellE (tab : List (Nat × Str)) (e : Exc) : Option (Str × Dv) := match lookF "code" e.ns e.ds with
  | some (.str c) => match fieldName c with
    | some fn => match lookF fn e.ns e.ds with
      | some v => if tab.any (fun p => p.1 == e.cls && p.2 == fn) then some (c, v) else none
      | none => none
    | none => none
  | _ => none
structure ErrF (K : PySem.W.Frag) (cl : Cl) (CS CM : Addr) (tab : List (Nat × Str)) : Prop where
  em : ∀ p ∈ tab, PySem.W.exmAny K (.ref (cl p.1)) [.ref CS, .ref CM] = some true
  xf : ∀ p ∈ tab, XfC K (cl p.1)
  co : ∀ p ∈ tab, PySem.W.findIn K (.ref (cl p.1)) "code" = some none
  fd : ∀ p ∈ tab, PySem.W.findIn K (.ref (cl p.1)) p.2 = some none
def eWhy (tab : List (Nat × Str)) (g : GE) : GE := fun ρ ω => match g ρ ω with
  | .ok d ω => .ok (.tup [.str "value", d]) ω
  | .exc e ω => match tellE tab e with
    | some (c, v) => .ok (.tup [.str c, v]) ω
    | none => .bad
  | .bad => .bad
theorem why_fr {K : PySem.W.Frag} {cl : Cl} {W : WX} {CS CM : Addr} {tab : List (Nat × Str)} {gb : GE} (F : ErrF K cl CS CM tab) :
    Fr K cl W rV (LamX.tLam cl.tb (TTwhy K CS CM) (fun E => tG K cl (fun c d _ H => E c d H) gb)) (eWhy tab gb) := fun R σ H ρ ω Q he hs o => by
  refine ⟨hs.tabs, fun H1 eN T1 => ?_⟩
  have kp : Keep H H1 := ⟨fun a o t h => eN a o h t, fun a z o e => by
    by_cases h : ∀ ps, o ≠ .tbl ps
    · exact z o (eN a o e h)
    · cases o with
      | tbl ps => exact ⟨ps, rfl⟩
      | _ => exact (h fun _ z => nomatch z).elim⟩
  have st1 : RepSt K cl R H1 ω := hs.keep kp T1
  have s1 : Step R H R H1 := kp.step
  refine ⟨R, ρ, ω, he.step s1, st1, ?_⟩
  unfold eWhy at o
  cases e : gb ρ ω with
  | bad => rw [e] at o; exact o.elim
  | ok d ω' =>
    rw [e] at o
    intro R2 v H2 s2 rv st2
    refine ⟨sz2, fun p np => ?_⟩
    exact o R2 (.ref p) _ ((s1.trans s2).trans (Step.new np)) (rep_newT st2 np (.cons (.str _) (.cons rv .nil))) (st2.same (Same.new np))
  | exc x ω' =>
    rw [e] at o
    dsimp only at o
    split at o
    case h_2 => exact o.elim
    rename_i c v ht
    unfold tellE at ht
    split at ht
    case h_2 => cases ht
    rename_i c' hc
    split at ht
    case h_2 => cases ht
    rename_i fn hfn
    split at ht
    case h_2 => cases ht
    rename_i v' hv
    split at ht
    case isFalse => cases ht
    rename_i htab
    cases ht
    obtain ⟨q, hq, hqq⟩ := List.any_eq_true.mp htab
    obtain ⟨q1, q2⟩ := Bool.and_eq_true_iff.mp hqq
    have q1 : q.1 = x.cls := beq_iff_eq.mp q1
    have q2 : q.2 = fn := by simpa using q2
    intro R2 cls dd H2 s2 ea st2
    obtain ⟨rfl, a, fs, rfl, h3, h4, h5⟩ := ea
    rw [← h4] at hc hv
    obtain ⟨u1, l1, r1⟩ := lookF_rep h5 hc
    obtain ⟨u2, l2, r2⟩ := lookF_rep h5 hv
    obtain rfl : u1 = .str c := by cases r1; rfl
    refine ⟨c, fn, u2, by rw [← q1]; exact F.em q hq, ⟨cl x.cls, a, fs, rfl, by rw [← q1]; exact F.xf q hq, by rw [← q1]; exact F.co q hq, by rw [← q1, ← q2]; exact F.fd q hq, rfl, h3, l1, l2⟩, hfn, fun p H3 np sm hp => ?_⟩
    have s3 : Step R2 H2 R2 H3 := Step.same sm
    exact o R2 (.ref p) H3 ((s1.trans s2).trans s3) (.tup (.inl ⟨hp, (st2.free np)⟩) (.cons (.str _) (.cons (r2.step s3) .nil))) (st2.same sm)
/-- the rule; the def's own facts as pe_lamcall asks them -/
theorem j_why {cl : Cl} {X : Cx} {W : WX} {CS CM : Addr} {tab : List (Nat × Str)} {gb : GE} {x a : Str} {g c P : Addr} {k : Nat} {pg : Arguments} {bg : List Stmt} {sg : Scope} {dV kV doc pm cdv ct oc : Value} {an od : Option Addr} {osl : Array (Option Value)} {Ng : List Str}
    {params : Arguments} {body : Expr} {scope : Scope} {p lpos pos : Pos} (EF : ErrF X.K cl CS CM tab) (hg : Gl X x) (hm : X.mg x = some (.ref g)) (hk : PySem.W.keepIn X.K (.ref g) = true)
    (lk : X.K.lookup g = some ⟨oc, od, .func (PySem.W.fnOf x x pg bg sg dV kV doc pm an cdv ct), osl⟩) (hcg : PySem.W.codeIn X.K cdv x = true) (hb : L2.Binds X.K (PySem.W.fnOf x x pg bg sg dV kV doc pm an cdv ct) [a] []) (Sg : FnScope Ng [a] sg) (hNg : Ng[0]? = some a) (hva : Vis sg a)
    (hG : LamX.GivesTo X Ng x sg g cdv bg a (X.env.qual ++ "<lambda>") (TTwhy X.K CS CM))
    (TB : LamX.TabB X.base X.mg c P) (hcode : X.env.code = .ref c) (hmT : (P, X.env.qual ++ "<lambda>") ∈ cl.tb) (hu : ∀ p ∈ cl.tb, p.1 = P → p.2 = X.env.qual ++ "<lambda>") (hr : Room (k + 2) X.A) (L : LamX.LamS X.env.scope scope) (hdef : defaultsOf params X.env = ([], []))
    (hbind : ∀ (q : Str) (cl : List (Str × Addr)) (pm cv ctv : Value), bindArgs (PySem.W.kla_fn "<lambda>" q params body scope cl pm cv ctv) ⟨[], []⟩ = pure [])
    (hbody : ∀ (A : Around) (outer : List Env) (s : Shared) (H : Hp) (E : XK) (f c' : Addr), Room k (A.deeper (LamX.lamEnv X scope s.heap.objs.size f c')) → JE cl (LamX.lamCx X A outer s H E scope f c') (fun c d _ H => E c d H) body gb)
    (hdb : (x == ("__debug__" : Str)) = false := by decide) (hd : (a == ("__debug__" : Str)) = false := by decide) (hcd : (a == ("__classdict__" : Str)) = false := by decide) :
    JE cl X W (.Call (.Name x p) [.Lambda params body scope lpos] [] pos) (eWhy tab gb) :=
  ⟨_, LamX.pe_lamcall hg hm hk lk hcg hb Sg hNg hva hG TB hcode hmT hu hr L hdef hbind (fun A outer s H E f c' hr => (hbody A outer s H E f c' hr).pe) hdb hd hcd, why_fr EF⟩
section
variable {X : Cx} {A : Around} {outer : List Env} {s : Shared} {H : Hp} {E : XK} {scope : Scope} {f c' : Addr}
theorem tkL : Takes (LamX.lamCx X A outer s H E scope f c') (fun c d _ H => E c d H) := takes_of rfl rfl rfl rfl
theorem hxL : Passes (L2.CX (LamX.lamCx X A outer s H E scope f c').prog (LamX.lamCx X A outer s H E scope f c').w) (LamX.lamCx X A outer s H E scope f c') E := passes_call tkL fun _ _ _ _ h => h
end
end Mine
namespace Mine
open PySem PySem.Spec PyProof.Rows L2
/-! ### text * int -/
section
variable {X : Cx}
theorem op_mulS : OpR X (binaryOp .Mult) (fun x y H Q => ∃ a n, x = .str a ∧ y = .int n ∧ PySem.MulOk a n ∧ Q (.str (Txt.mul a n)) H) := by
  intro pins s σ H x y v u Q I rx ry h
  obtain ⟨a, n, rfl, rfl, hok, q⟩ := h
  obtain ⟨t, rfl⟩ := rx
  obtain ⟨t2, rfl⟩ := ry
  exact PySem.SB.mul hok fun t' k => ⟨.str _, H, I.tok _, ⟨_, rfl⟩, q⟩
end
instance (a : Str) (n : Int) : Decidable (PySem.MulOk a n) := by unfold PySem.MulOk; infer_instance
def sMul : Dv → Dv → Option Dv
  | .str a, .int n => if PySem.MulOk a n then some (.str (Txt.mul a n)) else none
  | _, _ => none
section
variable {K : PySem.W.Frag} {cl : Cl} {W : WX}
theorem ro_smul : RO cl K W (fun x y H Q => ∃ a n, x = .str a ∧ y = .int n ∧ PySem.MulOk a n ∧ Q (.str (Txt.mul a n)) H) (fP sMul) := ro_P fun R H x y d e z Q rx ry hz q => by
  unfold sMul at hz
  split at hz
  · split at hz
    · rename_i hc
      cases hz; cases rx; cases ry
      exact ⟨_, _, rfl, rfl, hc, q _ (.str _)⟩
    · cases hz
  · cases hz
end
def uMul : F2 := fOr (fP iMul) (fP sMul)
theorem j_mul' {cl : Cl} {X : Cx} {W : WX} {a b : Expr} {ga gb : GE} {pos : Pos} (ha : JE cl X W a ga) (hb : JE cl X W b gb) : JE cl X W (.BinOp a .Mult b pos) (e2 uMul ga gb) := j_op (opr_or op_mulA op_mulS) (ro_or ro_mul ro_smul) ha hb
/-! ### C.m(k = v): a static method by keywords -/
def tSMethK (C : Addr) (l : Nat) (sp : Sp) (gV : List V → List V → List V) (E : XK) (ta : TE) (tk : TA) : TE := fun σ H Q => ta σ H fun x H1 => x = .ref C ∧ tk σ H1 fun zs H2 => zs.length = l ∧ sp (gV [] zs) H2 Q E
section
variable {X : Cx} {CX : CXT} {k : Nat} {C p g : Addr} {mc : Value} {m : Str} {fd : FuncData} {ps ks : List Str} {sp : Sp} {E : XK} {o e : Expr} {kws : List Keyword} {ta : TE} {tk : TA} {apos pos : Pos} {gg : List Value → List Value → List Value} {gV : List V → List V → List V}
theorem pe_smethK0 {pl : Sem Bool} (he : PE X o ta) (r : ClX.CRead X.K C mc) (c : SMet X.K C mc m p g) (F : FnOk X.prog X.w X.K X.mg X.base CX k g fd ps sp) (hr : Room k X.A) (hb : KBn X.K fd ps 0 ks gg gV) (hx : Passes CX X E) (hkw : PK X kws tk)
    (hall : (backToKw pos (keywordEach kws X.env)).all (·.1.isSome) = true := by rfl) (hks : (backToKw pos (keywordEach kws X.env)).filterMap (·.1) = ks := by rfl)
    (hpl : ((backTo pos (starEach [] X.env)).any (·.1) || (backToKw pos (keywordEach kws X.env)).any (·.1.isNone)) = false := by rfl)
    (ht : eval (.Call (.Attribute o m apos) [] kws pos) X.env = (do
      let ov ← eval o X.env
      standAt apos.atName
      let (f, first) ← holding [ov] (getMethod ov m pl)
      callWith pos f first (backTo pos (starEach [] X.env)) (backToKw pos (keywordEach kws X.env))) := by rfl) :
    PE X (.Call (.Attribute o m apos) [] kws pos) (tSMethK C ks.length sp gV E ta tk) := by
  refine ⟨fun pins s σ H Q I h => ?_⟩
  refine PySem.W.methodCall_KW (pl := pl) (thn (he.run pins s σ H _ I h) fun u s1 ⟨x, H1, I1, rx, ex, q⟩ => ?_) ht
  subst ex
  obtain rfl : u = Value.ref C := rx
  refine getmethsm I1 r c fun s2 I2 => ?_
  refine PySem.W.callWith_KW0 (first := []) (h₀ := X.base) I.ok.mod.kin c.kp hall ?_ hpl
  refine thn (hkw.run pos pins s2 σ H1 _ I2 q) fun ws s3 ⟨zs, H2, I3, rz, l2, q2⟩ => ⟨I3.kIn, ?_⟩
  rw [hks]
  exact run_kn (us := []) (vs := []) F hr hb hx I3 .nil rz rfl l2 q2
end
def eSMethK (c n l : Nat) (g : PFn) (gD : List Dv → List Dv → List Dv) (go : GE) (gk : GA) : GE := fun ρ ω => (go ρ ω).bind fun d ω => match d with
  | .gl c' => if c' = c then (gk ρ ω).bind fun es ω => if es.length = l then callP n g (gD [] es) ω else .bad else .bad
  | _ => .bad
theorem j_smethK {cl : Cl} {X : Cx} {E : XK} {o : Expr} {go : GE} {k n l : Nat} {fd : FuncData} {ps ks : List Str} {g : PFn} {m : Str} {pos apos : Pos} {kws : List Keyword} {gk : GA} {gg : List Value → List Value → List Value} {gV : List V → List V → List V} {gD : List Dv → List Dv → List Dv}
    {c : Nat} {pl : Sem Bool} {mc : Value} {pp ga : Addr} (hD : RKw cl gV gD) (r : ClX.CRead X.K (cl c) mc) (sm : SMet X.K (cl c) mc m pp ga) (F : FnOk X.prog X.w X.K X.mg X.base (L2.CX X.prog X.w) k ga fd ps (spG X.K cl n g)) (hr : Room k X.A) (hb : KBn X.K fd ps 0 ks gg gV) (hx : Passes (L2.CX X.prog X.w) X E)
    (ho : JE cl X (fun c d _ H => E c d H) o go) (hkw : JK cl X (fun c d _ H => E c d H) kws gk)
    (hall : (backToKw pos (keywordEach kws X.env)).all (·.1.isSome) = true := by rfl) (hks : (backToKw pos (keywordEach kws X.env)).filterMap (·.1) = ks := by rfl)
    (hpl : ((backTo pos (starEach [] X.env)).any (·.1) || (backToKw pos (keywordEach kws X.env)).any (·.1.isNone)) = false := by rfl)
    (ht : eval (.Call (.Attribute o m apos) [] kws pos) X.env = (do
      let ov ← eval o X.env
      standAt apos.atName
      let (f, first) ← holding [ov] (getMethod ov m pl)
      callWith pos f first (backTo pos (starEach [] X.env)) (backToKw pos (keywordEach kws X.env))) := by rfl) (hkl : ks.length = l := by rfl) :
    JE cl X (fun c d _ H => E c d H) (.Call (.Attribute o m apos) [] kws pos) (eSMethK c n l g gD go gk) :=
  let ⟨_, p, q⟩ := ho
  let ⟨_, p', q'⟩ := hkw
  ⟨_, pe_smethK0 (pl := pl) p r sm F hr hb hx p' hall hks hpl ht, fun R σ H ρ ω Q he hs o =>
    q.seq he hs o fun R1 v H1 d ω1 s1 r1 st1 he1 o1 => by
      split at o1
      · split at o1
        · rename_i hcc
          subst hcc
          cases r1
          refine ⟨rfl, q'.seq he1 st1 o1 fun R2 zs H2 es ω2 s2 r2 st2 he2 o2 => ?_⟩
          split at o2
          · rename_i hl
            exact ⟨(RepAll.length r2).trans (hl.trans hkl.symm), spG_of (W := fun c d _ H => E c d H) (hD X.K R2 H2 [] zs [] es .nil r2) st2 o2⟩
          · exact o2.elim
        · exact o1.elim
      · exact o1.elim⟩
/-! ### the law itself -/
theorem fn_law {P : Program} {w : World} {K : PySem.W.Frag} {mg : Str → Option Value} {base : Heap} {cl : Cl} {x qual : Str} {st : Stmt} {f : Addr} {N ps : List Str} {k : Nat} {g : GS} {oc kV doc pm cdv ct : Value} {od an : Option Addr} {osl : Array (Option Value)}
    (lk : K.lookup f = some ⟨oc, od, .func (PySem.W.fnOf x qual (defArgs st) (defBody st) (defScope st) .none kV doc pm an cdv ct), osl⟩) (hcd : PySem.W.codeIn K cdv qual = true) (S : FnScope N ps (defScope st))
    (hbody : ∀ (A : Around) (outer : List Env) (s : Shared) (H : Hp) (E : XK), Room k (A.deeper (envOfC qual (defScope st) s.heap.objs.size f cdv)) →
      JSs cl (cxOf (L2.CX P w) P w K mg base N qual (defScope st) f cdv A outer s H E) (fun c d _ H => E c d H) (defBody st) g) : FnOk P w K mg base (L2.CX P w) (k + 1) f (PySem.W.fnOf x qual (defArgs st) (defBody st) (defScope st) .none kV doc pm an cdv ct) ps (spM K cl ps.length (runM N.length g)) := by
  refine fn_of lk hcd S (fun vs H Q E h => h.1) fun A outer s H vs Q E hr h => ?_
  obtain ⟨t, p, q⟩ := hbody A outer s H E hr
  refine ⟨t, p, ?_⟩
  obtain ⟨hl, R, ω, ds, st, r, o⟩ := h
  have he : RepEnv K cl R H (L2.start N vs) (startD N.length ds) := by
    unfold L2.start startD
    rw [← r.length]
    exact start_rep r _
  exact q R _ H _ ω _ he st (out_run o)
theorem law_sp {K : PySem.W.Frag} {cl : Cl} {g : MFn} {H : Hp} {a : Addr} {ns : List Int} (hg : ∃ ω, g [.scr ns] [] = .ok (.bl true) ω) (tb : LamX.Tabs cl.tb H) (hS : SqL K H a (ns.map V.int)) : spM K cl 1 g [.ref a] H (fun v _ => v = .bl true) (fun _ _ _ => False) := by
  obtain ⟨ω, e⟩ := hg
  refine ⟨rfl, R0 fun _ => False, [], [.scr ns], st_nil (fun _ z => z.elim) tb, .cons (.scr (hS.imp (fun h => ⟨h, fun z => z, fun z => z⟩) id)) .nil, ?_⟩
  rw [e]
  intro R' v H' s rv st
  cases rv
  rfl
theorem law_cx {P : Program} {w : World} (H : Hp) (s : Shared) (e : Value) (s' : Shared) (h : L2.CX P w [] H s (fun _ _ _ => False) e s') : False := by
  obtain ⟨_, _, _, _, _, _, _, _, _, _, _, _, z⟩ := h
  exact z
end Mine
namespace Mine
open PySem PySem.Spec PyProof.Rows L2
section
variable {ρ : DEnv} {ω : Store}
@[simp] theorem x_exc {α β : Type} (a : Exc) (w : Store) (f : α → Store → Res β) : (Res.exc a w).bind f = .exc a w := id rfl
@[simp] theorem x_bad {α β : Type} (f : α → Store → Res β) : (Res.bad : Res α).bind f = .bad := id rfl
@[simp] theorem x_then {α : Type} (a : α) (w : Store) (f : α → Store → SRes) : (Res.ok a w).then ρ f = f a w := id rfl
@[simp] theorem x_thenE {α : Type} (a : Exc) (w : Store) (f : α → Store → SRes) : (Res.exc a w).then ρ f = .exc a ρ w := id rfl
@[simp] theorem x_thenB {α : Type} (f : α → Store → SRes) : (Res.bad : Res α).then ρ f = .bad := id rfl
@[simp] theorem x_eVar (i : Nat) : eVar i ρ ω = match ρ[i]? with | some (some d) => .ok d ω | _ => .bad := id rfl
@[simp] theorem x_eC (d : Dv) : eC d ρ ω = .ok d ω := id rfl
@[simp] theorem x_e2 (f : F2) (a b : GE) : e2 f a b ρ ω = (a ρ ω).bind fun x ω => (b ρ ω).bind fun y ω => f x y ω := id rfl
@[simp] theorem x_e1 (f : F1) (a : GE) : e1 f a ρ ω = (a ρ ω).bind fun x ω => f x ω := id rfl
@[simp] theorem x_eB (f : FV) (g : GA) : eB f g ρ ω = (g ρ ω).bind fun ds ω => f ds ω := id rfl
@[simp] theorem x_aNil : aNil ρ ω = .ok [] ω := id rfl
@[simp] theorem x_aCons (g : GE) (h : GA) : aCons g h ρ ω = (g ρ ω).bind fun d ω => (h ρ ω).bind fun ds ω => .ok (d :: ds) ω := id rfl
@[simp] theorem x_eLst (g : GA) : eLst g ρ ω = (g ρ ω).bind fun ds ω => if ds.length ≤ sizeLine then .ok (.lst ds) ω else .bad := id rfl
@[simp] theorem x_eTup (g : GA) : eTup g ρ ω = (g ρ ω).bind fun ds ω => if ds.length ≤ sizeLine then .ok (.tup ds) ω else .bad := id rfl
@[simp] theorem x_gTest (g : GE) : gTest g ρ ω = (g ρ ω).bind fun d ω => match d with | .bl k => .ok k ω | _ => .bad := id rfl
@[simp] theorem x_gAnd (g h : GT) : gAnd g h ρ ω = (g ρ ω).bind fun k ω => if k then h ρ ω else .ok false ω := id rfl
@[simp] theorem x_gOr (g h : GT) : gOr g h ρ ω = (g ρ ω).bind fun k ω => if k then .ok true ω else h ρ ω := id rfl
@[simp] theorem x_gNot (g : GT) : gNot g ρ ω = (g ρ ω).bind fun k ω => .ok (!k) ω := id rfl
@[simp] theorem x_gYes : gYes ρ ω = .ok true ω := id rfl
@[simp] theorem x_eAnd (g h : GE) : eAnd g h ρ ω = (g ρ ω).bind fun d ω => match d with | .bl true => h ρ ω | .bl false => .ok (.bl false) ω | _ => .bad := id rfl
@[simp] theorem x_eOr (g h : GE) : eOr g h ρ ω = (g ρ ω).bind fun d ω => match d with | .bl true => .ok (.bl true) ω | .bl false => h ρ ω | _ => .bad := id rfl
@[simp] theorem x_eNot (g : GE) : eNot g ρ ω = (g ρ ω).bind fun d ω => match d with | .bl k => .ok (.bl (!k)) ω | _ => .bad := id rfl
@[simp] theorem x_eIf (g : GT) (a b : GE) : eIf g a b ρ ω = (g ρ ω).bind fun k ω => if k then a ρ ω else b ρ ω := id rfl
@[simp] theorem x_oNone : oNone ρ ω = .ok none ω := id rfl
@[simp] theorem x_oSome (g : GE) : oSome g ρ ω = (g ρ ω).bind fun d ω => match d with | .int i => .ok (some i) ω | _ => .bad := id rfl
@[simp] theorem x_eSl (f : F3) (g : GE) (lo hi : GO) : eSl f g lo hi ρ ω = (g ρ ω).bind fun d ω => (lo ρ ω).bind fun l ω => (hi ρ ω).bind fun h ω => f d l h ω := id rfl
@[simp] theorem x_gChain (f f' : F2) (a b c : GE) : gChain f f' a b c ρ ω = (a ρ ω).bind fun x ω => (b ρ ω).bind fun y ω => (f x y ω).bind fun z ω => match z with | .bl true => (c ρ ω).bind fun u ω => f' y u ω | .bl false => .ok (.bl false) ω | _ => .bad := id rfl
@[simp] theorem x_eM1 (f : F2) (go ge : GE) : eM1 f go ge ρ ω = (go ρ ω).bind fun x ω => match x with | .str _ => (ge ρ ω).bind fun y ω => f x y ω | _ => .bad := id rfl
@[simp] theorem x_sSeq (g h : GS) : sSeq g h ρ ω = match g ρ ω with | .next ρ ω => h ρ ω | r => r := id rfl
@[simp] theorem x_sNext : sNext ρ ω = .next ρ ω := id rfl
@[simp] theorem x_sExpr (g : GE) : sExpr g ρ ω = (g ρ ω).then ρ fun _ ω => .next ρ ω := id rfl
@[simp] theorem x_sRet (g : GE) : sRet g ρ ω = (g ρ ω).then ρ fun d ω => .ret d ω := id rfl
@[simp] theorem x_sRetN : sRetN ρ ω = .ret .non ω := id rfl
@[simp] theorem x_sIf (c : GT) (g h : GS) : sIf c g h ρ ω = (c ρ ω).then ρ fun k ω => if k then g ρ ω else h ρ ω := id rfl
@[simp] theorem x_sBreak : sBreak ρ ω = .brk ρ ω := id rfl
@[simp] theorem x_sCont : sCont ρ ω = .cont ρ ω := id rfl
@[simp] theorem x_sSet (i : Nat) (g : GE) : sAsg g (tName i) ρ ω = (g ρ ω).then ρ fun d ω => .next (ρ.set i (some d)) ω := id rfl
@[simp] theorem x_sPar (i j : Nat) (g : GA) : sPar i j g ρ ω = (g ρ ω).then ρ fun ds ω => match ds with | [d, e] => .next ((ρ.set i (some d)).set j (some e)) ω | _ => .bad := id rfl
@[simp] theorem x_sAug (i : Nat) (f : Int → Int → Int) (g : GE) : sAug i f g ρ ω = match ρ[i]? with
  | some (some (.int x)) => (g ρ ω).then ρ fun d ω => match d with
    | .int y => .next (ρ.set i (some (.int (f x y)))) ω
    | _ => .bad
  | _ => .bad := id rfl
@[simp] theorem x_sFor (gi : GA) (t : GG) (gb : GS) : sFor gi t gb ρ ω = (gi ρ ω).then ρ fun ds ω => loopD t gb ds ρ ω := id rfl
@[simp] theorem x_sWhile (fuel : DEnv → Store → Nat) (c : GT) (gb : GS) : sWhile fuel c gb ρ ω = whileD c gb (fuel ρ ω) ρ ω := id rfl
@[simp] theorem x_tName (i : Nat) (d : Dv) : tName i d ρ = some (ρ.set i (some d)) := id rfl
@[simp] theorem x_iAny (g : GE) : iAny g ρ ω = (g ρ ω).bind fun d ω => match d with | .lst l => .ok l ω | .tup l => .ok l ω | .str s => .ok (signsD s) ω | _ => .bad := id rfl
@[simp] theorem x_eLc (gi : GA) (t : GG) (gt : GT) (ge : GE) (vs : List Nat) : eLc gi t gt ge vs ρ ω = (gi ρ ω).bind fun ds ω => match lcD t gt ge (wipeD ρ vs) ds ω with
  | .ok zs ω => if ds.length ≤ sizeLine then .ok (.lst zs) ω else .bad
  | _ => .bad := id rfl
@[simp] theorem x_eCall (n : Nat) (g : PFn) (dds : List Dv) (gs : GA) : eCall n g dds gs ρ ω = (gs ρ ω).bind fun ds ω => callP n g (ds ++ dds) ω := id rfl
@[simp] theorem x_eCallM (n : Nat) (g : MFn) (dds : List Dv) (gs : GA) : eCallM n g dds gs ρ ω = (gs ρ ω).bind fun ds ω => callM n g (ds ++ dds) ω := id rfl
@[simp] theorem x_eMake (n c : Nat) (g : MFn) (dds : List Dv) (gs : GA) : eMake n c g dds gs ρ ω = (gs ρ ω).bind fun ds ω => callP n (mkP c g) (ds ++ dds) ω := id rfl
@[simp] theorem x_eSMeth (c n : Nat) (g : PFn) (dds : List Dv) (go : GE) (gs : GA) : eSMeth c n g dds go gs ρ ω = (go ρ ω).bind fun d ω => match d with
  | .gl c' => if c' = c then (gs ρ ω).bind fun ds ω => callP n g (ds ++ dds) ω else .bad
  | _ => .bad := id rfl
@[simp] theorem x_eSMethK (c n l : Nat) (g : PFn) (gD : List Dv → List Dv → List Dv) (go : GE) (gk : GA) : eSMethK c n l g gD go gk ρ ω = (go ρ ω).bind fun d ω => match d with
  | .gl c' => if c' = c then (gk ρ ω).bind fun es ω => if es.length = l then callP n g (gD [] es) ω else .bad else .bad
  | _ => .bad := id rfl
@[simp] theorem x_sRaise (c n : Nat) (fs : List Dv → List Str × List Dv) (gs : GA) : sRaise c n fs gs ρ ω = (gs ρ ω).then ρ fun ds ω => if ds.length = n ∧ n ≤ 1000 then .exc ⟨c, (fs ds).1, (fs ds).2⟩ ρ ω else .bad := id rfl
@[simp] theorem x_sFldD (cs : List Nat) (f : Str) (go gv : GE) : sFldD cs f go gv ρ ω = (gv ρ ω).then ρ fun v ω => (go ρ ω).then ρ fun d ω => match setFld cs f d v ω with | some ω => .next ρ ω | none => .bad := id rfl
@[simp] theorem x_sSetIx (go gi gv : GE) : sSetIx go gi gv ρ ω = (gv ρ ω).then ρ fun v ω => (go ρ ω).then ρ fun d ω => (gi ρ ω).then ρ fun k ω => match d, k with
  | .own i, .int k => match ω[i]? with
    | some (.lst l) => match ixN l.length k with
      | some j => .next ρ (ω.set i (.lst (l.set j v)))
      | none => .bad
    | _ => .bad
  | _, _ => .bad := id rfl
@[simp] theorem x_eWhy (tab : List (Nat × Str)) (g : GE) : eWhy tab g ρ ω = match g ρ ω with
  | .ok d ω => .ok (.tup [.str "value", d]) ω
  | .exc e ω => match tellE tab e with
    | some (c, v) => .ok (.tup [.str c, v]) ω
    | none => .bad
  | .bad => .bad := id rfl
@[simp] theorem x_whileS (c : GT) (gb : GS) (n : Nat) : whileD c gb (n + 1) ρ ω = (c ρ ω).then ρ fun k ω => if k then (match gb ρ ω with
      | .next ρ ω => whileD c gb n ρ ω
      | .cont ρ ω => whileD c gb n ρ ω
      | .brk ρ ω => .next ρ ω
      | r => r) else .next ρ ω := id rfl
@[simp] theorem x_wipe0 : wipeD ρ [] = ρ := id rfl
@[simp] theorem x_wipe (v : Nat) (vs : List Nat) : wipeD ρ (v :: vs) = (wipeD ρ vs).set v none := id rfl
/-- numbers -/
@[simp] theorem x_ii (i j : Int) : uAdd (.int i) (.int j) ω = .ok (.int (i + j)) ω := id rfl
@[simp] theorem x_eqi (i j : Int) : uEq (.int i) (.int j) ω = .ok (.bl (decide (i = j))) ω := id rfl
@[simp] theorem x_nei (i j : Int) : uNe (.int i) (.int j) ω = .ok (.bl (!decide (i = j))) ω := id rfl
@[simp] theorem x_eqs (i j : Str) : uEq (.str i) (.str j) ω = .ok (.bl (decide (i = j))) ω := id rfl
@[simp] theorem x_nes (i j : Str) : uNe (.str i) (.str j) ω = .ok (.bl (!decide (i = j))) ω := id rfl
@[simp] theorem x_eqb (i j : Bool) : uEq (.bl i) (.bl j) ω = .ok (.bl (decide (i = j))) ω := id rfl
@[simp] theorem x_neb (i j : Bool) : uNe (.bl i) (.bl j) ω = .ok (.bl (!decide (i = j))) ω := id rfl
@[simp] theorem x_lti (i j : Int) : uLt (.int i) (.int j) ω = .ok (.bl (decide (i < j))) ω := id rfl
@[simp] theorem x_lei (i j : Int) : uLe (.int i) (.int j) ω = .ok (.bl (decide (i ≤ j))) ω := id rfl
@[simp] theorem x_gti (i j : Int) : uGt (.int i) (.int j) ω = .ok (.bl (decide (j < i))) ω := id rfl
@[simp] theorem x_gei (i j : Int) : fP iGe (.int i) (.int j) ω = .ok (.bl (decide (j ≤ i))) ω := id rfl
@[simp] theorem x_subi (i j : Int) : fP iSub (.int i) (.int j) ω = .ok (.int (i - j)) ω := id rfl
@[simp] theorem x_negi (i : Int) : f1P iNeg (.int i) ω = .ok (.int (-i)) ω := id rfl
@[simp] theorem x_muli (i j : Int) : uMul (.int i) (.int j) ω = if CMulA i j then .ok (.int (i * j)) ω else .bad := by
  by_cases h : CMulA i j
  · simp [uMul, fOr, fP, iMul, iI, h]
  · simp [uMul, fOr, fP, iMul, iI, h, sMul]
@[simp] theorem x_mod (i j : Int) : fP iMod (.int i) (.int j) ω = if 0 < j then .ok (.int (i % j)) ω else .bad := by
  by_cases h : 0 < j <;> simp [fP, iMod, iI, h]
@[simp] theorem x_fdiv (i j : Int) : fP iFdiv (.int i) (.int j) ω = if CDivG i j then .ok (.int (i.fdiv j)) ω else .bad := by
  by_cases h : CDivG i j <;> simp [fP, iFdiv, iI, h]
@[simp] theorem x_pow (i j : Int) : fP iPow (.int i) (.int j) ω = if CPow i j then .ok (.int (i ^ j.toNat)) ω else .bad := by
  by_cases h : CPow i j <;> simp [fP, iPow, iI, h]
@[simp] theorem x_abs (i : Int) : f1V bAbs [.int i] ω = .ok (.int (if i < 0 then -i else i)) ω := id rfl
@[simp] theorem x_int (i : Int) : f1V bInt [.int i] ω = .ok (.int i) ω := id rfl
@[simp] theorem x_gcd (a b : Int) : bGcd [.int a, .int b] ω = .ok (.int ((Nat.gcd a.natAbs b.natAbs : Nat) : Int)) ω := id rfl
@[simp] theorem x_ixL (l : List Dv) (i : Int) : uIx (.lst l) (.int i) ω = match atI l i with | some z => .ok z ω | none => .bad := by
  simp only [uIx, fOr, fIxL, asL]
  cases atI l i <;> rfl
@[simp] theorem x_ixT (l : List Dv) (i : Int) : uIx (.tup l) (.int i) ω = match atI l i with | some z => .ok z ω | none => .bad := by
  simp only [uIx, fOr, fIxL, asL, fIxT, asT]
  cases atI l i <;> rfl
@[simp] theorem x_ixO (l : List Dv) (i : Int) (r : Store) : uIx (.own 0) (.int i) (.lst l :: r) = match atI l i with | some z => .ok z (.lst l :: r) | none => .bad := by
  simp only [uIx, fOr, fIxL, asL, List.getElem?_cons_zero]
  cases atI l i <;> rfl
@[simp] theorem x_lenL (l : List Dv) : f1W bLen [.lst l] ω = .ok (.int l.length) ω := id rfl
@[simp] theorem x_lenT (l : List Dv) : f1W bLen [.tup l] ω = .ok (.int l.length) ω := id rfl
@[simp] theorem x_at0 {α : Type} (a : α) (l : List α) : atI (a :: l) 0 = some a := by
  unfold atI ixN; rw [if_pos (by decide), if_pos (by simp only [List.length_cons]; omega)]; rfl
@[simp] theorem x_at1 {α : Type} (a b : α) (l : List α) : atI (a :: b :: l) 1 = some b := by
  unfold atI ixN; rw [if_pos (by decide), if_pos (by simp only [List.length_cons]; omega)]; rfl
@[simp] theorem x_at2 {α : Type} (a b c : α) (l : List α) : atI (a :: b :: c :: l) 2 = some c := by
  unfold atI ixN; rw [if_pos (by decide), if_pos (by simp only [List.length_cons]; omega)]; rfl
@[simp] theorem x_at3 {α : Type} (a b c d : α) (l : List α) : atI (a :: b :: c :: d :: l) 3 = some d := by
  unfold atI ixN; rw [if_pos (by decide), if_pos (by simp only [List.length_cons]; omega)]; rfl
@[simp] theorem x_at4 {α : Type} (a b c d e : α) (l : List α) : atI (a :: b :: c :: d :: e :: l) 4 = some e := by
  unfold atI ixN; rw [if_pos (by decide), if_pos (by simp only [List.length_cons]; omega)]; rfl
theorem x_atn {α : Type} {l : List α} {i : Int} (h0 : 0 ≤ i) (h1 : i < l.length) : ∃ a, a ∈ l ∧ atI l i = some a := by
  unfold atI ixN
  rw [if_pos h0, if_pos h1]
  show ∃ a, a ∈ l ∧ l[i.toNat]? = some a
  rw [List.getElem?_eq_getElem (by omega)]
  exact ⟨_, List.getElem_mem _, rfl⟩
@[simp] theorem x_cP (n : Nat) (g : PFn) (ds : List Dv) (hl : ds.length = n) (hc : cleans ds = true) : callP n g ds ω = match g ds with | .ok d => .ok d ω | .exc e => .exc e ω | .bad => .bad := if_pos ⟨hl, hc⟩
@[simp] theorem x_cM (n : Nat) (g : MFn) (ds : List Dv) (hl : ds.length = n) : callM n g ds ω = g ds ω := if_pos hl
@[simp] theorem x_cl0 : cleans [] = true := id rfl
@[simp] theorem x_cl (d : Dv) (l : List Dv) : cleans (d :: l) = (clean d && cleans l) := by simp [cleans]
@[simp] theorem x_ci (i : Int) : clean (.int i) = true := by simp [clean]
@[simp] theorem x_cs (i : Str) : clean (.str i) = true := by simp [clean]
@[simp] theorem x_cb (i : Bool) : clean (.bl i) = true := by simp [clean]
@[simp] theorem x_cn : clean .non = true := by simp [clean]
@[simp] theorem x_clst (l : List Dv) : clean (.lst l) = cleans l := by simp [clean]
@[simp] theorem x_ctup (l : List Dv) : clean (.tup l) = cleans l := by simp [clean]
@[simp] theorem x_cobj (c : Nat) (ns : List Str) (l : List Dv) : clean (.obj c ns l) = cleans l := by simp [clean]
theorem mulA_l {i j : Int} (h0 : -(2 ^ 64) < i) (h1 : i < 2 ^ 64) : CMulA i j := .inl (.inl ⟨h0, h1⟩)
theorem mulA_r {i j : Int} (h0 : -(2 ^ 64) < j) (h1 : j < 2 ^ 64) : CMulA i j := .inl (.inr ⟨h0, h1⟩)
theorem divG {i j : Int} (h0 : 0 < j) (h1 : j < 2 ^ 64) : CDivG i j := ⟨by omega, by
  have : j.natAbs < 2 ^ 64 := by omega
  have h2 : j.natAbs.log2 < 64 := (Nat.log2_lt (by omega)).mpr this
  omega⟩
theorem ix5 (j : Int) (h0 : 0 ≤ j) (h1 : j < 5) : ixN 5 j = some j.toNat := by
  unfold ixN; rw [if_pos h0, if_pos (by omega)]
/-- as many rounds as the number that a name holds, and one -/
def fuelI (i : Nat) (ρ : DEnv) : Nat := match ρ[i]? with
  | some (some (.int b)) => b.natAbs + 1
  | _ => 0
/-- what is never reached -/
def sBad : GS := fun _ _ => .bad
theorem jss_bad {cl : Cl} {X : Cx} {W : WX} {st : List Stmt} : JSs cl X W st sBad := ⟨fun _ _ _ => False, ⟨fun _ _ _ _ _ _ h => h.elim⟩, fun _ _ _ _ _ _ _ _ o => o⟩
@[simp] theorem x_sBad {ρ : DEnv} {ω : Store} : sBad ρ ω = .bad := id rfl
end
end Mine
namespace Mine
open PySem PySem.Spec PyProof.Rows L2
/-! ### texts as lists of signs -/
theorem cut_unique {c : Nat} : ∀ {a b r s : List Nat}, c ∉ a → c ∉ b → a ++ c :: r = b ++ c :: s → a = b ∧ r = s
  | [], [], _, _, _, _, e => ⟨rfl, by simpa using e⟩
  | [], y :: b, _, _, _, hb, e => by
    simp at e
    exact absurd (e.1 ▸ List.mem_cons_self) hb
  | x :: a, [], _, _, ha, _, e => by
    simp at e
    exact absurd (e.1 ▸ List.mem_cons_self) ha
  | x :: a, y :: b, r, s, ha, hb, e => by
    simp only [List.cons_append, List.cons.injEq] at e
    obtain ⟨rfl, e⟩ := e
    obtain ⟨rfl, rfl⟩ := cut_unique (fun h => ha (List.mem_cons_of_mem _ h)) (fun h => hb (List.mem_cons_of_mem _ h)) e
    exact ⟨rfl, rfl⟩
theorem cps_app (a b : Str) : (a ++ b).cps.toList = a.cps.toList ++ b.cps.toList := by
  show (a.cps ++ b.cps).toList = _
  rw [Array.toList_append]
theorem join_inj {c : Nat} : ∀ {ps qs : List Str}, ps ≠ [] → qs ≠ [] → (∀ p ∈ ps, c ∉ p.cps.toList) → (∀ p ∈ qs, c ∉ p.cps.toList) → Str.join ⟨#[c]⟩ ps = Str.join ⟨#[c]⟩ qs → ps = qs
  | [], _, h, _, _, _, _ => absurd rfl h
  | _, [], _, h, _, _, _ => absurd rfl h
  | [a], [b], _, _, _, _, e => by
    have e : a = b := e
    rw [e]
  | [a], b :: y :: r, _, _, ha, _, e => by
    have e : a = b ++ ⟨#[c]⟩ ++ Str.join ⟨#[c]⟩ (y :: r) := e
    refine absurd ?_ (ha a List.mem_cons_self)
    rw [e, cps_app, cps_app]
    simp
  | a :: x :: r, [b], _, _, _, hb, e => by
    have e : a ++ ⟨#[c]⟩ ++ Str.join ⟨#[c]⟩ (x :: r) = b := e
    refine absurd ?_ (hb b List.mem_cons_self)
    rw [← e, cps_app, cps_app]
    simp
  | a :: x :: r, b :: y :: s, _, _, ha, hb, e => by
    have e : a ++ ⟨#[c]⟩ ++ Str.join ⟨#[c]⟩ (x :: r) = b ++ ⟨#[c]⟩ ++ Str.join ⟨#[c]⟩ (y :: s) := e
    have e' := congrArg (fun s : Str => s.cps.toList) e
    simp only [cps_app, List.append_assoc] at e'
    obtain ⟨h1, h2⟩ := cut_unique (c := c) (ha a List.mem_cons_self) (hb b List.mem_cons_self) e'
    rw [str_ext h1, join_inj (ps := x :: r) (qs := y :: s) (fun z => nomatch z) (fun z => nomatch z) (fun p hp => ha p (List.mem_cons_of_mem _ hp)) (fun p hp => hb p (List.mem_cons_of_mem _ hp)) (str_ext h2)]
theorem split_ne (x y : Str) : Txt.split x y ≠ [] := by
  unfold Txt.split
  split
  · exact fun z => nomatch z
  · split
    · exact fun z => nomatch z
    · intro e
      have := congrArg List.length e
      rw [len_partsBetween] at this
      simp at this
theorem split_join {c : Nat} {ps : List Str} (h0 : ps ≠ []) (hf : ∀ p ∈ ps, c ∉ p.cps.toList) : Txt.split (Str.join ⟨#[c]⟩ ps) ⟨#[c]⟩ = ps :=
  join_inj (split_ne _ _) h0 (StrLaws.split_free _ c) hf (StrLaws.join_split _ _)
theorem split1 {c : Nat} {a : Str} (h : c ∉ a.cps.toList) : Txt.split a ⟨#[c]⟩ = [a] := split_join (ps := [a]) (fun z => nomatch z) fun p hp => by obtain rfl := List.mem_singleton.mp hp; exact h
theorem split2 {c : Nat} {a b : Str} (h : c ∉ a.cps.toList) (h' : c ∉ b.cps.toList) : Txt.split (a ++ ⟨#[c]⟩ ++ b) ⟨#[c]⟩ = [a, b] := split_join (ps := [a, b]) (fun z => nomatch z) fun p hp => by
  rcases List.mem_cons.mp hp with rfl | hp
  · exact h
  · obtain rfl := List.mem_singleton.mp hp; exact h'
/-! ### whole numbers as texts -/
/-- the signs of a number -/
def digs (m : Nat) : List Nat := (Nat.toDigits 10 m).map Char.toNat
theorem cps_num (m : Nat) : ((toString ((m : Nat) : Int) : String) : Str).cps.toList = digs m := PySem.W.KIN.signs_num m
theorem digs_all (m : Nat) : ∀ c ∈ digs m, 48 ≤ c ∧ c ≤ 57 := fun c hc => by
  obtain ⟨ch, hch, e⟩ := List.mem_map.mp hc
  rw [← e]
  exact digit_range (Nat.isDigit_of_mem_toDigits (by decide) (by decide) hch)
theorem digs_ne (m : Nat) : digs m ≠ [] := fun e => by
  have h := toDigits_len_ge 10 m
  rw [List.map_eq_nil_iff.mp e] at h
  exact absurd h (by decide)
theorem digs_zero : digs 0 = [48] := by decide
theorem digs_big {m : Nat} (h : 10 ≤ m) : digs m = digs (m / 10) ++ digs (m % 10) := by
  have t : Nat.toDigits 10 (m / 10) ++ Nat.toDigits 10 (m % 10) = Nat.toDigits 10 (10 * (m / 10) + m % 10) := Nat.toDigits_append_toDigits (by decide) (by omega) (by omega)
  rw [Nat.div_add_mod] at t
  unfold digs
  rw [← t, List.map_append]
theorem digs_small : ∀ m, m < 10 → digs m = [48 + m] := by decide
theorem digs_head : ∀ {m : Nat}, 0 < m → ∃ c r, digs m = c :: r ∧ c ≠ 48
  | m, h => by
    induction m using Nat.strongRecOn with
    | ind m ih =>
      by_cases hm : 10 ≤ m
      · obtain ⟨c, r, e, hc⟩ := ih (m / 10) (by omega) (by omega)
        exact ⟨c, r ++ digs (m % 10), by rw [digs_big hm, e]; rfl, hc⟩
      · exact ⟨48 + m, [], digs_small m (by omega), by omega⟩
theorem digs_len {m : Nat} : ∀ {k : Nat}, 0 < k → m < 10 ^ k → (digs m).length ≤ k
  | k, hk, h => by
    induction k generalizing m with
    | zero => omega
    | succ k ih =>
      by_cases hm : 10 ≤ m
      · rw [digs_big hm, digs_small _ (by omega : m % 10 < 10), List.length_append]
        have : 0 < k := by
          rcases Nat.eq_zero_or_pos k with rfl | h1
          · simp at h; omega
          · exact h1
        have := ih (m := m / 10) this (by rw [Nat.pow_succ] at h; omega)
        simp only [List.length_cons, List.length_nil]
        omega
      · rw [digs_small m (by omega)]
        simp
theorem str_len (a : Str) : a.length = a.cps.toList.length := Array.length_toList.symm
theorem num_int (m : Nat) (h : (digs m).length ≤ 4300) : PySem.intText? ((toString ((m : Nat) : Int) : String) : Str) = some (m : Int) := by
  have e := PySem.intText_digits (x := ((toString ((m : Nat) : Int) : String) : Str)) (by rw [cps_num]; exact digs_all m) (by rw [cps_num]; exact digs_ne m) (by rw [str_len, cps_num]; exact h)
  rw [cps_num, digs, PySem.W.KIN.val_back] at e
  exact e
/-! ### cuts -/
theorem cut_from (a : Str) (k : Nat) (h : k ≤ a.length) : (cutS a (some (k : Int)) none).cps.toList = a.cps.toList.drop k := by
  show (a.cps.toList.drop (HT.sIx a.length 0 (some (k : Int)))).take (a.length - HT.sIx a.length 0 (some (k : Int))) = _
  rw [HT.sIx_nat, Nat.min_eq_left h]
  apply List.take_of_length_le
  rw [List.length_drop, ← str_len]
  exact Nat.le_refl _
theorem cut_zero (a : Str) : cutS a (some 0) none = a := by
  apply str_ext
  have := cut_from a 0 (Nat.zero_le _)
  exact this
theorem cut_one (s : Nat) (a : Str) : cutS (⟨#[s]⟩ ++ a) (some 1) none = a := by
  apply str_ext
  have := cut_from (⟨#[s]⟩ ++ a) 1 (by rw [str_len, cps_app]; simp)
  rw [cps_app] at this
  exact this
theorem starts_one (s : Nat) (a : Str) : Txt.startswith a ⟨#[s]⟩ = decide (a.cps.toList.head? = some s) := by
  obtain ⟨⟨l⟩⟩ := a
  unfold Txt.startswith Builtin.Str.subAt
  cases l with
  | nil => rfl
  | cons c l =>
    have e : (⟨⟨c :: l⟩⟩ : Str).cps.extract 0 (0 + (⟨#[s]⟩ : Str).length) = #[c] := by
      apply Array.toList_inj.mp
      rw [Array.toList_extract]
      rfl
    rw [e]
    have h1 : decide (0 + (⟨#[s]⟩ : Str).length ≤ (⟨⟨c :: l⟩⟩ : Str).length) = true := by
      apply decide_eq_true
      rw [str_len, str_len]
      simp
    rw [h1, Bool.true_and]
    by_cases hc : c = s
    · subst hc; simp
    · have : ¬ (#[c] : Array Nat) = #[s] := fun e => hc (by simpa using e)
      simp [hc]
def intS (i : Int) : Str := ((toString i : String) : Str)
/-! ### more of the evaluation -/
section
variable {ρ : DEnv} {ω : Store}
theorem lc_map {i : Nat} {ge : GE} {F : Dv → Dv} : ∀ {ds : List Dv}, (∀ d ∈ ds, ge (ρ.set i (some d)) ω = .ok (F d) ω) → lcD (tName i) gYes ge ρ ds ω = .ok (ds.map F) ω
  | [], _ => rfl
  | d :: ds, h => by
    have h1 := h d List.mem_cons_self
    have h2 := lc_map (fun d hd => h d (List.mem_cons_of_mem _ hd) : ∀ d ∈ ds, _)
    simp only [lcD, x_tName, x_gYes, bind_ok, h1, h2, if_true, List.map_cons]
theorem dB_map {α : Type} (f : α → Bool) : ∀ l : List α, dBools (l.map fun x => .bl (f x)) = some (l.map f)
  | [] => rfl
  | a :: l => by
    show (dBools (l.map fun x => .bl (f x))).map (f a :: ·) = _
    rw [dB_map f l]; rfl
theorem all_map {α : Type} (f : α → Bool) (l : List α) : f1W bAll [.lst (l.map fun x => .bl (f x))] ω = .ok (.bl (l.all f)) ω := by
  simp [f1W, bAll, asL, dB_map]
theorem any_map {α : Type} (f : α → Bool) (l : List α) : f1W bAny [.lst (l.map fun x => .bl (f x))] ω = .ok (.bl (l.any f)) ω := by
  simp [f1W, bAny, asL, dB_map]
@[simp] theorem x_sl (a : Str) (lo hi : Option Int) (h : a.length ≤ sizeLine) : fSl (.str a) lo hi ω = .ok (.str (cutS a lo hi)) ω := by simp [fSl, asL, h]
@[simp] theorem x_lenS (a : Str) (h : a.length ≤ sizeLine) : f1W bLen [.str a] ω = .ok (.int a.length) ω := by simp [f1W, bLen, asL, h]
@[simp] theorem x_starts (a b : Str) : mP mStarts (.str a) (.str b) ω = .ok (.bl (Txt.startswith a b)) ω := id rfl
@[simp] theorem x_split (a : Str) (c : Nat) (h : a.length + 2 ≤ sizeLine) : mP mSplit (.str a) (.str ⟨#[c]⟩) ω = .ok (.lst ((Txt.split a ⟨#[c]⟩).map .str)) ω := by
  have : ((⟨#[c]⟩ : Str).length == 0) = false := rfl
  simp [mP, mSplit, h, this]
@[simp] theorem x_adds (a b : Str) (h : a.length + b.length ≤ sizeLine) : uAdd (.str a) (.str b) ω = .ok (.str (a ++ b)) ω := by
  simp [uAdd, fOr, fP, iAdd, iI0, sAdd, sS, h]
@[simp] theorem x_strI (i : Int) (h : i.natAbs.log2 < 1920) : f1V bStr [.int i] ω = .ok (.str (intS i)) ω := by simp [f1V, bStr, h, intS]
@[simp] theorem x_strS (a : Str) : f1V bStr [.str a] ω = .ok (.str a) ω := id rfl
theorem x_intS {a : Str} {n : Int} (h : a.length ≤ 640) (e : PySem.intText? a = some n) : f1V bInt [.str a] ω = .ok (.int n) ω := by simp [f1V, bInt, h, e]
end
end Mine
namespace Mine
open PySem PySem.Spec PyProof.Rows L2
/-! ### statements in a row -/
/-- g goes on, and then Q -/
def Runs (g : GS) (ρ : DEnv) (ω : Store) (Q : DEnv → Store → Prop) : Prop := ∃ ρ' ω', g ρ ω = .next ρ' ω' ∧ Q ρ' ω'
theorem Runs.seq {g h : GS} {ρ ρ' : DEnv} {ω ω' : Store} {Q : DEnv → Store → Prop} (e : g ρ ω = .next ρ' ω') (r : Runs h ρ' ω' Q) : Runs (sSeq g h) ρ ω Q := by
  obtain ⟨r1, w1, e1, q⟩ := r
  exact ⟨r1, w1, by rw [x_sSeq, e]; exact e1, q⟩
theorem Runs.set {g : GE} {h : GS} {i : Nat} {d : Dv} {ρ : DEnv} {ω ω' : Store} {Q : DEnv → Store → Prop} (e : g ρ ω = .ok d ω') (r : Runs h (ρ.set i (some d)) ω' Q) : Runs (sSeq (sSet i g) h) ρ ω Q :=
  .seq (by show (g ρ ω).then ρ _ = _; rw [e]; rfl) r
theorem Runs.ifF {c : GT} {g h : GS} {ρ : DEnv} {ω ω' : Store} {Q : DEnv → Store → Prop} (e : c ρ ω = .ok false ω') (r : Runs h ρ ω' Q) : Runs (sSeq (sIf c g sNext) h) ρ ω Q :=
  .seq (by rw [x_sIf, e]; rfl) r
theorem Runs.ifE {c : GT} {g : GS} {ρ : DEnv} {ω ω' : Store} {Q : DEnv → Store → Prop} (e : c ρ ω = .ok false ω') (q : Q ρ ω') : Runs (sIf c g sNext) ρ ω Q :=
  ⟨ρ, ω', by rw [x_sIf, e]; rfl, q⟩
theorem loop_inv {I : DEnv → Store → Prop} {i : Nat} {gb : GS} (hb : ∀ d ρ ω, I ρ ω → Runs gb (ρ.set i (some d)) ω I) : ∀ (ds : List Dv) (ρ : DEnv) (ω : Store), I ρ ω → ∃ ρ' ω', loopD (tName i) gb ds ρ ω = .next ρ' ω' ∧ I ρ' ω'
  | [], ρ, ω, h => ⟨ρ, ω, rfl, h⟩
  | d :: ds, ρ, ω, h => by
    obtain ⟨r1, w1, e1, q1⟩ := hb d ρ ω h
    obtain ⟨r2, w2, e2, q2⟩ := loop_inv hb ds r1 w1 q1
    exact ⟨r2, w2, by simp only [loopD, x_tName, e1, e2], q2⟩
/-- a number's text -/
abbrev numS (m : Nat) : Str := intS (m : Int)
theorem cps_numS (m : Nat) : (numS m).cps.toList = digs m := cps_num m
theorem strE {a b : Str} (h : a.cps.toList = b.cps.toList) : a = b := by
  obtain ⟨⟨a⟩⟩ := a
  obtain ⟨⟨b⟩⟩ := b
  have : a = b := h
  rw [this]
theorem neg_str {m : Nat} (h : 0 < m) : intS (-(m : Int)) = ⟨#[45]⟩ ++ numS m := by
  obtain ⟨k, rfl⟩ : ∃ k, m = k + 1 := ⟨m - 1, by omega⟩
  apply str_ext
  show (Str.ofString (toString (-(((k + 1 : Nat) : Int))))).cps.toList = (⟨#[45]⟩ ++ numS (k + 1) : Str).cps.toList
  rw [cps_app, cps_numS, ← cps_num]
  have e2 : (toString (-(((k + 1 : Nat) : Int))) : String) = "-" ++ toString ((k + 1 : Nat) : Int) := rfl
  rw [e2, signs_ofString, String.toList_append, List.map_append]
  show _ = [45] ++ (Str.ofString (toString ((k + 1 : Nat) : Int))).cps.toList
  rw [signs_ofString]
  rfl
theorem numS_len {m : Nat} {k : Nat} (hk : 0 < k) (h : m < 10 ^ k) : (numS m).length ≤ k := by rw [str_len, cps_numS]; exact digs_len hk h
theorem numS_int {m : Nat} (h : m < 10 ^ 30) : PySem.intText? (numS m) = some (m : Int) := num_int m (by have := digs_len (by decide) h; omega)
theorem numS_free {m c : Nat} (h : c < 48 ∨ 57 < c) : c ∉ (numS m).cps.toList := fun hc => by
  rw [cps_numS] at hc
  have := digs_all m c hc
  omega
theorem numS_head (m : Nat) : ∃ c r, (numS m).cps.toList = c :: r ∧ 48 ≤ c ∧ c ≤ 57 := by
  rw [cps_numS]
  cases h : digs m with
  | nil => exact absurd h (digs_ne m)
  | cons c r => exact ⟨c, r, rfl, digs_all m c (h ▸ List.mem_cons_self)⟩
theorem num_log {i : Int} (h : i.natAbs < 2 ^ 1919) : i.natAbs.log2 < 1920 := by
  by_cases h0 : i.natAbs = 0
  · rw [h0]; decide
  · have := (Nat.log2_lt h0).mpr h
    omega
end Mine
namespace Mine
open PySem PySem.Spec PyProof.Rows L2
/-! ### lambdas as values -/
def dfV (b : Bool) (td : Addr) : Value := if b then .ref td else .none
/-- the function object of a lambda -/
def LamP (b : Bool) (q : Str) (params : Arguments) (body : Expr) (scope : Scope) (clo : List (Str × Addr)) (f c' td : Addr) : Heap → Prop :=
  fun h => ∃ doc pm ctv, h.get? f = some (PySem.W.kdv_obj "<lambda>" q params (.expr body) scope clo (dfV b td) doc pm c' ctv)
/-- no default; one, and it is 0 -/
def DfOk (params : Arguments) : Bool → Prop
  | false => params.defaults = [] ∧ params.kw_defaults = []
  | true => ∃ j p, params.defaults = [.Constant (.int 0) j p] ∧ params.kw_defaults = []
/-- what a call without arguments binds -/
structure LamB (params : Arguments) (body : Expr) (scope : Scope) (b : Bool) (bs : Value → List (Str × Value)) : Prop where
  b0 : b = false → ∀ (q : Str) (clo : List (Str × Addr)) (doc pm cv ctv v : Value), bindArgs (PySem.W.kdv_fn "<lambda>" q params (.expr body) scope clo .none doc pm cv ctv) ⟨[], []⟩ = pure (bs v)
  b1 : b = true → ∀ (q : Str) (clo : List (Str × Addr)) (doc pm cv ctv : Value) (td : Addr) (t : Tok), ∃ k, bindArgs (PySem.W.kdv_fn "<lambda>" q params (.expr body) scope clo (.ref td) doc pm cv ctv) ⟨[], []⟩ = (seqItems? (.ref td) >>= k) ∧ k (some #[.int 0 t]) = pure (bs (.int 0 t))
  loc : ∀ v, ∀ y ∈ bs v, scope.names.lookup y.1 = some .local
/-- the names of a lambda: captured ones, globals, parameters that the maker does not know -/
structure LamN (N : List Str) (sc scope : Scope) : Prop where
  kind : scope.kind = .function
  co : scope.isCoroutine = false
  gen : scope.isGenerator = false
  cell : ∀ y ∈ scope.names, y.2 ≠ .cell
  own : ∀ y ∈ scope.names, y.2 = .local → y.1 ∉ N
  free : ∀ y ∈ scope.names, y.2 = .free → sc.names.lookup y.1 = some .cell ∨ sc.names.lookup y.1 = some .free
def lamNB (N : List Str) (sc scope : Scope) : Bool :=
  decide (scope.kind = .function) && !scope.isCoroutine && !scope.isGenerator && scope.names.all fun y => match y.2 with
    | .cell => false
    | .local => !decide (y.1 ∈ N)
    | .free => decide (sc.names.lookup y.1 = some .cell) || decide (sc.names.lookup y.1 = some .free)
    | _ => true
theorem lamN_by {N : List Str} {sc scope : Scope} (h : lamNB N sc scope = true) : LamN N sc scope := by
  unfold lamNB at h
  simp only [Bool.and_eq_true, Bool.not_eq_true', decide_eq_true_eq, List.all_eq_true] at h
  obtain ⟨⟨⟨h1, h2⟩, h3⟩, h4⟩ := h
  refine ⟨h1, h2, h3, fun y hy e => ?_, fun y hy e => ?_, fun y hy e => ?_⟩
  · have z := h4 y hy
    simp only [e] at z
    cases z
  · have z := h4 y hy
    simp only [e, Bool.not_eq_true', decide_eq_false_iff_not] at z
    exact z
  · have z := h4 y hy
    simp only [e, Bool.or_eq_true, decide_eq_true_eq] at z
    exact z
section
variable {X : Cx} {pins : List (Addr × Obj)} {σ : L2.St} {H : Hp} {s : Shared}
theorem LamN.has {scope : Scope} (L : LamN X.N X.env.scope scope) (ok : X.Ok) : ∀ y ∈ scope.names, y.2 = .free → ∃ c, X.env.cells.lookup y.1 = some c := fun y hy e => ok.has _ ((L.free y hy e).imp id id)
/-- the last steps of the making -/
theorem lam_tail {T : List (Addr × Str)} {c P td : Addr} {b : Bool} {params : Arguments} {body : Expr} {scope : Scope} {pos : Pos} {E : Value → Shared → Prop} {Q : Value → Shared → Prop} (I : Inv X pins σ H s) (TB : LamX.TabB X.base X.mg c P) (hcode : X.env.code = .ref c)
    (hm : (P, X.env.qual ++ "<lambda>") ∈ T) (hu : ∀ p ∈ T, p.1 = P → p.2 = X.env.qual ++ "<lambda>") (hT : LamX.Tabs T H) (hfree : ∀ y ∈ scope.names, y.2 = .free → ∃ c, X.env.cells.lookup y.1 = some c)
    (h : ∀ (f c' : Addr) (H1 : Hp) (s' : Shared), H1 f = none → LamX.ExtN H H1 → LamX.Tabs T H1 → H1 c' = some (LamX.CodeO c' (X.env.qual ++ "<lambda>")) → Inv X pins σ (upd H1 f (.ext (LamP b (X.env.qual ++ "<lambda>") params body scope (cloFrom X.env.cells scope.names []) f c' td))) s' → Q (.ref f) s') :
    wpAny (model X.prog X.w) X.A (makeTail "<lambda>" (X.env.qual ++ "<lambda>") params (.expr body) scope X.env (dfV b td) .none none pos pos.line) Q E s := by
  obtain ⟨ps, hP, ht, ha⟩ := hT _ hm
  have bP : s.heap.BuiltinsAt X.mg P := TB.bm.keeps I.bk
  have hP' : s.heap.get? P = some { cls := .none, data := .fields ps } := I.hok P _ hP
  have new : ∀ (h' : Heap) (H1 : Hp) (doc pm ctv : Value) (c' : Addr), ObjOk X.prog X.w (upd H1 h'.objs.size (.ext (LamP b (X.env.qual ++ "<lambda>") params body scope (cloFrom X.env.cells scope.names []) h'.objs.size c' td)))
      (h'.push (PySem.W.kdv_obj "<lambda>" (X.env.qual ++ "<lambda>") params (.expr body) scope (cloFrom X.env.cells scope.names []) (dfV b td) doc pm c' ctv)) h'.objs.size (.ext (LamP b (X.env.qual ++ "<lambda>") params body scope (cloFrom X.env.cells scope.names []) h'.objs.size c' td)) :=
    fun h' H1 doc pm ctv c' => ⟨⟨doc, pm, ctv, Heap.get?_push_size _ rfl⟩, ⟨_, Heap.get?_push_size _ rfl⟩, fun h1 h2 ⟨doc, pm, ctv, e⟩ st => ⟨doc, pm, ctv, st _ e⟩⟩
  cases hc : codeAmong pos ps.toList with
  | none =>
    refine PySem.W.kdv_makeTail (mg := X.mg) (c := c) (P := P) (ps := ps) (closure_ok hfree) I.ok.glob (I.mod.glob.keeps I.bk) hcode (TB.code.keeps I.bk) hP' ht hc TB.gP bP fun c' ctv doc h' tk hx hge hlt hrec htb => ?_
    obtain ⟨c2, oc, vs, t, e2, hoc, hd, hv⟩ := hrec
    cases e2
    have I0 := LamX.inv_table (t' := tk) (more := #[rawInt pos.line, rawInt pos.col, .ref c']) (h' := h') I hP hx htb hge ⟨oc, vs, t, hoc, hd, hv⟩
    have nC : H c' = none := I.hok.fresh hge
    have nP : P ≠ c' := fun z => by rw [z, nC] at hP; cases hP
    have hE : LamX.ExtN H (upd (upd H P (.tbl (ps ++ #[rawInt pos.line, rawInt pos.col, .ref c']))) c' (LamX.CodeO c' (X.env.qual ++ "<lambda>"))) := fun b o e n => by
      have h1 : b ≠ c' := fun z => by rw [z, nC] at e; cases e
      have h2 : b ≠ P := fun z => by rw [z, hP] at e; cases e; exact n _ rfl
      rw [upd_ne h1, upd_ne h2]; exact e
    have eL : (ps ++ #[rawInt pos.line, rawInt pos.col, .ref c']).toList = ps.toList ++ [rawInt pos.line, rawInt pos.col, .ref c'] := by simp
    have hT1 : LamX.Tabs T (upd (upd H P (.tbl (ps ++ #[rawInt pos.line, rawInt pos.col, .ref c']))) c' (LamX.CodeO c' (X.env.qual ++ "<lambda>"))) := fun p hp => by
      by_cases hb : p.1 = P
      · have eq := hu p hp hb
        obtain ⟨p1, p2⟩ := p
        have hb : p1 = P := hb
        have eq : p2 = X.env.qual ++ "<lambda>" := eq
        subst hb eq
        refine ⟨_, (upd_ne nP).trans upd_same, by rw [eL]; exact PySem.TriplesOk_snoc _ _ _ _ ht, fun p' cv hcv => ?_⟩
        rw [eL] at hcv
        rcases LamX.among_app _ ht hcv with z | z
        · obtain ⟨c0, e1, e2⟩ := ha p' cv z
          exact ⟨c0, e1, hE _ _ e2 LamX.codeO_ne⟩
        · exact ⟨c', z, upd_same⟩
      · obtain ⟨ps', a1, a2, a3⟩ := hT p hp
        have h1 : p.1 ≠ c' := fun z => by rw [z, nC] at a1; cases a1
        refine ⟨ps', by rw [upd_ne h1, upd_ne hb]; exact a1, a2, fun p' cv hcv => ?_⟩
        obtain ⟨c0, e1, e2⟩ := a3 p' cv hcv
        exact ⟨c0, e1, hE _ _ e2 LamX.codeO_ne⟩
    exact h _ c' _ _ (I0.hok.fresh (Nat.le_refl _)) hE hT1 upd_same (I0.laid (t' := tk) (fun b u e => Heap.get?_push_of_some _ e) (Nat.le_refl _) (new h' _ doc _ ctv c'))
  | some cv =>
    obtain ⟨c', e, hco⟩ := ha pos cv hc
    subst e
    refine PySem.W.kdv_makeTailHit (mg := X.mg) (c := c) (P := P) (ps := ps) (closure_ok hfree) I.ok.glob (I.mod.glob.keeps I.bk) hcode (TB.code.keeps I.bk) hP' ht hc bP fun ctv doc h' tk hx hsz => ?_
    have I0 : Inv X pins σ H { s with heap := h', toks := tk } := I.kept hx
    have nf : H h'.objs.size = none := I0.hok.fresh (Nat.le_refl _)
    exact h _ c' H _ nf (LamX.ExtN.refl H) hT hco (I0.laid (t' := tk) (fun b u e => Heap.get?_push_of_some _ e) (Nat.le_refl _) (new h' H doc _ ctv c'))
/-- the lambda made -/
theorem lam_make3 {T : List (Addr × Str)} {c P : Addr} {b : Bool} {params : Arguments} {body : Expr} {scope : Scope} {pos : Pos} {Q : Value → Shared → Prop} (I : Inv X pins σ H s) (TB : LamX.TabB X.base X.mg c P) (hcode : X.env.code = .ref c)
    (hm : (P, X.env.qual ++ "<lambda>") ∈ T) (hu : ∀ p ∈ T, p.1 = P → p.2 = X.env.qual ++ "<lambda>") (hT : LamX.Tabs T H) (hdf : DfOk params b) (hfree : ∀ y ∈ scope.names, y.2 = .free → ∃ c, X.env.cells.lookup y.1 = some c)
    (h : ∀ (f c' td : Addr) (H1 : Hp) (s' : Shared), H1 f = none → LamX.ExtN H H1 → LamX.Tabs T H1 → H1 c' = some (LamX.CodeO c' (X.env.qual ++ "<lambda>")) → (b = true → H1 td = some (.ext (DefT td))) → Inv X pins σ (upd H1 f (.ext (LamP b (X.env.qual ++ "<lambda>") params body scope (cloFrom X.env.cells scope.names []) f c' td))) s' → Q (.ref f) s') :
    wpAny (model X.prog X.w) X.A (eval (.Lambda params body scope pos) X.env) Q X.xe s := by
  cases b with
  | false =>
    obtain ⟨d1, d2⟩ := hdf
    refine PySem.W.kla_eval (by rw [PySem.defaultsOf_eq, d1, d2]; rfl) ?_
    rw [PySem.makeFunction_eq]
    simp only [List.zip_nil_right, List.filterMap_nil, List.isEmpty_nil, if_true, pure_bind]
    exact lam_tail (b := false) (td := 0) I TB hcode hm hu hT hfree fun f c' H1 s' nf eN T1 hc I1 => h f c' 0 H1 s' nf eN T1 hc (fun z => nomatch z) I1
  | true =>
    obtain ⟨j, p, d1, d2⟩ := hdf
    refine PySem.W.kdv_lam (by rw [d1]; rfl) d2 ?_
    rw [d1]
    refine PySem.W.kdv_all1 (thn ((pe_int (pos := p) (i := 0) (j := j)).run pins s σ H (fun v H1 => v = .int 0 ∧ H1 = H) I ⟨rfl, rfl⟩) fun u s1 hq => PySem.W.kdv_all0 ?_)
    obtain ⟨v, H0, I1, rv, rfl, rfl⟩ := hq
    obtain ⟨t, rfl⟩ := rv
    rw [PySem.makeFunction_eq]
    simp only [List.zip_nil_right, List.filterMap_nil, List.isEmpty_nil, List.isEmpty_cons, if_true, pure_bind, Bool.false_eq_true, if_false]
    refine wpAny_bind (wpAny_newTextTuple ?_)
    have nd : H0 s1.heap.objs.size = none := I1.hok.fresh (Nat.le_refl _)
    have I2 : Inv X pins σ (upd H0 s1.heap.objs.size (.ext (DefT s1.heap.objs.size))) { s1 with heap := s1.heap.push { cls := .type "tuple", data := .seq ([Value.int 0 t]).toArray } } :=
      I1.laid (t' := s1.toks) (fun b u e => Heap.get?_push_of_some _ e) (Nat.le_refl _) ⟨⟨t, Heap.get?_push_size _ rfl⟩, ⟨_, Heap.get?_push_size _ rfl⟩, fun h1 h2 ⟨t, e⟩ st => ⟨t, st _ e⟩⟩
    have sm : Same H0 (upd H0 s1.heap.objs.size (.ext (DefT s1.heap.objs.size))) := Same.new nd
    exact lam_tail (b := true) (td := s1.heap.objs.size) I2 TB hcode hm hu (hT.ext sm) hfree fun f c' H1 s' nf eN T1 hc I1 => h f c' _ H1 s' nf ((LamX.ExtN.of sm).trans eN) T1 hc (fun _ => eN _ _ upd_same fun _ z => nomatch z) I1
/-- `lambda: body` as a value -/
theorem pe_lam {T : List (Addr × Str)} {c P : Addr} {b : Bool} {params : Arguments} {body : Expr} {scope : Scope} {pos : Pos} (TB : LamX.TabB X.base X.mg c P) (hcode : X.env.code = .ref c)
    (hm : (P, X.env.qual ++ "<lambda>") ∈ T) (hu : ∀ p ∈ T, p.1 = P → p.2 = X.env.qual ++ "<lambda>") (L : LamN X.N X.env.scope scope) (hdf : DfOk params b) :
    PE X (.Lambda params body scope pos) (fun σ H Q => LamX.Tabs T H ∧ ∀ (f c' td : Addr) (H1 : Hp), H1 f = none → LamX.ExtN H H1 → LamX.Tabs T H1 → H1 c' = some (LamX.CodeO c' (X.env.qual ++ "<lambda>")) → (b = true → H1 td = some (.ext (DefT td))) → Q (.ref f) (upd H1 f (.ext (LamP b (X.env.qual ++ "<lambda>") params body scope (cloFrom X.env.cells scope.names []) f c' td)))) :=
  ⟨fun pins s σ H Q I h => lam_make3 I TB hcode hm hu h.1 hdf (L.has I.ok) fun f c' td H1 s' nf eN T1 hc hd I1 => ⟨.ref f, _, I1, rfl, h.2 f c' td H1 nf eN T1 hc hd⟩⟩
/-- the lambda's own frame -/
theorem lam_in {A : Around} {outer : List Env} {E : XK} {scope : Scope} {f c' : Addr} {s1 : Shared} {HZ : Hp} {h₁ : Heap} {tk : Nat} {m : Str → Option Value} (I : Inv X pins σ H s) (L : LamN X.N X.env.scope scope) (e0 : Env0 X.prog X.w X.K X.mg X.base A outer s1 HZ) (hd : A.handled = none)
    (un : Un (frs X.stack) [] H HZ s.heap s1.heap) (hns : h₁.Ns s1.heap.objs.size m) (kp : ∀ b o, s1.heap.get? b = some o → h₁.get? b = some o) :
    Inv (LamX.lamCx X A outer s1 HZ E scope f c') [] σ HZ { s1 with heap := h₁, toks := tk } := by
  have hf := L.has I.ok
  have up : ∀ {y : Str} {c : Addr}, (cloFrom X.env.cells scope.names []).lookup y = some c → X.env.cells.lookup y = some c := by
    intro y c e
    rcases cloFrom_mem (PySem.mem_of_lookup e) with z | ⟨z, rfl⟩
    · cases z
    · obtain ⟨c1, hc⟩ := hf _ z rfl
      have hc : X.env.cells.lookup y = some c1 := hc
      rw [hc]
      rfl
  have down : ∀ {y : Str}, scope.names.lookup y = some .free → ∃ c, (cloFrom X.env.cells scope.names []).lookup y = some c := fun {y} e => mem_lookup (cloFrom_has (acc := []) (PySem.mem_of_lookup e))
  have still : ∀ {c : Addr} {v : Option Value}, H c = none → s.heap.IsCell c v → h₁.IsCell c v := by
    rintro c v n ⟨o, ho, hv⟩
    obtain ⟨sl, q⟩ := un.any ho n (by simp)
    exact ⟨_, kp _ _ q, hv⟩
  have nx : ∀ z : Addr, z ∉ (LamX.lamCx X A outer s1 HZ E scope f c').ex := fun z h => nomatch (show z ∈ ([] : List Addr) from h)
  have ok : (LamX.lamCx X A outer s1 HZ E scope f c').Ok := by
    refine ⟨e0.mod, L.kind, rfl, rfl, Nat.le_refl _, ?_, ?_, ?_, fun _ => hd, Around.frames_deeper e0.frames, .inr ⟨rfl, rfl⟩, ?_, e0.bs, e0.bsz, fun z _ _ => nx z, ?_, e0.funs, e0.frf⟩
    · exact fun y z c h1 h2 => I.ok.inj y z c (up h1) (up h2)
    · intro y hy
      rcases (show scope.names.lookup y = some .cell ∨ scope.names.lookup y = some .free from hy) with z | z
      · exact (L.cell _ (PySem.mem_of_lookup z) rfl).elim
      · exact down z
    · exact fun y c z _ => nomatch (show false = true from z)
    · exact fun z h => (nx z h).elim
    · exact fun z h => (nx z h).elim
  refine ⟨ok, rfl, e0.bare, Un.kept kp, ⟨m, hns, ?_⟩, ?_, e0.hok.fresh (Nat.le_refl _), ?_, fun q hq => (nomatch (show q ∈ ([] : List (Addr × Obj)) from hq)), e0.hok.kept kp, I.len⟩
  · intro i y v e1 e2 e3
    rcases (show Vis scope y from e3) with z | z | z
    · exact (L.own _ (PySem.mem_of_lookup z) rfl (List.mem_of_getElem? e1)).elim
    · exact (L.cell _ (PySem.mem_of_lookup z) rfl).elim
    · have fr := L.free _ (PySem.mem_of_lookup z) rfl
      obtain ⟨m0, _, hl⟩ := I.loc
      obtain ⟨u, ru, q⟩ := hl i y v e1 e2 (fr.elim (fun z => .inr (.inl z)) fun z => .inr (.inr z))
      obtain ⟨c2, h2⟩ := down z
      refine ⟨u, ru, .inr ⟨.inr z, c2, h2, ?_⟩⟩
      rcases q with ⟨z', _⟩ | ⟨_, c3, h3, h4⟩
      · have z' : X.env.scope.names.lookup y = some .local := z'
        rcases fr with z2 | z2 <;> (have z2 : X.env.scope.names.lookup y = _ := z2; rw [z'] at z2; cases z2)
      · have := up h2
        rw [h3] at this
        cases this
        exact still (I.freeC y _ h3) h4
  · intro y c e
    obtain ⟨v, z⟩ := I.cell y c (up e)
    exact ⟨v, still (I.freeC y c (up e)) z⟩
  · intro y c e
    obtain ⟨v, o, ho, _⟩ := I.cell y c (up e)
    exact un.free c o ho (I.freeC y c (up e)) (by simp)
/-- a call of the lambda that a def got -/
theorem pe_act3 {CXg : CXT} {Eg : XK} {Ng : List Str} {qg : Str} {sg : Scope} {g f c' td : Addr} {cdg : Value} {b : Bool} {bs : Value → List (Str × Value)} {params : Arguments} {body : Expr} {scope : Scope} {k i : Nat} {a : Str} {pn : List (Addr × Obj)} {xe : Value → Shared → Prop} {W : WX} {E : XK} {tb : TE} {p1 p2 : Pos}
    (I : Inv X pins σ H s) (L : LamN X.N X.env.scope scope) (B : LamB params body scope b bs)
    (tk : Takes ((cxOf CXg X.prog X.w X.K X.mg X.base Ng qg sg g cdg X.A X.stack s H Eg).tr pn xe) W) (hW : ∀ cls d σ' H', E cls d H' → W cls d σ' H') (hr : Room (k + 1) (X.A.deeper (envOfC qg sg s.heap.objs.size g cdg)))
    (hbody : ∀ (A : Around) (outer : List Env) (s : Shared) (H : Hp), Room k (A.deeper (LamX.lamEnv X scope s.heap.objs.size f c')) → PE (LamX.lamCx X A outer s H E scope f c') body tb)
    (hN : Ng[i]? = some a) (hv : Vis sg a) (hd : (a == ("__debug__" : Str)) = false := by decide) (hcd : (a == ("__classdict__" : Str)) = false := by decide) :
    PE ((cxOf CXg X.prog X.w X.K X.mg X.base Ng qg sg g cdg X.A X.stack s H Eg).tr pn xe) (.Call (.Name a p1) [] [] p2)
      (fun σZ HZ Q => σZ[i]? = some (some (.ref f)) ∧ HZ c' = some (LamX.CodeO c' (X.env.qual ++ "<lambda>")) ∧ (HZ f = some (.ext (LamP b (X.env.qual ++ "<lambda>") params body scope (cloFrom X.env.cells scope.names []) f c' td)) ∧ (b = true → HZ td = some (.ext (DefT td)))) ∧ tb σ HZ Q) := by
  refine ⟨fun pinsZ sZ σZ HZ Q IZ h => ?_⟩
  obtain ⟨hs, hc, ⟨hlo, hdt⟩, ht⟩ := h
  refine wpAny_Call_Name_kw (thn ((pe_var (pos := p1) (i := i) hN hv hd hcd).run pinsZ sZ σZ HZ (fun v H1 => v = .ref f ∧ H1 = HZ) IZ ⟨.ref f, hs, rfl, rfl⟩) fun u s1 ⟨v, H1, I1, r1, q1⟩ => ?_)
  obtain ⟨rfl, rfl⟩ := q1
  obtain rfl : u = Value.ref f := r1
  obtain ⟨⟨doc, pm, ctv, of1⟩, _, _⟩ := I1.hok f _ hlo
  refine PySem.W.callWith_F0 ⟨_, _, _, _, of1⟩ ?_
  have un : Un (frs X.stack) [] H H1 s.heap s1.heap := I1.base
  obtain ⟨⟨oc, vs, t, hoc, hdc, hvc⟩, _, _⟩ := I1.hok c' _ hc
  have rc : codeAny (model X.prog X.w) (X.A.deeper (envOfC qg sg s.heap.objs.size g cdg)) (.call (.ref f) ⟨[], []⟩) (CR (L2.CX X.prog X.w) (envOfC qg sg s.heap.objs.size g cdg :: X.stack) X.prog X.w H1 s1 Q E) s1 := by
    refine PySem.W.kla_callFunE hr.depth of1 rfl L.co L.gen rfl ⟨c', oc, vs, t, rfl, hoc, hdc, hvc⟩ ?_
    have fin : ∀ v, wpAny (model X.prog X.w) (X.A.deeper (envOfC qg sg s.heap.objs.size g cdg)).in1 (newFunctionEnv scope mainGlobals (cloFrom X.env.cells scope.names []) (bs v) (X.env.qual ++ "<lambda>" ++ ".<locals>.") (some f) (.ref c') none builtinsNs)
        (fun env s₂ => s₂.heap.NoLimit ∧ codeAny (model X.prog X.w) (X.A.deeper (envOfC qg sg s.heap.objs.size g cdg)) (.expr body env) (CR (L2.CX X.prog X.w) (envOfC qg sg s.heap.objs.size g cdg :: X.stack) X.prog X.w H1 s1 Q E) s₂)
        (fun e s' => CR (L2.CX X.prog X.w) (envOfC qg sg s.heap.objs.size g cdg :: X.stack) X.prog X.w H1 s1 Q E (.error e) s') s1 := fun v => by
      refine wpAny_newFunctionEnv L.cell (B.loc v) (fun h₁ hns hsb => ⟨I1.nolimit.fresh _ hsb, ?_⟩) L.kind
      have kp : ∀ b o, s1.heap.get? b = some o → h₁.get? b = some o := fun b o e => hsb.extBut b o (Nat.ne_of_lt (Heap.lt_size e)) (Heap.get?_push_of_some _ e)
      have J := lam_in (E := E) (scope := scope) (f := f) (c' := c') (tk := s1.toks + (bs v).length) I L I1.env0 hr.hd un hns kp
      show codeAny _ _ (.expr body (LamX.lamEnv X scope s1.heap.objs.size f c')) _ _
      refine PySem.W.kla_codeExpr (wpAny_mono ((hbody _ _ s1 H1 (hr.deeper _)).run [] _ _ H1 Q J ht) (fun v s' hq => ?_) fun e s' hq => hq)
      obtain ⟨w', H', J', rv, q⟩ := hq
      exact ⟨w', H', J'.os, J'.bare, J'.base, J'.hok, rv, q⟩
    cases b with
    | false =>
      have e : bindArgs (PySem.W.kdv_fn "<lambda>" (X.env.qual ++ "<lambda>") params (.expr body) scope (cloFrom X.env.cells scope.names []) (dfV false td) doc pm (.ref c') ctv) ⟨[], []⟩ = pure (bs .none) := B.b0 rfl _ _ _ _ _ _ _
      show wpAny _ _ (bindArgs (PySem.W.kdv_fn "<lambda>" (X.env.qual ++ "<lambda>") params (.expr body) scope (cloFrom X.env.cells scope.names []) (dfV false td) doc pm (.ref c') ctv) ⟨[], []⟩) _ _ _
      rw [e]
      exact wpAny_pure (fin .none)
    | true =>
      obtain ⟨⟨t0, ot⟩, _, _⟩ := I1.hok td _ (hdt rfl)
      obtain ⟨kk, h1, h2⟩ := B.b1 rfl (X.env.qual ++ "<lambda>") (cloFrom X.env.cells scope.names []) doc pm (.ref c') ctv td t0
      exact BindsTo.of_defaults (fd := PySem.W.kdv_fn "<lambda>" (X.env.qual ++ "<lambda>") params (.expr body) scope (cloFrom X.env.cells scope.names []) (.ref td) doc pm (.ref c') ctv) (T := td) rfl ot rfl h1 h2 _ _ _ _ (fin _)
  have hx : Passes (L2.CX X.prog X.w) ((cxOf CXg X.prog X.w X.K X.mg X.base Ng qg sg g cdg X.A X.stack s H Eg).tr pn xe) E := passes_call tk hW
  refine wpAny_call (codeAny_mono rc fun r s' hq => ?_)
  cases r with
  | error e => exact hx pinsZ σZ H1 s1 e s' I1 hq
  | ok fl =>
    cases fl with
    | ret u => exact I1.after hq
    | next => exact False.elim hq
    | brk => exact False.elim hq
    | cont => exact False.elim hq
/-- what is known of a lambda's objects -/
def LamH (q : Str) (b : Bool) (params : Arguments) (body : Expr) (scope : Scope) (clo : List (Str × Addr)) (f c' td : Addr) (H : Hp) : Prop := H f = some (.ext (LamP b q params body scope clo f c' td)) ∧ (b = true → H td = some (.ext (DefT td)))
/-- the call of _law_why with a lambda that stands in the heap: X made it, and its state is known -/
theorem why_rc {TT : (XK → Hp → VK → Prop) → Hp → VK → Prop} {x a : Str} {g f c' td : Addr} {k : Nat} {pg : Arguments} {bg : List Stmt} {sg : Scope} {dV kV doc pm cdv ct oc : Value} {an od : Option Addr} {osl : Array (Option Value)} {Ng : List Str}
    {b : Bool} {bs : Value → List (Str × Value)} {params : Arguments} {body : Expr} {scope : Scope} {t : XK → TE} {Q : VK} (I1 : Inv X pins σ H s)
    (lk : X.K.lookup g = some ⟨oc, od, .func (PySem.W.fnOf x x pg bg sg dV kV doc pm an cdv ct), osl⟩) (hcg : PySem.W.codeIn X.K cdv x = true) (hb : L2.Binds X.K (PySem.W.fnOf x x pg bg sg dV kV doc pm an cdv ct) [a] []) (Sg : FnScope Ng [a] sg) (hNg : Ng[0]? = some a) (hva : Vis sg a)
    (hG : LamX.GivesTo X Ng x sg g cdv bg a (X.env.qual ++ "<lambda>") TT) (hr : Room (k + 2) X.A) (L : LamN X.N X.env.scope scope) (B : LamB params body scope b bs)
    (hbody : ∀ (A : Around) (outer : List Env) (s : Shared) (H : Hp) (E : XK) (f c' : Addr), Room k (A.deeper (LamX.lamEnv X scope s.heap.objs.size f c')) → PE (LamX.lamCx X A outer s H E scope f c') body (t E))
    (hd : (a == ("__debug__" : Str)) = false) (hcd : (a == ("__classdict__" : Str)) = false) (hc : H c' = some (LamX.CodeO c' (X.env.qual ++ "<lambda>")))
    (h : TT (fun E H' Q' => LamH (X.env.qual ++ "<lambda>") b params body scope (cloFrom X.env.cells scope.names []) f c' td H' ∧ t E σ H' Q') H Q) :
    codeAny (model X.prog X.w) X.A (.call (.ref g) ⟨[.ref f], []⟩) (CR C8.CX0 X.stack X.prog X.w H s Q C8.E0) s := by
  refine LamX.run_ofS (N := Ng) (ps := [a]) (us := [.ref f]) (vs := [.ref f]) lk hcg Sg hr I1.env0 (hb s [.ref f] I1.kIn rfl) (.cons rfl .nil) rfl fun hr' => ?_
  obtain ⟨t', ht', hq'⟩ := hG f c' s H Q _ (fun W pn xe E p1 p2 tk hW => pe_act3 (i := 0) (td := td) I1 L B tk hW hr' (fun A outer s H hr2 => hbody A outer s H E f c' hr2) hNg hva hd hcd) hc h
  exact ⟨t', ht'.nox, hq'⟩
/-- x(e), e a lambda of X's -/
theorem pe_whyV {TT : (XK → Hp → VK → Prop) → Hp → VK → Prop} {x a : Str} {g : Addr} {k n : Nat} {pg : Arguments} {bg : List Stmt} {sg : Scope} {dV kV doc pm cdv ct oc : Value} {an od : Option Addr} {osl : Array (Option Value)} {Ng : List Str}
    {ld : Nat → Bool} {bs : Nat → Value → List (Str × Value)} {pr : Nat → Arguments} {bo : Nat → Expr} {sc : Nat → Scope} {t : Nat → XK → TE} {e : Expr} {te : TE} {p pos : Pos} (he : PE X e te) (hg : Gl X x) (hm : X.mg x = some (.ref g)) (hk : PySem.W.keepIn X.K (.ref g) = true)
    (lk : X.K.lookup g = some ⟨oc, od, .func (PySem.W.fnOf x x pg bg sg dV kV doc pm an cdv ct), osl⟩) (hcg : PySem.W.codeIn X.K cdv x = true) (hb : L2.Binds X.K (PySem.W.fnOf x x pg bg sg dV kV doc pm an cdv ct) [a] []) (Sg : FnScope Ng [a] sg) (hNg : Ng[0]? = some a) (hva : Vis sg a)
    (hG : LamX.GivesTo X Ng x sg g cdv bg a (X.env.qual ++ "<lambda>") TT) (hr : Room (k + 2) X.A) (L : ∀ i, i < n → LamN X.N X.env.scope (sc i)) (B : ∀ i, i < n → LamB (pr i) (bo i) (sc i) (ld i) (bs i))
    (hbody : ∀ i, i < n → ∀ (A : Around) (outer : List Env) (s : Shared) (H : Hp) (E : XK) (f c' : Addr), Room k (A.deeper (LamX.lamEnv X (sc i) s.heap.objs.size f c')) → PE (LamX.lamCx X A outer s H E (sc i) f c') (bo i) (t i E))
    (hs : starEach [e] X.env = (false, eval e X.env) :: starEach [] X.env := by rfl) (hdb : (x == ("__debug__" : Str)) = false := by decide) (hd : (a == ("__debug__" : Str)) = false := by decide) (hcd : (a == ("__classdict__" : Str)) = false := by decide) :
    PE X (.Call (.Name x p) [e] [] pos) (fun σ H Q => te σ H fun v H1 => ∃ f c' td i, v = .ref f ∧ i < n ∧ H1 c' = some (LamX.CodeO c' (X.env.qual ++ "<lambda>")) ∧
      TT (fun E H' Q' => LamH (X.env.qual ++ "<lambda>") (ld i) (pr i) (bo i) (sc i) (cloFrom X.env.cells (sc i).names []) f c' td H' ∧ t i E σ H' Q') H1 Q) := by
  refine ⟨fun pins s σ H Q I h => ?_⟩
  refine wpAny_Call_Name_kw (ld_glob I hg hm ?_ hdb)
  refine PySem.W.callWith_K (h₀ := X.base) I.ok.mod.kin hk ?_ hs (by rfl)
  rw [hs]
  refine Calls.spliced_cons (thn (he.run pins s σ H _ I h) fun u s1 hq => ?_)
  obtain ⟨v, H1, I1, rv, f, c', td, i, rfl, hi, hc, htt⟩ := hq
  obtain rfl : u = Value.ref f := rv
  refine Calls.spliced_nil ⟨I1.kIn, ?_⟩
  refine wpAny_call (codeAny_mono (why_rc I1 lk hcg hb Sg hNg hva hG hr (L i hi) (B i hi) (hbody i hi) hd hcd hc htt) fun r s2 hq => ?_)
  cases r with
  | error e => exact (show False from hq).elim
  | ok fl =>
    cases fl with
    | ret u => exact I1.after hq
    | next => exact False.elim hq
    | brk => exact False.elim hq
    | cont => exact False.elim hq
end
/-! ### the judgements -/
/-- a lambda made as a value, where a cell is known -/
def eLam (k : Nat) : GE := fun _ ω => match ω with
  | [] => .bad
  | _ => .ok (.lam k) ω
theorem keep_extN {H H1 : Hp} (eN : LamX.ExtN H H1) : Keep H H1 := ⟨fun a o t h => eN a o h t, fun a z o e => by
  by_cases h : ∀ ps, o ≠ .tbl ps
  · exact z o (eN a o e h)
  · cases o with
    | tbl ps => exact ⟨ps, rfl⟩
    | _ => exact (h fun _ z => nomatch z).elim⟩
theorem j_lam {cl : Cl} {X : Cx} {W : WX} {k : Nat} {c P : Addr} {b : Bool} {params : Arguments} {body : Expr} {scope : Scope} {pos : Pos} (hld : cl.ld k = b) (hlm : cl.lm k = LamP b (X.env.qual ++ "<lambda>") params body scope (cloFrom X.env.cells scope.names [])) (hlq : cl.lq = X.env.qual ++ "<lambda>")
    (TB : LamX.TabB X.base X.mg c P) (hcode : X.env.code = .ref c) (hmT : (P, X.env.qual ++ "<lambda>") ∈ cl.tb) (hu : ∀ p ∈ cl.tb, p.1 = P → p.2 = X.env.qual ++ "<lambda>") (L : LamN X.N X.env.scope scope) (hdf : DfOk params b) :
    JE cl X W (.Lambda params body scope pos) (eLam k) :=
  ⟨_, pe_lam TB hcode hmT hu L hdf, fun R σ H ρ ω Q he hs o => by
    refine ⟨hs.tabs, fun f c' td H1 nf eN T1 hc hd => ?_⟩
    unfold eLam at o
    split at o
    · exact o.elim
    · rename_i hne
      have kp := keep_extN eN
      have st1 : RepSt X.K cl R H1 ω := hs.keep kp T1
      have nc : c' ≠ f := fun z => by rw [z, nf] at hc; cases hc
      refine o R (.ref f) _ (kp.step.trans (Step.new nf)) (.lam (c' := c') (td := td) ?_ ?_ (fun z => ?_) ?_) (st1.same (Same.new nf))
      · rw [hlm]; exact upd_same
      · rw [upd_ne nc, hlq]; exact hc
      · have z := hd (by rw [← hld]; exact z)
        rw [upd_ne (fun w => by rw [w, nf] at z; cases z)]
        exact z
      · have : 0 < R.nm.length := by rw [hs.len]; exact List.length_pos_iff.mpr hne
        exact ⟨_, List.getElem?_eq_getElem this⟩⟩
/-- what _law_why tells of the lambda's reading -/
theorem why_core {K : PySem.W.Frag} {cl : Cl} {W : WX} {CS CM : Addr} {tab : List (Nat × Str)} {gb : GE} {P : Hp → Prop} (F : ErrF K cl CS CM tab) {R : Rc} {σ : L2.St} {H1 : Hp} {ρ : DEnv} {ω : Store} {Q : VK} (he : RepEnv K cl R H1 σ ρ) (st1 : RepSt K cl R H1 ω) (hP : P H1)
    (o : Out K cl W rV R σ H1 (eWhy tab gb ρ ω) Q) : TTwhy K CS CM (fun E H' Q' => P H' ∧ tG K cl (fun c d _ H => E c d H) gb σ H' Q') H1 Q := by
  have e1 : LamX.Tabs cl.tb H1 := st1.tabs
  have key := why_fr (W := W) F (gb := gb) R σ H1 ρ ω Q he st1 o
  exact ⟨hP, key.2 H1 (LamX.ExtN.refl H1) e1⟩
def eWhyV (tab : List (Nat × Str)) (bodies : List GE) (ga : GE) : GE := fun ρ ω => (ga ρ ω).bind fun d ω => match d with
  | .lam k => match bodies[k]? with
    | some gb => eWhy tab gb ρ ω
    | none => .bad
  | _ => .bad
theorem j_whyV {cl : Cl} {X : Cx} {W : WX} {CS CM : Addr} {tab : List (Nat × Str)} {bodies : List GE} {ga : GE} {x a : Str} {g : Addr} {k : Nat} {pg : Arguments} {bg : List Stmt} {sg : Scope} {dV kV doc pm cdv ct oc : Value} {an od : Option Addr} {osl : Array (Option Value)} {Ng : List Str}
    {bs : Nat → Value → List (Str × Value)} {pr : Nat → Arguments} {bo : Nat → Expr} {sc : Nat → Scope} {e : Expr} {p pos : Pos} (EF : ErrF X.K cl CS CM tab)
    (hlm : ∀ i, i < bodies.length → cl.lm i = LamP (cl.ld i) (X.env.qual ++ "<lambda>") (pr i) (bo i) (sc i) (cloFrom X.env.cells (sc i).names [])) (hlq : cl.lq = X.env.qual ++ "<lambda>") (he : JE cl X W e ga) (hg : Gl X x) (hm : X.mg x = some (.ref g)) (hk : PySem.W.keepIn X.K (.ref g) = true)
    (lk : X.K.lookup g = some ⟨oc, od, .func (PySem.W.fnOf x x pg bg sg dV kV doc pm an cdv ct), osl⟩) (hcg : PySem.W.codeIn X.K cdv x = true) (hb : L2.Binds X.K (PySem.W.fnOf x x pg bg sg dV kV doc pm an cdv ct) [a] []) (Sg : FnScope Ng [a] sg) (hNg : Ng[0]? = some a) (hva : Vis sg a)
    (hG : LamX.GivesTo X Ng x sg g cdv bg a (X.env.qual ++ "<lambda>") (TTwhy X.K CS CM)) (hr : Room (k + 2) X.A) (L : ∀ i, i < bodies.length → LamN X.N X.env.scope (sc i)) (B : ∀ i, i < bodies.length → LamB (pr i) (bo i) (sc i) (cl.ld i) (bs i))
    (hbody : ∀ i gb, bodies[i]? = some gb → ∀ (A : Around) (outer : List Env) (s : Shared) (H : Hp) (E : XK) (f c' : Addr), Room k (A.deeper (LamX.lamEnv X (sc i) s.heap.objs.size f c')) → JE cl (LamX.lamCx X A outer s H E (sc i) f c') (fun c d _ H => E c d H) (bo i) gb)
    (hs : starEach [e] X.env = (false, eval e X.env) :: starEach [] X.env := by rfl) (hdb : (x == ("__debug__" : Str)) = false := by decide) (hd : (a == ("__debug__" : Str)) = false := by decide) (hcd : (a == ("__classdict__" : Str)) = false := by decide) :
    JE cl X W (.Call (.Name x p) [e] [] pos) (eWhyV tab bodies ga) := by
  obtain ⟨te, pe, q⟩ := he
  refine ⟨_, pe_whyV (n := bodies.length) (ld := cl.ld) (t := fun i E => tG X.K cl (fun c d _ H => E c d H) (bodies.getD i (fun _ _ => .bad))) pe hg hm hk lk hcg hb Sg hNg hva hG hr L B (fun i hi A outer s H E f c' hr => ?_) hs hdb hd hcd, fun R σ H ρ ω Q he hs o => ?_⟩
  · have : bodies[i]? = some (bodies.getD i (fun _ _ => .bad)) := by rw [List.getD_eq_getElem?_getD, List.getElem?_eq_getElem hi]; rfl
    exact (hbody i _ this A outer s H E f c' hr).pe
  · refine q.seq he hs o fun R1 v H1 d ω1 s1 r1 st1 he1 o1 => ?_
    split at o1
    case h_2 => exact o1.elim
    rename_i k
    split at o1
    case h_2 => exact o1.elim
    rename_i gb hgb
    have hi := (List.getElem?_eq_some_iff.mp hgb).1
    have r1 : Rep X.K cl R1 H1 v (.lam k) := r1
    cases r1 with
    | lam hf hc hdt hz =>
      rename_i f c' td
      rw [hlm k hi] at hf
      rw [hlq] at hc
      refine ⟨f, c', td, k, rfl, hi, hc, ?_⟩
      have : bodies.getD k (fun _ _ => .bad) = gb := by rw [List.getD_eq_getElem?_getD, hgb]; rfl
      rw [this]
      exact why_core (P := fun H' => LamH _ _ _ _ _ _ f c' td H') EF he1 st1 ⟨hf, hdt⟩ o1
end Mine
namespace Mine
open PySem PySem.Spec PyProof.Rows L2
/-! ### places within a text -/
def dE : Expr := .List [] default
def kE : Expr → List Expr
  | .BoolOp _ vs _ => vs
  | .BinOp a _ b _ => [a, b]
  | .UnaryOp _ a _ => [a]
  | .IfExp c a b _ => [c, a, b]
  | .Compare a _ cs _ => a :: cs
  | .Call f as _ _ => f :: as
  | .Attribute v _ _ => [v]
  | .Subscript v s _ => [v, s]
  | .List es _ => es
  | .Tuple es _ _ => es
  | _ => []
def kS : Stmt → List Expr
  | .Assign _ v _ => [v]
  | .Return (some v) _ => [v]
  | .Expr v _ => [v]
  | .If t _ _ _ => [t]
  | .For _ i _ _ _ => [i]
  | .While t _ _ _ => [t]
  | _ => []
def bS : Stmt → List Stmt
  | .For _ _ b o _ => b ++ o
  | .If _ b o _ => b ++ o
  | .While _ b o _ => b ++ o
  | _ => []
def atS : List Stmt → List Nat → Stmt
  | l, [] => .Pass default
  | l, [n] => l.getD n (.Pass default)
  | l, n :: p => atS (bS (l.getD n (.Pass default))) p
def atE : Expr → List Nat → Expr
  | e, [] => e
  | e, n :: p => atE ((kE e).getD n dE) p
def lamAt (l : List Stmt) (p : List Nat) (k : Nat) (q : List Nat) : Expr := atE ((kS (atS l p)).getD k dE) q
/-- a lambda of a def, as it stands in the text -/
structure LamD where
  pr : Arguments
  bo : Expr
  sc : Scope
  df : Bool
  bs : Value → List (Str × Value)
def dL : LamD := ⟨⟨[], [], none, [], [], none, []⟩, dE, default, false, fun _ => []⟩
/-- the classes, with the lambdas of a def whose frame's names are cells -/
def Cl.lam (cl : Cl) (q : Str) (cells : List (Str × Addr)) (es : List LamD) : Cl := { cl with ld := fun k => (es.getD k dL).df, lm := fun k => LamP (es.getD k dL).df q (es.getD k dL).pr (es.getD k dL).bo (es.getD k dL).sc (cloFrom cells (es.getD k dL).sc.names []), lq := q }
/-- a law: the script in, True out -/
def spL (K : PySem.W.Frag) (tb : List (Addr × Str)) (g : MFn) : Sp := fun vs H Q _ => ∃ (a : Addr) (ns : List Int), vs = [.ref a] ∧ LamX.Tabs tb H ∧ SqL K H a (ns.map V.int) ∧ (∃ ω, g [.scr ns] [] = .ok (.bl true) ω) ∧ ∀ H', Q (.bl true) H'
theorem fn_lawL {P : Program} {w : World} {K : PySem.W.Frag} {mg : Str → Option Value} {base : Heap} {tb : List (Addr × Str)} {x qual ps0 : Str} {st : Stmt} {f : Addr} {N : List Str} {k : Nat} {g : GS} {oc kV doc pm cdv ct : Value} {od an : Option Addr} {osl : Array (Option Value)}
    (clW : Addr → Cl) (htb : ∀ L, (clW L).tb = tb)
    (lk : K.lookup f = some ⟨oc, od, .func (PySem.W.fnOf x qual (defArgs st) (defBody st) (defScope st) .none kV doc pm an cdv ct), osl⟩) (hcd : PySem.W.codeIn K cdv qual = true) (S : FnScope N [ps0] (defScope st))
    (hbody : ∀ (A : Around) (outer : List Env) (s : Shared) (H : Hp) (E : XK), Room k (A.deeper (envOfC qual (defScope st) s.heap.objs.size f cdv)) →
      JSs (clW s.heap.objs.size) (cxOf (L2.CX P w) P w K mg base N qual (defScope st) f cdv A outer s H E) (fun c d _ H => E c d H) (defBody st) g) : FnOk P w K mg base (L2.CX P w) (k + 1) f (PySem.W.fnOf x qual (defArgs st) (defBody st) (defScope st) .none kV doc pm an cdv ct) [ps0] (spL K tb (runM N.length g)) := by
  refine fn_of lk hcd S (fun vs H Q E h => by obtain ⟨_, _, rfl, _⟩ := h; rfl) fun A outer s H vs Q E hr h => ?_
  obtain ⟨t, p, q⟩ := hbody A outer s H E hr
  refine ⟨t, p, ?_⟩
  obtain ⟨a, ns, rfl, hT, hS, hg, hQ⟩ := h
  have h := law_sp (K := K) (cl := clW s.heap.objs.size) (g := runM N.length g) hg (by rw [htb]; exact hT) hS
  obtain ⟨hl, R, ω, ds, st, r, o⟩ := h
  have he : RepEnv K (clW s.heap.objs.size) R H (L2.start N [.ref a]) (startD N.length ds) := by
    unfold L2.start startD
    rw [← r.length]
    exact start_rep r _
  have key : spM K (clW s.heap.objs.size) 1 (runM N.length g) [.ref a] H Q E := by
    refine ⟨rfl, R, ω, ds, st, r, ?_⟩
    cases e : runM N.length g ds ω with
    | ok d w =>
      rw [e] at o
      intro R' v H' s' rv st'
      have z := o R' v H' s' rv st'
      rw [z]
      exact hQ H'
    | exc x w =>
      rw [e] at o
      exact fun R' c dd H' s' ea st' => (o R' c dd H' s' ea st').elim
    | bad => rw [e] at o; exact o
  obtain ⟨hl, R, ω, ds, st, r, o⟩ := key
  have he : RepEnv K (clW s.heap.objs.size) R H (L2.start N [.ref a]) (startD N.length ds) := by
    unfold L2.start startD
    rw [← r.length]
    exact start_rep r _
  exact q R _ H _ ω _ he st (out_run o)
end Mine
namespace Mine
open PySem PySem.Spec PyProof.Rows L2
/-! ### comprehensions whose items call lambdas of the def -/
section
variable {X : Cx} {pins : List (Addr × Obj)} {σ : L2.St}
/-- the turns of a block: R is what stands behind them; the items may know the def's own state -/
theorem lc_turns {sa sb : Shared} {Ha : Hp} {elt tg iter : Expr} {ifs : List Expr} {scope : Scope} {vs : List Nat} {pos : Pos} {g : TG} {tt : TT} {te : TE} {ce : Env} {it D : Addr} {fp : List Addr} {tn : Nat → Heap → Prop} {J : It} {R : Result → Shared → Prop} {Qd : Hp → Prop}
    {W : Nat → Nat → Hp → Prop} {m0 : Nat} (hc : X.calm = true) (Ia : Inv X pins σ Ha sa) (fa : ∀ b ∈ fp, FpOk X pins Ha b) (Ib : Inv (X.blk sa Ha scope ce fp) [] (wipe σ vs) Ha sb) (T : Turn X.prog X.w X.K tg J fp it tn) (st : tn 0 sb.heap) (w0 : W 0 m0 Ha)
    (pg : PG (X.blk sa Ha scope ce fp) tg g) (pt : PTs (X.blk sa Ha scope ce fp) ifs tt)
    (pe : ∀ (pB : List (Addr × Obj)) (s' : Shared) (τ : L2.St) (H' : Hp) (Q : VK), wipe τ vs = wipe σ vs → Inv (X.blk sa Ha scope ce fp) pB τ H' s' → te τ H' Q → wpAny (model X.prog X.w) X.A (eval elt ce) (EP (X.blk sa Ha scope ce fp) pB τ Q) (notedBy (model X.prog X.w) X.A ce fun e s' => R (.error e) s') s')
    (turn : ∀ i m H, W i m H → (J.stop i H ∧ Qd H) ∨ (J.go i H ∧ ∃ Nx : Hp → Prop, (∀ H', Nx H' → ∃ m', m' < m ∧ W (i + 1) m' H') ∧ ∀ x H', J.yld i H x H' → g x (wipe σ vs) H' fun σ2 H2 => wipe σ2 vs = wipe σ vs ∧ tt σ2 H2 fun b H3 =>
      if b = true then te σ2 H3 fun y H4 => ∃ acc, H4 D = some (.lst acc) ∧ acc.length < sizeLine ∧ Nx (upd H4 D (.lst (acc ++ [y]))) else Nx H3))
    (fin : ∀ (s' : Shared) (H' : Hp) (m : Str → Option Value), Inv X pins σ H' s' → Qd H' → s'.heap.Ns ce.locals m → H' ce.locals = none → R (.ok .next) s') :
    codeAny (model X.prog X.w) X.A (.compLoop (.ListComp elt [⟨tg, iter, ifs, 0⟩] scope pos) 0 (.ref it) (.ref D) ce) R sb := by
  have home : ∀ {τ : L2.St} {H' : Hp} {s' : Shared} {pB : List (Addr × Obj)}, Inv (X.blk sa Ha scope ce fp) pB τ H' s' → Inv X pins σ H' s' := fun {_ _ _ _} Iz =>
    Ia.call' (ch := fp) Iz.os Iz.base Iz.hok Iz.bare fun b hb => by
      obtain ⟨_, k2, _, k4, k5, k6⟩ := fa b hb
      exact ⟨k4, k2, k5, k6⟩
  have places : ∀ {τ : L2.St} {H' : Hp} {s' : Shared}, Inv (X.blk sa Ha scope ce fp) [] τ H' s' → (∀ b ∈ fp, H' b = none) → ∀ b ∈ fp, FpOk (X.blk sa Ha scope ce fp) [] H' b := fun {_ _ _} Iz hn b hb => by
    obtain ⟨k1, k2⟩ := Iz.ok.exf b hb
    exact ⟨hn b hb, k1, Iz.ok.exfs b hb, .inl hb, k2, fun p hp => nomatch (show p ∈ ([] : List (Addr × Obj)) from hp)⟩
  refine compLoop_any (fun n s' => ∃ i H', Inv (X.blk sa Ha scope ce fp) [] (wipe σ vs) H' s' ∧ tn i s'.heap ∧ (∀ b ∈ fp, H' b = none) ∧ W i n H') ?_ m0 ⟨0, Ha, Ib, st, fun b hb => (fa b hb).1, w0⟩
  rintro n s5 ⟨i, H5, I5, t5, z5, w5⟩
  rcases turn i n H5 w5 with ⟨halt, qd⟩ | ⟨go, Nx, less, step⟩
  · refine thnF (T.done (X.blk sa Ha scope ce fp) rfl rfl rfl hc i [] s5 _ H5 (fun _ _ => False) I5 (places I5 z5) t5 halt) fun r s6 hq => ?_
    obtain ⟨rfl, I6⟩ := hq
    obtain ⟨m, hm, _⟩ := I6.loc
    exact fin s6 H5 m (home I6) qd hm I6.free
  · refine thnF (T.item (X.blk sa Ha scope ce fp) rfl rfl rfl hc i [] s5 _ H5 (fun _ _ => False) I5 (places I5 z5) t5 go) fun r s6 hq => ?_
    obtain ⟨u, rfl, h6⟩ := hq
    refine thnF h6 fun _ s7 hq => ?_
    obtain ⟨x, H7, I7, r7, y7, t7, z7⟩ := hq
    have I7p := I7.pinned (places I7 z7) (T.obj _ _ t7)
    refine thnF (pg.run _ s7 _ H7 x u _ I7p r7 (step x H7 y7)) fun _ s8 hq => ?_
    obtain ⟨τ, H8, I8, same, q8⟩ := hq
    refine thnF (pt.run _ s8 τ H8 _ I8 q8) fun b s9 hq => ?_
    obtain ⟨H9, I9, q9⟩ := hq
    have next : ∀ {s' : Shared} {H' : Hp}, Inv (X.blk sa Ha scope ce fp) ([] ++ pinsAt fp s7.heap) τ H' s' → Nx H' → ∃ m, m < n ∧ ∃ i H', Inv (X.blk sa Ha scope ce fp) [] (wipe σ vs) H' s' ∧ tn i s'.heap ∧ (∀ b ∈ fp, H' b = none) ∧ W i m H' := by
      intro s' H' Iz nz
      obtain ⟨m', lt, w'⟩ := less H' nz
      have held : ∀ b ∈ fp, ∀ o, s7.heap.get? b = some o → s'.heap.get? b = some o ∧ H' b = none := fun b hb o e => by
        have k := Iz.pin (b, o) (List.mem_append_right _ (List.mem_append_right _ (mem_pinsAt hb e)))
        exact ⟨k.1, k.2.1⟩
      have len : (wipe σ vs).length = τ.length := by rw [← same, wipe_length]
      refine ⟨m', lt, i + 1, H', (Iz.unpinned (pins := [])).weak len ?_, T.keep _ _ _ t7 fun b hb o e => (held b hb o e).1, ?_, w'⟩
      · intro j v e
        rw [← same] at e
        exact (wipe_some e).1
      · intro b hb
        obtain ⟨o, e, _⟩ := T.obj _ _ t7 b hb
        exact (held b hb o e).2
    cases b with
    | false =>
      simp only [Bool.false_eq_true, if_false] at q9 ⊢
      exact next I9 q9
    | true =>
      simp only [if_true] at q9 ⊢
      refine wpAny_mono (pe _ s9 τ H9 _ same I9 q9) (fun z s10 hq => ?_) fun _ _ h => h
      obtain ⟨yv, H10, I10, r10, acc, hD, lD, nz⟩ := hq
      exact app_ok (X := X.blk sa Ha scope ce fp) I10 hD lD r10 fun s11 I11 => next I11 nz
/-- the whole of it: te may name the slots at the start; the items are told how to come back to the def's own state -/
theorem lc_own {s : Shared} {H : Hp} {Q : VK} {elt tg iter : Expr} {ifs : List Expr} {scope : Scope} {own : List (Str × Nat)} {pos pos' : Pos} {wi : TI} {g : TG} {tt : TT} {te : TE} {use : Option (Value → Sem Unit)} {Qf : Value → Shared → Prop}
    (hc : X.calm = true) (hN : X.N.Nodup) (I : Inv X pins σ H s) (hi : PI X tg iter wi) (ok : BlkOk X.N X.env.scope scope own)
    (hg : ∀ (s : Shared) (H : Hp) (C : Addr) (c : List (Str × Addr)) (fp : List Addr), PG (X.blk s H scope (compEnvC scope c C X.env) fp) tg g)
    (ht : ∀ (s : Shared) (H : Hp) (C : Addr) (c : List (Str × Addr)) (fp : List Addr), PTs (X.blk s H scope (compEnvC scope c C X.env) fp) ifs tt)
    (he : ∀ (sa : Shared) (Ha : Hp) (C : Addr) (c : List (Str × Addr)) (fp : List Addr), (∀ (pB : List (Addr × Obj)) (τ : L2.St) (H' : Hp) (s' : Shared), Inv (X.blk sa Ha scope (compEnvC scope c C X.env) fp) pB τ H' s' → Inv X pins σ H' s') →
      ∀ (pB : List (Addr × Obj)) (s' : Shared) (τ : L2.St) (H' : Hp) (Q : VK), wipe τ (own.map (·.2)) = wipe σ (own.map (·.2)) → Inv (X.blk sa Ha scope (compEnvC scope c C X.env) fp) pB τ H' s' → te τ H' Q → wpAny (model X.prog X.w) X.A (eval elt (compEnvC scope c C X.env)) (EP (X.blk sa Ha scope (compEnvC scope c C X.env) fp) pB τ Q) (fun _ _ => False) s')
    (hs : ∀ x, foldedSetIterable iter X.env x = pure x) (h : tLc wi g tt te (own.map (·.2)) σ H Q)
    (fin : ∀ D C s' m H', Inv X pins σ H' s' → Q (.ref D) H' → s'.heap.Ns C m → FpOk X pins H' C → compPost (model X.prog X.w) X.A X.xe use Qf (.ref D) C (.ok .next) s') :
    wpAny (model X.prog X.w) X.A (comprehension (.ListComp elt [⟨tg, iter, ifs, 0⟩] scope pos) scope X.env pos' (newList []) false (eval iter X.env) use) Qf X.xe s := by
  have cells : ∀ y ∈ scope.names, y.2 = .free → ∃ c, X.env.cells.lookup y.1 = some c := fun y hy e => I.ok.has _ ((ok.free y hy e).imp id id)
  refine wpAny_comprehension_free (use := use) rfl hs (closure_ok cells) ok.kind (fun y hy e => by rw [ok.uniq y hy, e]) (thn (hi.run pins s σ H _ I h) fun v s1 h1 => thn h1 fun itv s2 h2 => ?_)
  obtain ⟨it, fp, tn, J, H2, rfl, I2, T, t2, f2, q⟩ := h2
  refine wpAny_newObj_type (newEnv_comp ?_) (by show 0 ≤ sizeLine; decide)
  have nD : H2 s2.heap.objs.size = none := I2.hok.fresh (Nat.le_refl _)
  obtain ⟨W, ⟨m0, w0⟩, turn⟩ := q _ nD
  have Ia : Inv X pins σ (upd H2 s2.heap.objs.size (.lst [])) { s2 with heap := s2.heap.push { cls := .type "list", data := .seq ([] : List Value).toArray } } :=
    I2.laid (t' := s2.toks) (fun b o e => Heap.get?_push_of_some _ e) (Nat.le_refl _) ⟨Nat.zero_le _, [], 0, .nil, Heap.get?_push_size _ rfl⟩
  have fa : ∀ b ∈ fp, FpOk X pins (upd H2 s2.heap.objs.size (.lst [])) b ∧ b < (s2.heap.push { cls := .type "list", data := .seq ([] : List Value).toArray }).objs.size := fun b hb => by
    obtain ⟨o, e, _⟩ := T.obj _ _ t2 b hb
    have lt := Heap.lt_size e
    refine ⟨⟨?_, (f2 b hb).2⟩, by rw [Heap.size_push]; exact Nat.lt_succ_of_lt lt⟩
    rw [upd_ne (Nat.ne_of_lt lt)]
    exact (f2 b hb).1
  have Ib := block_start Ia ok hN fa
  have t4 : tn 0 (pushCells ((s2.heap.push { cls := .type "list", data := .seq ([] : List Value).toArray }).push { cls := .type "dict", data := .dict #[] }) scope.names) := T.keep _ _ _ t2 fun b _ o e => pushCells_keeps _ _ _ _ (Heap.get?_push_of_some _ (Heap.get?_push_of_some _ e))
  have home : ∀ {ce : Env} (pB : List (Addr × Obj)) (τ : L2.St) (H' : Hp) (s' : Shared), Inv (X.blk { s2 with heap := s2.heap.push { cls := .type "list", data := .seq ([] : List Value).toArray } } (upd H2 s2.heap.objs.size (.lst [])) scope ce fp) pB τ H' s' → Inv X pins σ H' s' := fun {ce} pB τ H' s' Iz =>
    Ia.call' (ch := fp) Iz.os Iz.base Iz.hok Iz.bare fun b hb => by
      obtain ⟨_, k2, _, k4, k5, k6⟩ := (fa b hb).1
      exact ⟨k4, k2, k5, k6⟩
  have loop := lc_turns (elt := elt) (iter := iter) (pos := pos) (D := s2.heap.objs.size) (R := compPost (model X.prog X.w) X.A X.xe use Qf (.ref s2.heap.objs.size) (s2.heap.push { cls := .type "list", data := .seq ([] : List Value).toArray }).objs.size) hc Ia (fun b hb => (fa b hb).1) Ib T t4 w0 (hg _ _ _ _ _) (ht _ _ _ _ _)
    (fun pB s' τ H' Q same Iz ht => wpAny_mono (he _ _ _ _ _ home pB s' τ H' Q same Iz ht) (fun _ _ h => h) fun _ _ z => z.elim) turn
    (fun s' H' m Iz qd ns nz => fin _ _ s' m H' Iz qd ns (Ia.fpOk (Nat.le_refl _) nz))
  exact codeAny_compStart_list loop (T.self X.A 0 _ _ _ t4 loop)
end
/-- _law_why(e) as the item of a comprehension: the lambda runs in the def's own state, the block's names forgotten -/
def eWhyB (tab : List (Nat × Str)) (bodies : List GE) (vs : List Nat) (ga : GE) : GE := fun ρ ω => (ga ρ ω).bind fun d ω => match d with
  | .lam k => match bodies[k]? with
    | some gb => eWhy tab gb (wipeD ρ vs) ω
    | none => .bad
  | _ => .bad
theorem j_lcWhy {cl : Cl} {X : Cx} {W : WX} {CS CM : Addr} {tab : List (Nat × Str)} {bodies : List GE} {ga : GE} {x a : Str} {g0 : Addr} {k : Nat} {pg : Arguments} {bg : List Stmt} {sg : Scope} {dV kV doc pm cdv ct oc : Value} {an od : Option Addr} {osl : Array (Option Value)} {Ng : List Str}
    {bs : Nat → Value → List (Str × Value)} {pr : Nat → Arguments} {bo : Nat → Expr} {sc : Nat → Scope} {e tg iter : Expr} {scope : Scope} {own : List (Str × Nat)} {p pos pos1 : Pos} {g : TG} {gi : GA} {t : GG} (EF : ErrF X.K cl CS CM tab)
    (hlm : ∀ i, i < bodies.length → cl.lm i = LamP (cl.ld i) (X.env.qual ++ "<lambda>") (pr i) (bo i) (sc i) (cloFrom X.env.cells (sc i).names [])) (hlq : cl.lq = X.env.qual ++ "<lambda>")
    (hc : X.calm = true) (hN : X.N.Nodup) (hi : JI cl X W tg iter gi) (ok : BlkOk X.N X.env.scope scope own)
    (hgt : ∀ (s : Shared) (H : Hp) (C : Addr) (c : List (Str × Addr)) (fp : List Addr), PG (X.blk s H scope (compEnvC scope c C X.env) fp) tg g) (hw : FrGw X.K cl (own.map (·.2)) g t)
    (he : ∀ (s : Shared) (H : Hp) (C : Addr) (c : List (Str × Addr)) (fp : List Addr), JE cl (X.blk s H scope (compEnvC scope c C X.env) fp) WF e ga)
    (hgl : ∀ (s : Shared) (H : Hp) (C : Addr) (c : List (Str × Addr)) (fp : List Addr), Gl (X.blk s H scope (compEnvC scope c C X.env) fp) x)
    (hm : X.mg x = some (.ref g0)) (hk : PySem.W.keepIn X.K (.ref g0) = true)
    (lk : X.K.lookup g0 = some ⟨oc, od, .func (PySem.W.fnOf x x pg bg sg dV kV doc pm an cdv ct), osl⟩) (hcg : PySem.W.codeIn X.K cdv x = true) (hb : L2.Binds X.K (PySem.W.fnOf x x pg bg sg dV kV doc pm an cdv ct) [a] []) (Sg : FnScope Ng [a] sg) (hNg : Ng[0]? = some a) (hva : Vis sg a)
    (hG : LamX.GivesTo X Ng x sg g0 cdv bg a (X.env.qual ++ "<lambda>") (TTwhy X.K CS CM)) (hr : Room (k + 2) X.A) (L : ∀ i, i < bodies.length → LamN X.N X.env.scope (sc i)) (B : ∀ i, i < bodies.length → LamB (pr i) (bo i) (sc i) (cl.ld i) (bs i))
    (hbody : ∀ i gb, bodies[i]? = some gb → ∀ (A : Around) (outer : List Env) (s : Shared) (H : Hp) (E : XK) (f c' : Addr), Room k (A.deeper (LamX.lamEnv X (sc i) s.heap.objs.size f c')) → JE cl (LamX.lamCx X A outer s H E (sc i) f c') (fun c d _ H => E c d H) (bo i) gb)
    (hst : ∀ (s : Shared) (H : Hp) (C : Addr) (c : List (Str × Addr)) (fp : List Addr), starEach [e] (compEnvC scope c C X.env) = (false, eval e (compEnvC scope c C X.env)) :: starEach [] (compEnvC scope c C X.env) := by intro _ _ _ _ _; rfl)
    (hs : ∀ x, foldedSetIterable iter X.env x = pure x := by intro _; rfl) (hdb : (x == ("__debug__" : Str)) = false := by decide) (hd : (a == ("__debug__" : Str)) = false := by decide) (hcd : (a == ("__classdict__" : Str)) = false := by decide) :
    JE cl X W (.ListComp (.Call (.Name x p) [e] [] pos1) [⟨tg, iter, [], 0⟩] scope pos) (eLc gi t gYes (eWhyB tab bodies (own.map (·.2)) ga) (own.map (·.2))) := by
  obtain ⟨wi, pi, qi⟩ := hi
  refine ⟨tLc wi g (tGT X.K cl WF gYes) (tG X.K cl WF (eWhyB tab bodies (own.map (·.2)) ga)) (own.map (·.2)), ⟨fun pins s σ H Q I h => ?_⟩, fr_lc qi hw⟩
  rw [eval_ListComp]
  refine lc_own (tt := tGT X.K cl WF gYes) hc hN I pi ok hgt (fun s H C c fp => (jts_nil : JTs cl (X.blk s H scope (compEnvC scope c C X.env) fp) WF [] gYes)) (fun sa Ha C c fp home pB s' τ H' Q same Iz ht => ?_) hs h fun D C s' m H' I' q hn f => ⟨m, hn, fun h2 sb => ?_⟩
  · obtain ⟨R, ρ, ω, re, rs, o⟩ := ht
    obtain ⟨t0, p0, q0⟩ := he sa Ha C c fp
    refine wpAny_Call_Name_kw (ld_glob Iz (hgl sa Ha C c fp) hm ?_ hdb)
    refine PySem.W.callWith_K (h₀ := X.base) Iz.ok.mod.kin hk ?_ (hst sa Ha C c fp) (by rfl)
    rw [hst sa Ha C c fp]
    have arg : t0 τ H' (fun v H1 => ∃ f c' td i gb R1 ρ1 ω1, v = .ref f ∧ bodies[i]? = some gb ∧ H1 c' = some (LamX.CodeO c' (X.env.qual ++ "<lambda>")) ∧ LamH (X.env.qual ++ "<lambda>") (cl.ld i) (pr i) (bo i) (sc i) (cloFrom X.env.cells (sc i).names []) f c' td H1 ∧
        RepEnv X.K cl R1 H1 τ ρ1 ∧ RepSt X.K cl R1 H1 ω1 ∧ Out X.K cl WF rV R1 τ H1 (eWhy tab gb (wipeD ρ1 (own.map (·.2))) ω1) Q) := by
      refine q0.seq re rs o fun R1 v H1 d ω1 s1 r1 st1 he1 o1 => ?_
      split at o1
      case h_2 => exact o1.elim
      rename_i k
      split at o1
      case h_2 => exact o1.elim
      rename_i gb hgb
      have hik := (List.getElem?_eq_some_iff.mp hgb).1
      have r1 : Rep X.K cl R1 H1 v (.lam k) := r1
      cases r1 with
      | lam hf hc hdt hz =>
        rename_i f c' td
        rw [hlm k hik] at hf
        rw [hlq] at hc
        exact ⟨f, c', td, k, gb, R1, ρ, ω1, rfl, hgb, hc, ⟨hf, hdt⟩, he1, st1, o1⟩
    refine Calls.spliced_cons (thnF (p0.run pB s' τ H' _ Iz arg) fun u s1 hq => ?_)
    obtain ⟨v, H1, I1, rv, f, c', td, i, gb, R1, ρ1, ω1, rfl, hgb, hco, hlh, re1, rs1, o1⟩ := hq
    obtain rfl : u = Value.ref f := rv
    have hik := (List.getElem?_eq_some_iff.mp hgb).1
    refine Calls.spliced_nil ⟨I1.kIn, ?_⟩
    have IX : Inv X pins (wipe τ (own.map (·.2))) H1 s1 := by
      have z := home pB τ H1 s1 I1
      rw [same]
      exact z.weak (by rw [wipe_length]) fun j v e => (wipe_some e).1
    have key := why_core (W := WF) (P := fun H' => LamH (X.env.qual ++ "<lambda>") (cl.ld i) (pr i) (bo i) (sc i) (cloFrom X.env.cells (sc i).names []) f c' td H') (σ := wipe τ (own.map (·.2))) (Q := Q) EF (wipe_rep re1 (own.map (·.2))) rs1 hlh (by
      cases e : eWhy tab gb (wipeD ρ1 (own.map (·.2))) ω1 with
      | ok d w => rw [e] at o1; exact o1
      | exc x w => rw [e] at o1; exact o1
      | bad => rw [e] at o1; exact o1)
    refine wpAny_call (codeAny_mono (why_rc (t := fun E => tG X.K cl (fun c d _ H => E c d H) gb) IX lk hcg hb Sg hNg hva hG hr (L i hik) (B i hik) (fun A outer s H E f c' hr => (hbody i gb hgb A outer s H E f c' hr).pe) hd hcd hco key) fun r s2 hq => ?_)
    cases r with
    | error e => exact (show False from hq).elim
    | ok fl =>
      cases fl with
      | ret u => exact I1.after hq
      | next => exact False.elim hq
      | brk => exact False.elim hq
      | cont => exact False.elim hq
  · obtain ⟨f0, f1, f2, f3, f4, f5⟩ := f
    exact ⟨.ref D, H', I'.turned (t' := s'.toks) (fun b o hb e => (sb.2 b hb).trans e) f0 f1 f3 f4 f5, rfl, q⟩
end Mine
namespace Mine
open PySem PySem.Spec PyProof.Rows L2
/-! ### i == o: an int at the left of an own == -/
def rEqR (C : Addr) (sp : Sp) : R2 := fun y x H Q => ∃ a dx fs i, x = .ref a ∧ y = .int i ∧ H a = some (.ins C dx fs) ∧ sp [x, y] H (fun v H' => ∃ b, v = .bl b ∧ Q (.bl b) H') E0
theorem op_eqR {X : Cx} {k : Nat} {f C : Addr} {fd : FuncData} {ps : List Str} {sp : Sp} (F : FnOk X.prog X.w X.K X.mg X.base CX0 k f fd ps sp) (S : Spec X.K C "__eq__" f) (s2 : PySem.W.subIn X.K (.ref C) (.type "int") = some false) (hr : Room k X.A) (hb : Binds X.K fd ps []) : OpR X (compareOp .Eq) (rEqR C sp) := by
  intro pins s σ H y x u v Q I ry rx h
  obtain ⟨a, dx, fs, i, rfl, rfl, ha, q⟩ := h
  obtain rfl : v = Value.ref a := rx
  obtain ⟨t, rfl⟩ := ry
  obtain ⟨mA, J0, _⟩ := ins_get I.hok ha
  obtain ⟨od, J, _⟩ := J0.look
  have KX := I.kIn
  have ti : s.TypeIs (.int i t) "int" := typeIs_int s i t
  have dec : wpAny (model X.prog X.w) X.A (call (.builtin "int.__eq__") [.int i t, .ref a]) (fun v s' => v = .notImplemented ∧ s' = s) X.xe s := by
    refine wpAny_call (codeAny_call_builtin PySem.F.slot_int_eq.plain PySem.F.entry_int_eq (PySem.F.slot_int_eq.check _ _ _ _ _ _ _ _ ti (PySem.F.args_int_eq_2 _ _) ?_))
    exact int_declines (nm := "__eq__") J0.obj rfl ⟨rfl, rfl⟩
  have own : wpAny (model X.prog X.w) X.A (tryCompare (.ref a) "__eq__" (.int i t)) (fun r s' => ∃ b, r = some (.bool b) ∧ EP X pins σ Q (.bool b) s') X.xe s := by
    unfold tryCompare
    refine wpAny_bind (PySem.W.ifBound_K KX J S.at_ S.fn ?_)
    refine wpAny_mono (run_at (vs := [.ref a, .int i]) (us := [.ref a, .int i t]) F hr rfl hb I (.cons rfl (.cons ⟨t, rfl⟩ .nil)) q) (fun r s' z => ?_) fun _ _ z => z
    obtain ⟨z, H', I', rz, b, rfl, q'⟩ := z
    obtain rfl : r = Value.bool b := rz
    exact wpAny_pure ⟨b, rfl, .bl b, H', I', rfl, q'⟩
  have hne : (Value.type "int" != Value.ref C) = true := by
    cases h : (Value.type "int" == Value.ref C) with
    | true => cases beq_iff_eq.mp h
    | false => simp [bne, h]
  show wpAny (model X.prog X.w) X.A (richCompare .Eq (.int i t) (.ref a)) (EP X pins σ Q) X.xe s
  unfold richCompare
  simp only [ti.oneThing_none]
  refine wpAny_holding (wpAny_bind (wpAny_cRoomFor hr.units0 ?_))
  refine wpAny_bind (wpAny_typeOf ti (wpAny_bind (J.type.here ?_)))
  rw [if_pos hne]
  refine wpAny_bind ((PySem.W.looks_subIn KX s2).here ?_)
  simp only [Bool.false_eq_true, if_false, Bool.not_false, if_true]
  refine wpAny_bind (wpAny_tryCompare_declines ti PySem.F.slot_int_eq (wpAny_mono dec (fun v s' z => ⟨z.1, ?_⟩) fun _ _ z => z))
  rw [z.2]
  refine wpAny_bind (wpAny_mono own (fun r s' z => ?_) fun _ _ z => z)
  obtain ⟨b, rfl, e⟩ := z
  exact wpAny_pure e
def fEqR (c : Nat) (g : PFn) : F2 := fun e d ω => match asO ω d, e with
  | some (c', _, _), .int _ => if c' = c then (noX (callP 2 g [d, e] ω)).bind fun z ω => match z with
    | .bl b => .ok (.bl b) ω
    | _ => .bad else .bad
  | _, _ => .bad
theorem ro_eqR {K : PySem.W.Frag} {cl : Cl} {W : WX} {c : Nat} {g : PFn} : RO cl K W (rEqR (cl c) (spG0 K cl 2 g)) (fEqR c g) := fun R σ H ω y x e d Q ry rx st o => by
  unfold fEqR at o
  split at o
  case h_2 => exact o.elim
  rename_i c' ns l i ho
  split at o
  case isFalse => exact o.elim
  rename_i hcc
  subst hcc
  obtain ⟨a, dx, fs, rfl, h1, h2, h3⟩ := asO_at rx st ho
  have ry' := ry
  cases ry
  refine ⟨a, dx, fs, i, rfl, rfl, h1, spG0_of (W := W) (σ := σ) (RepAll.cons rx (.cons ry' .nil)) st (Out.inner (rel := rV) o fun R' v H' z ω' s rv st' o' => ?_)⟩
  split at o'
  · cases rv
    exact ⟨_, rfl, o'.val (.bl _) st'⟩
  · exact o'.elim
end Mine
namespace Mine
open PySem PySem.Spec PyProof.Rows L2
/-! ### isinstance of plain values, told at once -/
section
variable {sub : Nat → Nat → Bool} {nc : Nat} {ω : Store} {b : Bool} {i : Int} {s : Str} {l : List Dv} {c : Nat} {ns : List Str}
@[simp] theorem y_nb : bIsi sub nc [.non, .ty "bool"] ω = .ok (.bl false) ω := id rfl
@[simp] theorem y_ni : bIsi sub nc [.non, .ty "int"] ω = .ok (.bl false) ω := id rfl
@[simp] theorem y_ns : bIsi sub nc [.non, .ty "str"] ω = .ok (.bl false) ω := id rfl
@[simp] theorem y_nl : bIsi sub nc [.non, .ty "list"] ω = .ok (.bl false) ω := id rfl
@[simp] theorem y_nt : bIsi sub nc [.non, .ty "tuple"] ω = .ok (.bl false) ω := id rfl
@[simp] theorem y_bb : bIsi sub nc [.bl b, .ty "bool"] ω = .ok (.bl true) ω := id rfl
@[simp] theorem y_bi : bIsi sub nc [.bl b, .ty "int"] ω = .ok (.bl true) ω := id rfl
@[simp] theorem y_bs : bIsi sub nc [.bl b, .ty "str"] ω = .ok (.bl false) ω := id rfl
@[simp] theorem y_bl : bIsi sub nc [.bl b, .ty "list"] ω = .ok (.bl false) ω := id rfl
@[simp] theorem y_bt : bIsi sub nc [.bl b, .ty "tuple"] ω = .ok (.bl false) ω := id rfl
@[simp] theorem y_ib : bIsi sub nc [.int i, .ty "bool"] ω = .ok (.bl false) ω := id rfl
@[simp] theorem y_ii : bIsi sub nc [.int i, .ty "int"] ω = .ok (.bl true) ω := id rfl
@[simp] theorem y_is : bIsi sub nc [.int i, .ty "str"] ω = .ok (.bl false) ω := id rfl
@[simp] theorem y_il : bIsi sub nc [.int i, .ty "list"] ω = .ok (.bl false) ω := id rfl
@[simp] theorem y_it : bIsi sub nc [.int i, .ty "tuple"] ω = .ok (.bl false) ω := id rfl
@[simp] theorem y_sb : bIsi sub nc [.str s, .ty "bool"] ω = .ok (.bl false) ω := id rfl
@[simp] theorem y_si : bIsi sub nc [.str s, .ty "int"] ω = .ok (.bl false) ω := id rfl
@[simp] theorem y_ss : bIsi sub nc [.str s, .ty "str"] ω = .ok (.bl true) ω := id rfl
@[simp] theorem y_sl : bIsi sub nc [.str s, .ty "list"] ω = .ok (.bl false) ω := id rfl
@[simp] theorem y_st : bIsi sub nc [.str s, .ty "tuple"] ω = .ok (.bl false) ω := id rfl
@[simp] theorem y_lb : bIsi sub nc [.lst l, .ty "bool"] ω = .ok (.bl false) ω := id rfl
@[simp] theorem y_li : bIsi sub nc [.lst l, .ty "int"] ω = .ok (.bl false) ω := id rfl
@[simp] theorem y_ls : bIsi sub nc [.lst l, .ty "str"] ω = .ok (.bl false) ω := id rfl
@[simp] theorem y_ll : bIsi sub nc [.lst l, .ty "list"] ω = .ok (.bl true) ω := id rfl
@[simp] theorem y_lt : bIsi sub nc [.lst l, .ty "tuple"] ω = .ok (.bl false) ω := id rfl
@[simp] theorem y_tb : bIsi sub nc [.tup l, .ty "bool"] ω = .ok (.bl false) ω := id rfl
@[simp] theorem y_ti : bIsi sub nc [.tup l, .ty "int"] ω = .ok (.bl false) ω := id rfl
@[simp] theorem y_ts : bIsi sub nc [.tup l, .ty "str"] ω = .ok (.bl false) ω := id rfl
@[simp] theorem y_tl : bIsi sub nc [.tup l, .ty "list"] ω = .ok (.bl false) ω := id rfl
@[simp] theorem y_tt : bIsi sub nc [.tup l, .ty "tuple"] ω = .ok (.bl true) ω := id rfl
@[simp] theorem y_i2 : bIsi sub nc [.int i, .tup [.ty "list", .ty "tuple"]] ω = .ok (.bl false) ω := id rfl
@[simp] theorem y_s2 : bIsi sub nc [.str s, .tup [.ty "list", .ty "tuple"]] ω = .ok (.bl false) ω := id rfl
@[simp] theorem y_l2 : bIsi sub nc [.lst l, .tup [.ty "list", .ty "tuple"]] ω = .ok (.bl true) ω := id rfl
@[simp] theorem y_t2 : bIsi sub nc [.tup l, .tup [.ty "list", .ty "tuple"]] ω = .ok (.bl true) ω := id rfl
@[simp] theorem z_n : fP (isN false) .non .non ω = .ok (.bl true) ω := id rfl
@[simp] theorem z_b : fP (isN false) (.bl b) .non ω = .ok (.bl false) ω := id rfl
@[simp] theorem z_i : fP (isN false) (.int i) .non ω = .ok (.bl false) ω := id rfl
@[simp] theorem z_s : fP (isN false) (.str s) .non ω = .ok (.bl false) ω := id rfl
@[simp] theorem z_l : fP (isN false) (.lst l) .non ω = .ok (.bl false) ω := id rfl
@[simp] theorem z_t : fP (isN false) (.tup l) .non ω = .ok (.bl false) ω := id rfl
@[simp] theorem z_o : fP (isN false) (.obj c ns l) .non ω = .ok (.bl false) ω := id rfl
@[simp] theorem v_n : fP (isN true) .non .non ω = .ok (.bl false) ω := id rfl
@[simp] theorem v_b : fP (isN true) (.bl b) .non ω = .ok (.bl true) ω := id rfl
@[simp] theorem v_i : fP (isN true) (.int i) .non ω = .ok (.bl true) ω := id rfl
@[simp] theorem v_s : fP (isN true) (.str s) .non ω = .ok (.bl true) ω := id rfl
@[simp] theorem v_l : fP (isN true) (.lst l) .non ω = .ok (.bl true) ω := id rfl
@[simp] theorem v_t : fP (isN true) (.tup l) .non ω = .ok (.bl true) ω := id rfl
@[simp] theorem v_o : fP (isN true) (.obj c ns l) .non ω = .ok (.bl true) ω := id rfl
@[simp] theorem y_io (h : c < nc) : bIsi sub nc [.obj c ns l, .ty "int"] ω = .ok (.bl false) ω := by
  show (match kitD sub nc (.o c) (.ty "int") with | some b => (Res.ok (.bl b) ω : Res Dv) | none => .bad) = _
  have : kitD sub nc (.o c) (.ty "int") = some false := if_pos ⟨by decide, h⟩
  rw [this]
@[simp] theorem y_bo (h : c < nc) : bIsi sub nc [.obj c ns l, .ty "bool"] ω = .ok (.bl false) ω := by
  show (match kitD sub nc (.o c) (.ty "bool") with | some b => (Res.ok (.bl b) ω : Res Dv) | none => .bad) = _
  have : kitD sub nc (.o c) (.ty "bool") = some false := if_pos ⟨by decide, h⟩
  rw [this]
end
@[simp] theorem sl_0 : (0 : Nat) ≤ sizeLine := by decide
@[simp] theorem sl_1 : (1 : Nat) ≤ sizeLine := by decide
@[simp] theorem sl_2 : (2 : Nat) ≤ sizeLine := by decide
@[simp] theorem sl_3 : (3 : Nat) ≤ sizeLine := by decide
@[simp] theorem sl_4 : (4 : Nat) ≤ sizeLine := by decide
@[simp] theorem sl_5 : (5 : Nat) ≤ sizeLine := by decide
@[simp] theorem sl_6 : (6 : Nat) ≤ sizeLine := by decide
@[simp] theorem sl_7 : (7 : Nat) ≤ sizeLine := by decide
@[simp] theorem sl_8 : (8 : Nat) ≤ sizeLine := by decide
@[simp] theorem sl_9 : (9 : Nat) ≤ sizeLine := by decide
@[simp] theorem sl_10 : (10 : Nat) ≤ sizeLine := by decide
@[simp] theorem sl_11 : (11 : Nat) ≤ sizeLine := by decide
@[simp] theorem sl_12 : (12 : Nat) ≤ sizeLine := by decide
@[simp] theorem sl_13 : (13 : Nat) ≤ sizeLine := by decide
@[simp] theorem sl_14 : (14 : Nat) ≤ sizeLine := by decide
@[simp] theorem sl_15 : (15 : Nat) ≤ sizeLine := by decide
@[simp] theorem sl_16 : (16 : Nat) ≤ sizeLine := by decide
@[simp] theorem sl_17 : (17 : Nat) ≤ sizeLine := by decide
@[simp] theorem sl_18 : (18 : Nat) ≤ sizeLine := by decide
@[simp] theorem sl_19 : (19 : Nat) ≤ sizeLine := by decide
@[simp] theorem sl_20 : (20 : Nat) ≤ sizeLine := by decide
@[simp] theorem sl_21 : (21 : Nat) ≤ sizeLine := by decide
@[simp] theorem sl_22 : (22 : Nat) ≤ sizeLine := by decide
@[simp] theorem sl_23 : (23 : Nat) ≤ sizeLine := by decide
@[simp] theorem sl_24 : (24 : Nat) ≤ sizeLine := by decide
@[simp] theorem sl_25 : (25 : Nat) ≤ sizeLine := by decide
@[simp] theorem sl_26 : (26 : Nat) ≤ sizeLine := by decide
@[simp] theorem sl_27 : (27 : Nat) ≤ sizeLine := by decide
@[simp] theorem sl_28 : (28 : Nat) ≤ sizeLine := by decide
@[simp] theorem sl_29 : (29 : Nat) ≤ sizeLine := by decide
@[simp] theorem sl_30 : (30 : Nat) ≤ sizeLine := by decide
@[simp] theorem sl_31 : (31 : Nat) ≤ sizeLine := by decide
@[simp] theorem sl_32 : (32 : Nat) ≤ sizeLine := by decide
@[simp] theorem sl_33 : (33 : Nat) ≤ sizeLine := by decide
@[simp] theorem sl_34 : (34 : Nat) ≤ sizeLine := by decide
@[simp] theorem sl_35 : (35 : Nat) ≤ sizeLine := by decide
@[simp] theorem sl_36 : (36 : Nat) ≤ sizeLine := by decide
@[simp] theorem sl_37 : (37 : Nat) ≤ sizeLine := by decide
@[simp] theorem sl_38 : (38 : Nat) ≤ sizeLine := by decide
@[simp] theorem sl_39 : (39 : Nat) ≤ sizeLine := by decide
@[simp] theorem sl_40 : (40 : Nat) ≤ sizeLine := by decide
/-! ### plain data up to a depth -/
def Pl : Nat → Dv → Bool
  | _, .non => true
  | _, .bl _ => true
  | _, .int _ => true
  | _, .str _ => true
  | n + 1, .lst l => decide (l.length ≤ sizeLine) && l.all (Pl n)
  | n + 1, .tup l => decide (l.length ≤ sizeLine) && l.all (Pl n)
  | _, _ => false
theorem cleans_all : ∀ (l : List Dv), (∀ d ∈ l, clean d = true) → cleans l = true
  | [], _ => rfl
  | d :: l, h => by
    rw [x_cl]
    exact Bool.and_eq_true_iff.mpr ⟨h d List.mem_cons_self, cleans_all l fun e he => h e (List.mem_cons_of_mem _ he)⟩
theorem pl_clean : ∀ (n : Nat) (d : Dv), Pl n d = true → clean d = true := by
  intro n
  induction n with
  | zero => intro d h; cases d <;> first | rfl | (simp [Pl] at h)
  | succ n ih =>
    intro d h
    cases d with
    | lst l =>
      simp only [Pl, Bool.and_eq_true, List.all_eq_true] at h
      rw [x_clst]
      exact cleans_all l fun e he => ih e (h.2 e he)
    | tup l =>
      simp only [Pl, Bool.and_eq_true, List.all_eq_true] at h
      rw [x_ctup]
      exact cleans_all l fun e he => ih e (h.2 e he)
    | non => rfl
    | bl _ => rfl
    | int _ => rfl
    | str _ => rfl
    | _ => simp [Pl] at h
theorem zip_self (l : List Dv) : zipD l l = l.map fun d => .tup [d, d] := by
  unfold zipD
  induction l with
  | nil => rfl
  | cons a l ih => simp [List.zip_cons_cons] at ih ⊢; exact ih
/-- pairs, item by item -/
theorem lc_pairs {i j : Nat} {ge : GE} {ρ : DEnv} {ω : Store} {F : Dv → Dv} : ∀ {l : List Dv}, (∀ d ∈ l, ge ((ρ.set i (some d)).set j (some d)) ω = .ok (F d) ω) → lcD (tTuple 2 (tsCons (tName i) (tsCons (tName j) tsNil))) gYes ge ρ (l.map fun d => .tup [d, d]) ω = .ok (l.map F) ω
  | [], _ => rfl
  | d :: l, h => by
    have h1 := h d List.mem_cons_self
    have h2 := lc_pairs (fun d hd => h d (List.mem_cons_of_mem _ hd) : ∀ d ∈ l, _)
    have e : tTuple 2 (tsCons (tName i) (tsCons (tName j) tsNil)) (.tup [d, d]) ρ = some ((ρ.set i (some d)).set j (some d)) := rfl
    simp only [List.map_cons, lcD, e, x_gYes, bind_ok, h1, h2, if_true]
theorem all_true (l : List Dv) {ω : Store} : f1W bAll [.lst (l.map fun _ => .bl true)] ω = .ok (.bl true) ω := by
  have := all_map (ω := ω) (fun _ : Dv => true) l
  rw [this]
  simp
end Mine
namespace Mine
open PySem PySem.Spec PyProof.Rows L2
def top (i : Nat) : Stmt := PySem.Challenge.pw_unseenslopes_k02_ratios_made.main.body.getD i (.Pass ⟨0, 0, 0, 0⟩)
abbrev s__wall : Stmt := top 1
theorem sc__wall : FnScope ["k"] ["k"] (defScope s__wall) := ⟨rfl, rfl, rfl, by decide +kernel, rfl, by decide +kernel, by decide +kernel⟩
abbrev s_InvalidNumber_D_initD_ : Stmt := inClass (top 4) 0
theorem sc_InvalidNumber_D_initD_ : FnScope ["self", "given"] ["self", "given"] (defScope s_InvalidNumber_D_initD_) := ⟨rfl, rfl, rfl, by decide +kernel, rfl, by decide +kernel, by decide +kernel⟩
abbrev s_InvalidText_D_initD_ : Stmt := inClass (top 5) 0
theorem sc_InvalidText_D_initD_ : FnScope ["self", "at"] ["self", "at"] (defScope s_InvalidText_D_initD_) := ⟨rfl, rfl, rfl, by decide +kernel, rfl, by decide +kernel, by decide +kernel⟩
abbrev s_is_whole : Stmt := top 9
theorem sc_is_whole : FnScope ["value"] ["value"] (defScope s_is_whole) := ⟨rfl, rfl, rfl, by decide +kernel, rfl, by decide +kernel, by decide +kernel⟩
abbrev s_is_number : Stmt := top 10
theorem sc_is_number : FnScope ["value"] ["value"] (defScope s_is_number) := ⟨rfl, rfl, rfl, by decide +kernel, rfl, by decide +kernel, by decide +kernel⟩
abbrev s_ratio_of : Stmt := top 11
theorem sc_ratio_of : FnScope ["value"] ["value"] (defScope s_ratio_of) := ⟨rfl, rfl, rfl, by decide +kernel, rfl, by decide +kernel, by decide +kernel⟩
abbrev s_Ratio_D_initD_ : Stmt := inClass (top 12) 0
theorem sc_Ratio_D_initD_ : FnScope ["self", "top", "bottom", "shared"] ["self", "top", "bottom"] (defScope s_Ratio_D_initD_) := ⟨rfl, rfl, rfl, by decide +kernel, rfl, by decide +kernel, by decide +kernel⟩
abbrev s_Ratio_whole : Stmt := inClass (top 12) 1
theorem sc_Ratio_whole : FnScope ["self"] ["self"] (defScope s_Ratio_whole) := ⟨rfl, rfl, rfl, by decide +kernel, rfl, by decide +kernel, by decide +kernel⟩
abbrev s_Ratio_read : Stmt := inClass (top 12) 2
theorem sc_Ratio_read : FnScope ["text", "begin", "words", "bottom", "top", "word"] ["text"] (defScope s_Ratio_read) := ⟨rfl, rfl, rfl, by decide +kernel, rfl, by decide +kernel, by decide +kernel⟩
abbrev s_Ratio_over : Stmt := inClass (top 12) 3
theorem sc_Ratio_over : FnScope ["self", "other"] ["self", "other"] (defScope s_Ratio_over) := ⟨rfl, rfl, rfl, by decide +kernel, rfl, by decide +kernel, by decide +kernel⟩
abbrev s_Ratio_D_addD_ : Stmt := inClass (top 12) 4
theorem sc_Ratio_D_addD_ : FnScope ["self", "other", "more"] ["self", "other"] (defScope s_Ratio_D_addD_) := ⟨rfl, rfl, rfl, by decide +kernel, rfl, by decide +kernel, by decide +kernel⟩
abbrev s_Ratio_D_raddD_ : Stmt := inClass (top 12) 5
theorem sc_Ratio_D_raddD_ : FnScope ["self", "other"] ["self", "other"] (defScope s_Ratio_D_raddD_) := ⟨rfl, rfl, rfl, by decide +kernel, rfl, by decide +kernel, by decide +kernel⟩
abbrev s_Ratio_D_subD_ : Stmt := inClass (top 12) 6
theorem sc_Ratio_D_subD_ : FnScope ["self", "other"] ["self", "other"] (defScope s_Ratio_D_subD_) := ⟨rfl, rfl, rfl, by decide +kernel, rfl, by decide +kernel, by decide +kernel⟩
abbrev s_Ratio_D_rsubD_ : Stmt := inClass (top 12) 7
theorem sc_Ratio_D_rsubD_ : FnScope ["self", "other"] ["self", "other"] (defScope s_Ratio_D_rsubD_) := ⟨rfl, rfl, rfl, by decide +kernel, rfl, by decide +kernel, by decide +kernel⟩
abbrev s_Ratio_D_mulD_ : Stmt := inClass (top 12) 8
theorem sc_Ratio_D_mulD_ : FnScope ["self", "other", "more"] ["self", "other"] (defScope s_Ratio_D_mulD_) := ⟨rfl, rfl, rfl, by decide +kernel, rfl, by decide +kernel, by decide +kernel⟩
abbrev s_Ratio_D_rmulD_ : Stmt := inClass (top 12) 9
theorem sc_Ratio_D_rmulD_ : FnScope ["self", "other"] ["self", "other"] (defScope s_Ratio_D_rmulD_) := ⟨rfl, rfl, rfl, by decide +kernel, rfl, by decide +kernel, by decide +kernel⟩
abbrev s_Ratio_D_negD_ : Stmt := inClass (top 12) 10
theorem sc_Ratio_D_negD_ : FnScope ["self"] ["self"] (defScope s_Ratio_D_negD_) := ⟨rfl, rfl, rfl, by decide +kernel, rfl, by decide +kernel, by decide +kernel⟩
abbrev s_Ratio_D_absD_ : Stmt := inClass (top 12) 11
theorem sc_Ratio_D_absD_ : FnScope ["self"] ["self"] (defScope s_Ratio_D_absD_) := ⟨rfl, rfl, rfl, by decide +kernel, rfl, by decide +kernel, by decide +kernel⟩
abbrev s_Ratio_D_eqD_ : Stmt := inClass (top 12) 12
theorem sc_Ratio_D_eqD_ : FnScope ["self", "other", "more"] ["self", "other"] (defScope s_Ratio_D_eqD_) := ⟨rfl, rfl, rfl, by decide +kernel, rfl, by decide +kernel, by decide +kernel⟩
abbrev s_Ratio_D_strD_ : Stmt := inClass (top 12) 13
theorem sc_Ratio_D_strD_ : FnScope ["self"] ["self"] (defScope s_Ratio_D_strD_) := ⟨rfl, rfl, rfl, by decide +kernel, rfl, by decide +kernel, by decide +kernel⟩
abbrev s_Ratio_D_reprD_ : Stmt := inClass (top 12) 14
theorem sc_Ratio_D_reprD_ : FnScope ["self"] ["self"] (defScope s_Ratio_D_reprD_) := ⟨rfl, rfl, rfl, by decide +kernel, rfl, by decide +kernel, by decide +kernel⟩
abbrev s_is_digits : Stmt := top 13
theorem sc_is_digits : FnScope ["word", "sign"] ["word"] (defScope s_is_digits) := ⟨rfl, rfl, rfl, by decide +kernel, rfl, by decide +kernel, by decide +kernel⟩
abbrev s_digits_of : Stmt := top 14
theorem sc_digits_of : FnScope ["number", "step", "rest", "text"] ["number"] (defScope s_digits_of) := ⟨rfl, rfl, rfl, by decide +kernel, rfl, by decide +kernel, by decide +kernel⟩
abbrev s_L_bag : Stmt := top 16
theorem sc_L_bag : FnScope ["_law_script"] ["_law_script"] (defScope s_L_bag) := ⟨rfl, rfl, rfl, by decide +kernel, rfl, by decide +kernel, by decide +kernel⟩
abbrev s_L_pull : Stmt := top 17
theorem sc_L_pull : FnScope ["_law_bag_here", "_law_many", "_law_cell", "_law_small_here", "_law_digit", "_law_seed", "_law_step"] ["_law_bag_here", "_law_many"] (defScope s_L_pull) := ⟨rfl, rfl, rfl, by decide +kernel, rfl, by decide +kernel, by decide +kernel⟩
abbrev s_L_of : Stmt := top 18
theorem sc_L_of : FnScope ["_law_bag_here", "_law_things"] ["_law_bag_here", "_law_things"] (defScope s_L_of) := ⟨rfl, rfl, rfl, by decide +kernel, rfl, by decide +kernel, by decide +kernel⟩
abbrev s_L_small : Stmt := top 19
theorem sc_L_small : FnScope ["_law_bag_here", "_law_way"] ["_law_bag_here"] (defScope s_L_small) := ⟨rfl, rfl, rfl, by decide +kernel, rfl, by decide +kernel, by decide +kernel⟩
abbrev s_L_same : Stmt := top 20
theorem sc_L_same : FnScope ["_law_found", "_law_due", "_law_a", "_law_b"] ["_law_found", "_law_due"] (defScope s_L_same) := ⟨rfl, rfl, rfl, by decide +kernel, rfl, by decide +kernel, by decide +kernel⟩
abbrev s_L_field : Stmt := top 21
theorem sc_L_field : FnScope ["_law_e"] ["_law_e"] (defScope s_L_field) := ⟨rfl, rfl, rfl, by decide +kernel, rfl, by decide +kernel, by decide +kernel⟩
abbrev s_L_other_field : Stmt := top 22
theorem sc_L_other_field : FnScope ["_law_e"] ["_law_e"] (defScope s_L_other_field) := ⟨rfl, rfl, rfl, by decide +kernel, rfl, by decide +kernel, by decide +kernel⟩
abbrev s_L_why : Stmt := top 23
theorem sc_L_why : FnScope ["_law_ask", "_law_e"] ["_law_ask"] (defScope s_L_why) := ⟨rfl, rfl, rfl, by decide +kernel, rfl, by decide +kernel, by decide +kernel⟩
abbrev s_L_low : Stmt := top 24
theorem sc_L_low : FnScope ["_law_top", "_law_bottom", "_law_one", "_law_other", "_law_sign"] ["_law_top", "_law_bottom"] (defScope s_L_low) := ⟨rfl, rfl, rfl, by decide +kernel, rfl, by decide +kernel, by decide +kernel⟩
abbrev s_L_pair : Stmt := top 25
theorem sc_L_pair : FnScope ["_law_found", "_law_whole", "_law_part"] ["_law_found"] (defScope s_L_pair) := ⟨rfl, rfl, rfl, by decide +kernel, rfl, by decide +kernel, by decide +kernel⟩
abbrev s_L_ratio : Stmt := top 26
theorem sc_L_ratio : FnScope ["_law_pair_here"] ["_law_pair_here"] (defScope s_L_ratio) := ⟨rfl, rfl, rfl, by decide +kernel, rfl, by decide +kernel, by decide +kernel⟩
abbrev s_L_pair_text : Stmt := top 27
theorem sc_L_pair_text : FnScope ["_law_pair_here"] ["_law_pair_here"] (defScope s_L_pair_text) := ⟨rfl, rfl, rfl, by decide +kernel, rfl, by decide +kernel, by decide +kernel⟩
abbrev s_law : Stmt := top 28
theorem sc_law : FnScope ["_law_script", "_law_bag_here", "_law_turn", "_law_low_here", "_law_scale", "_law_sign", "_law_pair_here", "_law_found", "_law_other", "_law_is_other", "_law_asks", "_law_odd", "_law_top", "_law_ask"] ["_law_script"] (defScope s_law) := ⟨rfl, rfl, rfl, by decide +kernel, rfl, by decide +kernel, by decide +kernel⟩

end Mine
namespace Mine
open PySem PySem.Spec PyProof.Rows L2
section
variable {P : Program} {w : World} {K : PySem.W.Frag} {mg : Str → Option Value} {base : Heap}
theorem ok_other {f : Addr} {fd : FuncData} (F : Fun K "_law_other_field" "_law_other_field" s_L_other_field f fd) : FnE P w K mg base 1 f fd ["_law_e"] (spOther K) := by
  refine Fun.okE F sc_L_other_field (fun a cls d vs H Q h => ?_) (fun cdv A outer s H vs Q p cls d hr hz hf h => ?_)
  · obtain ⟨_, _, _, rfl, _⟩ := h
    rfl
  · obtain ⟨c, fn, v, rfl, ⟨C, dd, fs, ec, X, n1, n2, ed, hd, l1, l2⟩, ho, q⟩ := h
    refine ⟨_, (pss_cons (ps_if (pt_cmpR op_eq (pe_xg (p := p) (cls := cls) (d := d) (List.Mem.head _) hz hf (pv 0) rfl) pe_str (nomark _))
 (pss_one (ps_ret (pe_xg (p := p) (cls := cls) (d := d) (List.Mem.head _) hz hf (pv 0) rfl)))
 pss_nil)
 (pss_cons (ps_if (pt_cmpR op_eq (pe_xg (p := p) (cls := cls) (d := d) (List.Mem.head _) hz hf (pv 0) rfl) pe_str (nomark _))
 (pss_one (ps_ret (pe_xg (p := p) (cls := cls) (d := d) (List.Mem.head _) hz hf (pv 0) rfl)))
 pss_nil)
 (pss_cons (ps_if (pt_cmpR op_eq (pe_xg (p := p) (cls := cls) (d := d) (List.Mem.head _) hz hf (pv 0) rfl) pe_str (nomark _))
 (pss_one (ps_ret (pe_xg (p := p) (cls := cls) (d := d) (List.Mem.head _) hz hf (pv 0) rfl)))
 pss_nil)
 (pss_one (ps_ret (pe_ifExp (pt_cmpR op_eq (pe_xg (p := p) (cls := cls) (d := d) (List.Mem.head _) hz hf (pv 0) rfl) pe_str (nomark _)) pe_non (pe_xg (p := p) (cls := cls) (d := d) (List.Mem.head _) hz hf (pv 0) rfl))))))), ?_⟩
    unfold otherName at ho
    refine ⟨_, rfl, rfl, C, dd, fs, _, ec, X, n1, ed, hd, l1, rfl, _, rfl, ?_⟩
    by_cases c1 : V.str c = .str "InvalidFact"
    · rw [if_pos c1] at ho
      cases ho
      exact itT (decide_eq_true c1) ⟨_, rfl, rfl, C, dd, fs, _, ec, X, n2, ed, hd, l2, q⟩
    · rw [if_neg c1] at ho
      refine itF (decide_eq_false c1) ?_
      refine ⟨_, rfl, rfl, C, dd, fs, _, ec, X, n1, ed, hd, l1, rfl, _, rfl, ?_⟩
      by_cases c2 : V.str c = .str "InvalidRow"
      · rw [if_pos c2] at ho
        cases ho
        exact itT (decide_eq_true c2) ⟨_, rfl, rfl, C, dd, fs, _, ec, X, n2, ed, hd, l2, q⟩
      · rw [if_neg c2] at ho
        refine itF (decide_eq_false c2) ?_
        refine ⟨_, rfl, rfl, C, dd, fs, _, ec, X, n1, ed, hd, l1, rfl, _, rfl, ?_⟩
        by_cases c3 : V.str c = .str "InvalidPage"
        · rw [if_pos c3] at ho
          cases ho
          exact itT (decide_eq_true c3) ⟨_, rfl, rfl, C, dd, fs, _, ec, X, n2, ed, hd, l2, q⟩
        · rw [if_neg c3] at ho
          refine itF (decide_eq_false c3) ?_
          refine ⟨_, rfl, rfl, C, dd, fs, _, ec, X, n1, ed, hd, l1, rfl, _, rfl, ?_⟩
          by_cases c4 : V.str c = .str "UnlikeWorlds"
          · rw [if_pos c4] at ho
            cases ho
          · rw [if_neg c4] at ho
            cases ho
            exact itF (decide_eq_false c4) ⟨_, rfl, rfl, C, dd, fs, _, ec, X, n2, ed, hd, l2, q⟩
theorem ok_field {f fO : Addr} {fd fdO : FuncData} (F : Fun K "_law_field" "_law_field" s_L_field f fd) (T : TxtF K mg fO) (G_ofield : FnE P w K mg base 1 fO fdO ["_law_e"] (spOther K)) (b_ofield : Binds K fdO ["_law_e"] []) : FnE P w K mg base 2 f fd ["_law_e"] (spField K) := by
  refine Fun.okE F sc_L_field (fun a cls d vs H Q h => ?_) (fun cdv A outer s H vs Q p cls d r_ofield hz hf h => ?_)
  · obtain ⟨_, _, _, rfl, _⟩ := h
    rfl
  · obtain ⟨c, fn, v, rfl, ⟨C, dd, fs, ec, X, n1, n2, ed, hd, l1, l2⟩, ho, k⟩ := h
    refine ⟨_, (pss_cons (ps_if (pt_cmpR op_in_seq (pe_xg (p := p) (cls := cls) (d := d) (List.Mem.head _) hz hf (pv 0) rfl) (pe_tup (pa_cons pe_str (pa_cons pe_str pa_nil))) (by rfl))
 (pss_one (ps_ret (pe_xg (p := p) (cls := cls) (d := d) (List.Mem.head _) hz hf (pv 0) rfl)))
 pss_nil)
 (pss_cons (ps_if (pt_cmpR op_in_seq (pe_xg (p := p) (cls := cls) (d := d) (List.Mem.head _) hz hf (pv 0) rfl) (pe_tup (pa_cons pe_str (pa_cons pe_str (pa_cons pe_str pa_nil)))) (by rfl))
 (pss_one (ps_ret (pe_xg (p := p) (cls := cls) (d := d) (List.Mem.head _) hz hf (pv 0) rfl)))
 pss_nil)
 (pss_cons (ps_if (pt_cmpR op_in_seq (pe_xg (p := p) (cls := cls) (d := d) (List.Mem.head _) hz hf (pv 0) rfl) (pe_tup (pa_cons pe_str (pa_cons pe_str (pa_cons pe_str pa_nil)))) (by rfl))
 (pss_one (ps_ret (pe_xg (p := p) (cls := cls) (d := d) (List.Mem.head _) hz hf (pv 0) rfl)))
 pss_nil)
 (pss_cons (ps_if (pt_cmpR op_eq (pe_xg (p := p) (cls := cls) (d := d) (List.Mem.head _) hz hf (pv 0) rfl) pe_str (nomark _))
 (pss_one (ps_ret (pe_tup (pa_cons (pe_xg (p := p) (cls := cls) (d := d) (List.Mem.head _) hz hf (pv 0) rfl) (pa_cons (pe_xg (p := p) (cls := cls) (d := d) (List.Mem.head _) hz hf (pv 0) rfl) pa_nil)))))
 pss_nil)
 (pss_one (ps_ret (pe_callE (p := p) (cls := cls) (d := d) G_ofield r_ofield (List.Mem.head _) hz hf rfl T.g_ofield T.k_ofield b_ofield (pa_cons (pv 0) pa_nil)))))))), ?_⟩
    unfold fieldName at ho
    refine ⟨_, rfl, rfl, C, dd, fs, _, ec, X, n1, ed, (Same.refl H) _ _ hd, l1, sz2, fun t1 m1 => ⟨_, _, rfl, .inr (SqT.of upd_same), rfl, rfl, _, rfl, ?_⟩⟩
    have s1 : Same H (upd H t1 (.tup [.str "InvalidName", .str "InvalidNumber"])) := Same.new m1
    by_cases c1 : inV (.str c) [.str "InvalidName", .str "InvalidNumber"] = true
    · rw [if_pos c1] at ho
      cases ho
      exact itT c1 ⟨_, rfl, rfl, C, dd, fs, _, ec, X, n2, ed, s1 _ _ hd, l2, k _ s1⟩
    · rw [if_neg c1] at ho
      refine itF (Bool.not_eq_true _ ▸ c1) ?_
      refine ⟨_, rfl, rfl, C, dd, fs, _, ec, X, n1, ed, s1 _ _ hd, l1, (by show 3 ≤ sizeLine; decide), fun t2 m2 => ⟨_, _, rfl, .inr (SqT.of upd_same), rfl, rfl, _, rfl, ?_⟩⟩
      have s2 : Same H (upd (upd H t1 (.tup [.str "InvalidName", .str "InvalidNumber"])) t2 (.tup [.str "InvalidText", .str "WrongKind", .str "InvalidBlank"])) := s1.trans (Same.new m2)
      by_cases c2 : inV (.str c) [.str "InvalidText", .str "WrongKind", .str "InvalidBlank"] = true
      · rw [if_pos c2] at ho
        cases ho
        exact itT c2 ⟨_, rfl, rfl, C, dd, fs, _, ec, X, n2, ed, s2 _ _ hd, l2, k _ s2⟩
      · rw [if_neg c2] at ho
        refine itF (Bool.not_eq_true _ ▸ c2) ?_
        refine ⟨_, rfl, rfl, C, dd, fs, _, ec, X, n1, ed, s2 _ _ hd, l1, (by show 3 ≤ sizeLine; decide), fun t3 m3 => ⟨_, _, rfl, .inr (SqT.of upd_same), rfl, rfl, _, rfl, ?_⟩⟩
        have s3 : Same H (upd (upd (upd H t1 (.tup [.str "InvalidName", .str "InvalidNumber"])) t2 (.tup [.str "InvalidText", .str "WrongKind", .str "InvalidBlank"])) t3 (.tup [.str "NameTaken", .str "InvalidWitness", .str "UnknownName"])) := s2.trans (Same.new m3)
        by_cases c3 : inV (.str c) [.str "NameTaken", .str "InvalidWitness", .str "UnknownName"] = true
        · rw [if_pos c3] at ho
          cases ho
          exact itT c3 ⟨_, rfl, rfl, C, dd, fs, _, ec, X, n2, ed, s3 _ _ hd, l2, k _ s3⟩
        · rw [if_neg c3] at ho
          refine itF (Bool.not_eq_true _ ▸ c3) ?_
          refine ⟨_, rfl, rfl, C, dd, fs, _, ec, X, n1, ed, s3 _ _ hd, l1, rfl, _, rfl, ?_⟩
          by_cases c4 : V.str c = .str "TooLarge"
          · rw [if_pos c4] at ho
            cases ho
          · rw [if_neg c4] at ho
            refine itF (decide_eq_false c4) ?_
            exact ⟨_, rfl, c, fn, v, rfl, ⟨C, dd, fs, ec, X, n1, n2, ed, s3 _ _ hd, l1, l2⟩, ho, k _ s3⟩
end
end Mine
namespace Mine
open PySem PySem.Spec PyProof.Rows L2
theorem why_gives {X : Cx} {g CS CM fF : Addr} {fdF : FuncData} {cdg : Value} {q : Str} (T : TxtW X.K X.mg CS CM fF) (G_field : FnE X.prog X.w X.K X.mg X.base 2 fF fdF ["_law_e"] (spField X.K)) (b_field : Binds X.K fdF ["_law_e"] []) (hr : Room 3 X.A) :
    LamX.GivesTo X ["_law_ask", "_law_e"] "_law_why" (defScope s_L_why) g cdg (defBody s_L_why) "_law_ask" q (TTwhy X.K CS CM) := by
  intro f c' s H Q tl act hc h
  have hr2 : Room 2 (X.A.deeper (envOfC "_law_why" (defScope s_L_why) s.heap.objs.size g cdg)) := hr.deeper _
  refine ⟨_, pss_one (ps_clauses (X := (cxOf C8.CX0 X.prog X.w X.K X.mg X.base ["_law_ask", "_law_e"] "_law_why" (defScope s_L_why) g cdg X.A X.stack s H C8.E0).nox) (Wout := fun _ _ _ _ => False)
      (l := [⟨fun cls => PySem.W.exmAny X.K cls [.ref CS, .ref CM], 1, fun a cls d => tRet (tTup (tCons (tXg X.K a cls d "code" (tVar 1)) (tCons (tCallE (spField X.K) a cls d (tCons (tVar 1) tNil)) tNil)))⟩])
      (tb := fun W D σ H => ∃ Ech : XK, (∀ cls d (σ' : L2.St) H', σ'.length = 2 → Ech cls d H' → W cls d σ' H') ∧ σ[0]? = some (some (.ref f)) ∧ H c' = some (LamX.CodeO c' q) ∧ tl Ech H fun v H1 => ([V.str "value", v] : List V).length ≤ sizeLine ∧ ∀ p, H1 p = none → D.rt (.ref p) (upd H1 p (.tup [.str "value", v])))
      rfl rfl sc_L_why.nd takes0 (fun W pn xe tk _ => ?_) (.cons (test2 ⟨rfl, by decide, .inl T.g_SlopeError⟩ ⟨rfl, by decide, .inl T.g_Missing⟩) rfl rfl (fun a oe cls d pn hz hf => ?_) .nil)), ?_⟩
  · refine ⟨fun pins s' σ H' D I h' => ?_⟩
    obtain ⟨Ech, hW, h1, h2, h3⟩ := h'
    have tk2 : Takes ((cxOf C8.CX0 X.prog X.w X.K X.mg X.base ["_law_ask", "_law_e"] "_law_why" (defScope s_L_why) g cdg X.A X.stack s H C8.E0).tr pn xe) (fun cls d σ' H' => σ'.length = 2 → W cls d σ' H') := by
      rintro u s2 ⟨a, B, sI, pins, σ, H, cls, d, e, J, nb, up, sky, na, os, ag, w⟩
      exact tk u s2 ⟨a, B, sI, pins, σ, H, cls, d, e, J, nb, up, sky, na, os, ag, w J.len⟩
    exact (pss_one (ps_ret (pe_tup (pa_cons pe_str (pa_cons (act (fun cls d σ' H' => σ'.length = 2 → W cls d σ' H') pn xe Ech _ _ tk2 fun cls d σ' H' e l => hW cls d σ' H' l e) pa_nil))))).run pins s' σ H' D I ⟨h1, h2, h3⟩
  · exact pss_one (ps_ret (pe_tup (pa_cons (pe_xg (X := ((cxOf C8.CX0 X.prog X.w X.K X.mg X.base ["_law_ask", "_law_e"] "_law_why" (defScope s_L_why) g cdg X.A X.stack s H C8.E0).nox.suite a ((a, oe) :: pn))) (p := (a, oe)) (List.Mem.head _) hz hf (pv 1)) (pa_cons (pe_callE (X := ((cxOf C8.CX0 X.prog X.w X.K X.mg X.base ["_law_ask", "_law_e"] "_law_why" (defScope s_L_why) g cdg X.A X.stack s H C8.E0).nox.suite a ((a, oe) :: pn))) (p := (a, oe)) G_field ⟨hr2.dp, hr2.un⟩ (List.Mem.head _) hz hf (by rfl) T.g_field T.k_field b_field (pa_cons (pv 1) pa_nil)) pa_nil))))
  · refine ⟨fun cls d H' => ∃ (c fn : Str) (v : V), PySem.W.exmAny X.K cls [.ref CS, .ref CM] = some true ∧ ErrAt X.K cls d H' c fn v ∧ fieldName c = some fn ∧ ∀ (p : Addr) (H2 : Hp), H' p = none → Same H' H2 → H2 p = some (.tup [.str c, v]) → Q (.ref p) H2, fun cls d σ' H' ln z => ?_, rfl, hc, h⟩
    obtain ⟨c, fn, v, em, er, ef, k⟩ := z
    refine ⟨true, em, fun _ a na => ?_, fun z => nomatch z⟩
    obtain ⟨C, dd, fs, ec, X1, n1, n2, ed, hd, l1, l2⟩ := er.ex
    have sl : (σ'.set 1 (some (V.ref a)))[1]? = some (some (V.ref a)) := by simp [ln]
    refine ⟨_, sl, rfl, C, dd, fs, _, ec, X1, n1, ed, hd, l1, _, sl, c, fn, v, rfl, er, ef, fun H2 s2 => ⟨sz2, fun p np => ?_⟩⟩
    exact k p _ (s2.free np) (s2.trans (Same.new np)) upd_same
end Mine
namespace Mine
open PySem PySem.Spec PyProof.Rows L2
def subC : Nat → Nat → Bool := fun a b => a == b
def errTab : List (Nat × Str) := [(2, "given"), (3, "at")]
structure Tx (K : PySem.W.Frag) (mg : Str → Option Value) (cl : Cl) (fa pa : Nat → Addr) (mc : Nat → Value) : Prop where
  z_range : mg "range" = none
  wd : Wd K cl subC 1
  z_str : mg "str" = none
  z_isinstance : mg "isinstance" = none
  z_int : mg "int" = none
  z_tuple : mg "tuple" = none
  z_list : mg "list" = none
  z_zip : mg "zip" = none
  g_L_same : mg "_law_same" = some (.ref (fa 27))
  k_L_same : PySem.W.keepIn K (.ref (fa 27)) = true
  z_all : mg "all" = none
  z_len : mg "len" = none
  z_bool : mg "bool" = none
  ef : ErrF K cl (cl 1) (cl 4) errTab
  tw : TxtW K mg (cl 1) (cl 4) (fa 28)
  g_L_why : mg "_law_why" = some (.ref (fa 30))
  k_L_why : PySem.W.keepIn K (.ref (fa 30)) = true
  z_abs : mg "abs" = none
  g_L_pull : mg "_law_pull" = some (.ref (fa 24))
  k_L_pull : PySem.W.keepIn K (.ref (fa 24)) = true
  g_L_of : mg "_law_of" = some (.ref (fa 25))
  k_L_of : PySem.W.keepIn K (.ref (fa 25)) = true
  c_Ratio : Cls K (cl 0)
  n_Ratio_bottom : NoAttr K (cl 0) "bottom"
  n_Ratio_top : NoAttr K (cl 0) "top"
  gcd : mg "gcd" = some (.builtin "math.gcd")
  g_is_whole : mg "is_whole" = some (.ref (fa 3))
  k_is_whole : PySem.W.keepIn K (.ref (fa 3)) = true
  n_InvalidNumber_code : PySem.W.findIn K (.ref (cl 2)) "code" = some none
  n_InvalidNumber_given : PySem.W.findIn K (.ref (cl 2)) "given" = some none
  x_InvalidNumber : OexC K (cl 2)
  i_InvalidNumber : PySem.W.findIn K (.ref (cl 2)) "__init__" = some (some (.ref (fa 1)))
  t_InvalidNumber : PySem.W.typeIn K (.ref (fa 1)) = some (.type "function")
  g_InvalidNumber : mg "InvalidNumber" = some (.ref (cl 2))
  mk_Ratio : Mk K (cl 0) (fa 6)
  g_Ratio : mg "Ratio" = some (.ref (cl 0))
  g_ratio_of : mg "ratio_of" = some (.ref (fa 5))
  k_ratio_of : PySem.W.keepIn K (.ref (fa 5)) = true
  g_is_number : mg "is_number" = some (.ref (fa 4))
  k_is_number : PySem.W.keepIn K (.ref (fa 4)) = true
  s_Ratio_eq : Spec K (cl 0) "__eq__" (fa 18)
  nf_Ratio : NF K cl 1 0
  si_Ratio : PySem.W.subIn K (.ref (cl 0)) (.type "int") = some false
  g_L_pair : mg "_law_pair" = some (.ref (fa 32))
  k_L_pair : PySem.W.keepIn K (.ref (fa 32)) = true
  g_digits_of : mg "digits_of" = some (.ref (fa 22))
  k_digits_of : PySem.W.keepIn K (.ref (fa 22)) = true
  s_Ratio_str : Spec K (cl 0) "__str__" (fa 19)
  ne_Ratio : PySem.W.findIn K (.ref (cl 0)) "__ne__" = some (some (.builtin "object.__ne__"))
  mro_Ratio : PySem.W.mroIn K (cl 0) (.type "object") = some true
  g_L_ratio : mg "_law_ratio" = some (.ref (fa 33))
  k_L_ratio : PySem.W.keepIn K (.ref (fa 33)) = true
  g_L_pair_text : mg "_law_pair_text" = some (.ref (fa 34))
  k_L_pair_text : PySem.W.keepIn K (.ref (fa 34)) = true
  fm_Ratio : FmtC K (cl 0)
  s_Ratio_repr : Spec K (cl 0) "__repr__" (fa 20)
  z_repr : mg "repr" = none
  p_Ratio_whole : PropOf K (cl 0) "whole" (pa 7) (fa 7)
  g_L_low : mg "_law_low" = some (.ref (fa 31))
  k_L_low : PySem.W.keepIn K (.ref (fa 31)) = true
  g_L_small : mg "_law_small" = some (.ref (fa 26))
  k_L_small : PySem.W.keepIn K (.ref (fa 26)) = true
  g_L_bag : mg "_law_bag" = some (.ref (fa 23))
  k_L_bag : PySem.W.keepIn K (.ref (fa 23)) = true
def fv_InvalidNumber : List V → List (Str × V)
  | [x0] => [("given", x0), ("code", .str "InvalidNumber")]
  | _ => []
def fs_InvalidNumber : List Dv → List Str × List Dv
  | [x0] => (["given", "code"], [x0, .str "InvalidNumber"])
  | _ => ([], [])
theorem hfs_InvalidNumber {cl : Cl} (K : PySem.W.Frag) (R : Rc) (H : Hp) (vs : List V) (ds : List Dv) (hl : vs.length = 1) (r : RepAll K cl R H vs ds) : (fv_InvalidNumber vs).map (·.1) = (fs_InvalidNumber ds).1 ∧ RepAll K cl R H ((fv_InvalidNumber vs).map (·.2)) (fs_InvalidNumber ds).2 := by
  cases r with
  | nil => cases hl
  | cons a0 r =>
    cases r with
    | nil => exact ⟨rfl, (.cons a0 (.cons (.str _) .nil))⟩
    | cons _ _ => cases hl
theorem ok_InvalidNumber_D_initD_ {P : Program} {w : World} {K : PySem.W.Frag} {mg : Str → Option Value} {base : Heap} {cl : Cl} {fa pa : Nat → Addr} {mc : Nat → Value} {fd : FuncData} (T : Tx K mg cl fa pa mc) (F : Fun K "__init__" "InvalidNumber.__init__" s_InvalidNumber_D_initD_ (fa 1) fd) : FnOk P w K mg base CX0 1 (fa 1) fd ["self", "given"] (spErrG (cl 2) 1 fv_InvalidNumber) := by
  refine F.ok sc_InvalidNumber_D_initD_ (fun vs H Q E h => ?_) (fun cdv A outer s H vs Q E hr h => ?_)
  · obtain ⟨_, us, rfl, hl, _⟩ := h
    rw [List.length_cons, hl]
    rfl
  · obtain ⟨a, us, rfl, hl, ha, k⟩ := h
    obtain ⟨x0, rfl⟩ : ∃ x0, us = [x0] := by
      match us, hl with
      | [x0], _ => exact ⟨_, rfl⟩
    refine ⟨_, (pss_cons (ps_ost (pv 0) pe_str rfl)
 (pss_one (ps_ost (pv 0) (pv 1) rfl))), ?_⟩
    refine ⟨_, rfl, a, cl 2, rfl, T.x_InvalidNumber, T.n_InvalidNumber_code, .inl ⟨ha, fun d nd ne => ?_⟩⟩
    have e1 : upd (upd H d (exd d [("code", .str "InvalidNumber")])) a (exo a (cl 2) (some d)) d = some (exd d [("code", .str "InvalidNumber")]) := by rw [upd_ne ne, upd_same]
    refine ⟨_, rfl, _, rfl, a, cl 2, rfl, T.x_InvalidNumber, T.n_InvalidNumber_given, .inr ⟨d, _, upd_same, e1, (by show 1 ≤ 900; decide), ?_⟩⟩
    refine k d _ nd ne ?_ upd_same fun b hba hbd => ?_
    · rw [upd_ne ne.symm]; exact upd_same
    · rw [upd_ne hbd, upd_ne hba, upd_ne hbd]
def m_L_same (rec_L_same : PFn) : GS :=
 (sSeq (sIf (gOr (gTest (e2 (fP (isN false)) (eVar 1) (eC .non))) (gTest (e2 (fP (isN false)) (eVar 0) (eC .non))))
 (sRet (eAnd (e2 (fP (isN false)) (eVar 1) (eC .non)) (e2 (fP (isN false)) (eVar 0) (eC .non))))
 sNext)
 (sSeq (sIf (gOr (gTest (eB (bIsi subC 1) (aCons (eVar 1) (aCons (eC (.ty "bool")) aNil)))) (gTest (eB (bIsi subC 1) (aCons (eVar 0) (aCons (eC (.ty "bool")) aNil)))))
 (sRet (eAnd (eB (bIsi subC 1) (aCons (eVar 1) (aCons (eC (.ty "bool")) aNil))) (eAnd (eB (bIsi subC 1) (aCons (eVar 0) (aCons (eC (.ty "bool")) aNil))) (e2 uEq (eVar 0) (eVar 1)))))
 sNext)
 (sSeq (sIf (gOr (gTest (eB (bIsi subC 1) (aCons (eVar 1) (aCons (eTup (aCons (eC (.ty "list")) (aCons (eC (.ty "tuple")) aNil))) aNil)))) (gTest (eB (bIsi subC 1) (aCons (eVar 0) (aCons (eTup (aCons (eC (.ty "list")) (aCons (eC (.ty "tuple")) aNil))) aNil)))))
 (sSeq (sIf (gTest (e2 uNe (eB (bIsi subC 1) (aCons (eVar 1) (aCons (eC (.ty "list")) aNil))) (eB (bIsi subC 1) (aCons (eVar 0) (aCons (eC (.ty "list")) aNil)))))
 (sRet (eC (.bl false)))
 sNext)
 (sSeq (sIf (gOr (gTest (e2 uNe (eB (bIsi subC 1) (aCons (eVar 1) (aCons (eC (.ty "tuple")) aNil))) (eB (bIsi subC 1) (aCons (eVar 0) (aCons (eC (.ty "tuple")) aNil))))) (gTest (e2 uNe (eB (f1W bLen) (aCons (eVar 0) aNil)) (eB (f1W bLen) (aCons (eVar 1) aNil)))))
 (sRet (eC (.bl false)))
 sNext)
 (sRet (eB (f1W bAll) (aCons (eLc (iZipD (aCons (eVar 0) (aCons (eVar 1) aNil))) (tTuple 2 (tsCons (tName 2) (tsCons (tName 3) tsNil))) gYes (eCall 2 rec_L_same [] (aCons (eVar 2) (aCons (eVar 3) aNil))) [2, 3]) aNil)))))
 sNext)
 (sSeq (sIf (gTest (e2 uNe (eB (bIsi subC 1) (aCons (eVar 1) (aCons (eC (.ty "int")) aNil))) (eB (bIsi subC 1) (aCons (eVar 0) (aCons (eC (.ty "int")) aNil)))))
 (sRet (eC (.bl false)))
 sNext)
 (sRet (eAnd (e2 uEq (eB (bIsi subC 1) (aCons (eVar 1) (aCons (eC (.ty "str")) aNil))) (eB (bIsi subC 1) (aCons (eVar 0) (aCons (eC (.ty "str")) aNil)))) (e2 uEq (eVar 0) (eVar 1))))))))
def g_L_same : Nat → PFn
  | 0 => fun _ => .bad
  | n + 1 => runP 4 (m_L_same (g_L_same n))
theorem ok_L_same {P : Program} {w : World} {K : PySem.W.Frag} {mg : Str → Option Value} {base : Heap} {cl : Cl} {fa pa : Nat → Addr} {mc : Nat → Value} {fd : FuncData} (T : Tx K mg cl fa pa mc) (F : Fun K "_law_same" "_law_same" s_L_same (fa 27) fd) (b_L_same : Binds K fd ["_law_found", "_law_due"] []) : ∀ n,
    FnG P w K mg base cl (0 + n) (fa 27) fd ["_law_found", "_law_due"] (g_L_same n)
  | 0 => FnG.bot
  | n + 1 => by
    have h_L_same := ok_L_same (P := P) (w := w) (base := base) T F b_L_same n
    refine fn_pure F sc_L_same fun cdv A outer s H E hr => ?_
    have r_L_same : Room (0 + n) _ := hr
    exact (jss_cons (js_if (JW.pt (jw_or (j_cmpT op_isN ro_isN (j_var 1) (j_c pe_non fun _ _ => .non) (nomark _)) (jw_or1 (j_cmpT op_isN ro_isN (j_var 0) (j_c pe_non fun _ _ => .non) (nomark _)))))
 (jss_one (js_ret (j_and (j_cmp op_isN ro_isN (j_var 1) (j_c pe_non fun _ _ => .non) (nomark _)) (j_one (j_cmp op_isN ro_isN (j_var 0) (j_c pe_non fun _ _ => .non) (nomark _))))))
 jss_nil)
 (jss_cons (js_if (JW.pt (jw_or (j_val (j_callB (callr_or call_isi (callr_or call_isiT call_isiK)) (rc_isi T.wd) rfl T.z_isinstance (by decide +kernel) (ja_cons (j_var 1) (ja_cons (j_c (pe_bltn (v := .ty "bool") rfl T.z_bool (by decide +kernel) rfl) fun _ _ => .ty _) ja_nil)))) (jw_or1 (j_val (j_callB (callr_or call_isi (callr_or call_isiT call_isiK)) (rc_isi T.wd) rfl T.z_isinstance (by decide +kernel) (ja_cons (j_var 0) (ja_cons (j_c (pe_bltn (v := .ty "bool") rfl T.z_bool (by decide +kernel) rfl) fun _ _ => .ty _) ja_nil)))))))
 (jss_one (js_ret (j_and (j_callB (callr_or call_isi (callr_or call_isiT call_isiK)) (rc_isi T.wd) rfl T.z_isinstance (by decide +kernel) (ja_cons (j_var 1) (ja_cons (j_c (pe_bltn (v := .ty "bool") rfl T.z_bool (by decide +kernel) rfl) fun _ _ => .ty _) ja_nil))) (j_and (j_callB (callr_or call_isi (callr_or call_isiT call_isiK)) (rc_isi T.wd) rfl T.z_isinstance (by decide +kernel) (ja_cons (j_var 0) (ja_cons (j_c (pe_bltn (v := .ty "bool") rfl T.z_bool (by decide +kernel) rfl) fun _ _ => .ty _) ja_nil))) (j_one (j_cmp (opEq (hu64 hr)) roEq (j_var 0) (j_var 1) (nomark _)))))))
 jss_nil)
 (jss_cons (js_if (JW.pt (jw_or (j_val (j_callB (callr_or call_isi (callr_or call_isiT call_isiK)) (rc_isi T.wd) rfl T.z_isinstance (by decide +kernel) (ja_cons (j_var 1) (ja_cons (j_tup (ja_cons (j_c (pe_bltn (v := .ty "list") rfl T.z_list (by decide +kernel) rfl) fun _ _ => .ty _) (ja_cons (j_c (pe_bltn (v := .ty "tuple") rfl T.z_tuple (by decide +kernel) rfl) fun _ _ => .ty _) ja_nil))) ja_nil)))) (jw_or1 (j_val (j_callB (callr_or call_isi (callr_or call_isiT call_isiK)) (rc_isi T.wd) rfl T.z_isinstance (by decide +kernel) (ja_cons (j_var 0) (ja_cons (j_tup (ja_cons (j_c (pe_bltn (v := .ty "list") rfl T.z_list (by decide +kernel) rfl) fun _ _ => .ty _) (ja_cons (j_c (pe_bltn (v := .ty "tuple") rfl T.z_tuple (by decide +kernel) rfl) fun _ _ => .ty _) ja_nil))) ja_nil)))))))
 (jss_cons (js_if (j_cmpT (opNe (hu64 hr)) roNe (j_callB (callr_or call_isi (callr_or call_isiT call_isiK)) (rc_isi T.wd) rfl T.z_isinstance (by decide +kernel) (ja_cons (j_var 1) (ja_cons (j_c (pe_bltn (v := .ty "list") rfl T.z_list (by decide +kernel) rfl) fun _ _ => .ty _) ja_nil))) (j_callB (callr_or call_isi (callr_or call_isiT call_isiK)) (rc_isi T.wd) rfl T.z_isinstance (by decide +kernel) (ja_cons (j_var 0) (ja_cons (j_c (pe_bltn (v := .ty "list") rfl T.z_list (by decide +kernel) rfl) fun _ _ => .ty _) ja_nil))) (nomark _))
 (jss_one (js_ret (j_c pe_bl fun _ _ => .bl _)))
 jss_nil)
 (jss_cons (js_if (JW.pt (jw_or (j_cmpT (opNe (hu64 hr)) roNe (j_callB (callr_or call_isi (callr_or call_isiT call_isiK)) (rc_isi T.wd) rfl T.z_isinstance (by decide +kernel) (ja_cons (j_var 1) (ja_cons (j_c (pe_bltn (v := .ty "tuple") rfl T.z_tuple (by decide +kernel) rfl) fun _ _ => .ty _) ja_nil))) (j_callB (callr_or call_isi (callr_or call_isiT call_isiK)) (rc_isi T.wd) rfl T.z_isinstance (by decide +kernel) (ja_cons (j_var 0) (ja_cons (j_c (pe_bltn (v := .ty "tuple") rfl T.z_tuple (by decide +kernel) rfl) fun _ _ => .ty _) ja_nil))) (nomark _)) (jw_or1 (j_cmpT (opNe (hu64 hr)) roNe (j_callB call_len rc_len rfl T.z_len (by decide +kernel) (ja_cons (j_var 0) ja_nil)) (j_callB call_len rc_len rfl T.z_len (by decide +kernel) (ja_cons (j_var 1) ja_nil)) (nomark _)))))
 (jss_one (js_ret (j_c pe_bl fun _ _ => .bl _)))
 jss_nil)
 (jss_one (js_ret (j_callB (cr_all rfl) rc_all rfl T.z_all (by decide +kernel) (ja_cons (j_lc (own := [("_law_a", 2), ("_law_b", 3)]) (g := (gTup K 2 (gCons (gName 2) (gCons (gName 3) gNil)))) rfl sc_L_same.nd (ji_zip rfl T.z_zip (ja_cons (j_var 0) (ja_cons (j_var 1) ja_nil))) (blkOk_by (own := [("_law_a", 2), ("_law_b", 3)]) (N := ["_law_found", "_law_due", "_law_a", "_law_b"]) (sc := defScope s_L_same) (by decide +kernel)) (fun _ _ _ _ _ => (pg_tup (by rfl) (pgs_cons (pg_name (i := 2) sc_L_same.nd rfl (Or.inl rfl)) (pgs_cons (pg_name (i := 3) sc_L_same.nd rfl (Or.inl rfl)) pgs_nil)))) (fgw_tup (fgw_cons (fgw_name 2 (by decide)) (fgw_cons (fgw_name 3 (by decide)) fgw_nil))) (fun _ _ _ _ _ => jts_nil) (fun _ _ _ _ _ => (j_call h_L_same r_L_same rfl T.g_L_same T.k_L_same b_L_same .nil rn0 tkB (ja_cons (j_var 2) (ja_cons (j_var 3) ja_nil))))) ja_nil))))))
 jss_nil)
 (jss_cons (js_if (j_cmpT (opNe (hu64 hr)) roNe (j_callB (callr_or call_isi (callr_or call_isiT call_isiK)) (rc_isi T.wd) rfl T.z_isinstance (by decide +kernel) (ja_cons (j_var 1) (ja_cons (j_c (pe_bltn (v := .ty "int") rfl T.z_int (by decide +kernel) rfl) fun _ _ => .ty _) ja_nil))) (j_callB (callr_or call_isi (callr_or call_isiT call_isiK)) (rc_isi T.wd) rfl T.z_isinstance (by decide +kernel) (ja_cons (j_var 0) (ja_cons (j_c (pe_bltn (v := .ty "int") rfl T.z_int (by decide +kernel) rfl) fun _ _ => .ty _) ja_nil))) (nomark _))
 (jss_one (js_ret (j_c pe_bl fun _ _ => .bl _)))
 jss_nil)
 (jss_one (js_ret (j_and (j_cmp (opEq (hu64 hr)) roEq (j_callB (callr_or call_isi (callr_or call_isiT call_isiK)) (rc_isi T.wd) rfl T.z_isinstance (by decide +kernel) (ja_cons (j_var 1) (ja_cons (j_c (pe_bltn (v := .ty "str") rfl T.z_str (by decide +kernel) rfl) fun _ _ => .ty _) ja_nil))) (j_callB (callr_or call_isi (callr_or call_isiT call_isiK)) (rc_isi T.wd) rfl T.z_isinstance (by decide +kernel) (ja_cons (j_var 0) (ja_cons (j_c (pe_bltn (v := .ty "str") rfl T.z_str (by decide +kernel) rfl) fun _ _ => .ty _) ja_nil))) (nomark _)) (j_one (j_cmp (opEq (hu64 hr)) roEq (j_var 0) (j_var 1) (nomark _))))))))))
def m_L_pull : GS :=
 (sSeq (sSetIx (eVar 0) (eC (.int 4)) (e2 uAdd (e2 uIx (eVar 0) (eC (.int 4))) (eC (.int 1))))
 (sSeq (sIf (gAnd (gTest (e2 uEq (e2 uIx (eVar 0) (eC (.int 2))) (eC (.int 0)))) (gTest (e2 uLt (e2 uIx (eVar 0) (eC (.int 1))) (eB (f1W bLen) (aCons (e2 uIx (eVar 0) (eC (.int 0))) aNil)))))
 (sSeq (sSet 2 (e2 uIx (e2 uIx (eVar 0) (eC (.int 0))) (e2 uIx (eVar 0) (eC (.int 1)))))
 (sSeq (sSetIx (eVar 0) (eC (.int 1)) (e2 uAdd (e2 uIx (eVar 0) (eC (.int 1))) (eC (.int 1))))
 (sIf (gTest (e2 (fP iGe) (eB (f1V bAbs) (aCons (eVar 2) aNil)) (e2 (fP iPow) (eC (.int 10)) (eC (.int 18)))))
 (sSetIx (eVar 0) (eC (.int 2)) (eB (f1V bAbs) (aCons (eVar 2) aNil)))
 (sSeq (sSet 3 (e2 uAdd (e2 uMul (e2 (fP iMod) (eB (f1V bInt) (aCons (eVar 2) aNil)) (eC (.int 1000000007))) (eC (.int 30119))) (eC (.int 61))))
 (sSetIx (eVar 0) (eC (.int 3)) (e2 (fP iMod) (eB (f1V bInt) (aCons (e2 uAdd (e2 uMul (e2 uIx (eVar 0) (eC (.int 3))) (eC (.int 41759))) (eVar 3)) aNil)) (eC (.int 2147483549))))))))
 sNext)
 (sSeq (sIf (gTest (e2 uGt (e2 uIx (eVar 0) (eC (.int 2))) (eC (.int 0))))
 (sSeq (sSet 4 (e2 (fP iMod) (eB (f1V bInt) (aCons (e2 uIx (eVar 0) (eC (.int 2))) aNil)) (eVar 1)))
 (sSeq (sSetIx (eVar 0) (eC (.int 2)) (e2 (fP iFdiv) (e2 uIx (eVar 0) (eC (.int 2))) (eVar 1)))
 (sRet (eVar 4))))
 sNext)
 (sSeq (sSet 5 (e2 uIx (eVar 0) (eC (.int 3))))
 (sSeq (sSet 6 (e2 uAdd (e2 uAdd (e2 uMul (eVar 5) (eC (.int 57191))) (e2 uMul (e2 uIx (eVar 0) (eC (.int 4))) (eC (.int 104789)))) (eC (.int 90031))))
 (sSeq (sSetIx (eVar 0) (eC (.int 3)) (e2 (fP iMod) (eB (f1V bInt) (aCons (e2 uAdd (e2 uMul (e2 uMul (eVar 5) (eVar 5)) (eC (.int 19))) (eVar 6)) aNil)) (eC (.int 2147483549))))
 (sRet (e2 (fP iMod) (eB (f1V bInt) (aCons (e2 uAdd (e2 (fP iFdiv) (e2 uIx (eVar 0) (eC (.int 3))) (eC (.int 101))) (e2 uMul (e2 (fP iMod) (eB (f1V bInt) (aCons (e2 uIx (eVar 0) (eC (.int 3))) aNil)) (eC (.int 7901))) (eC (.int 71)))) aNil)) (eVar 1)))))))))
def g_L_pull : MFn := runM 7 m_L_pull
theorem ok_L_pull {P : Program} {w : World} {K : PySem.W.Frag} {mg : Str → Option Value} {base : Heap} {cl : Cl} {fa pa : Nat → Addr} {mc : Nat → Value} {fd : FuncData} (T : Tx K mg cl fa pa mc) (F : Fun K "_law_pull" "_law_pull" s_L_pull (fa 24) fd) :
    FnM P w K mg base cl 1 (fa 24) fd ["_law_bag_here", "_law_many"] g_L_pull := by
  refine fn_st F sc_L_pull fun cdv A outer s H E hr => ?_
  exact (jss_cons (js_setIx (j_var 0) (j_c pe_int fun _ _ => .int _) (j_add (j_ixA (j_var 0) (j_c pe_int fun _ _ => .int _) (fun _ _ => rfl)) (j_c pe_int fun _ _ => .int _)))
 (jss_cons (js_if (JW.pt (jw_and (j_cmpT (opEq (hu64 hr)) roEq (j_ixA (j_var 0) (j_c pe_int fun _ _ => .int _) (fun _ _ => rfl)) (j_c pe_int fun _ _ => .int _) (nomark _)) (jw_and1 (j_cmpT opLt roLt (j_ixA (j_var 0) (j_c pe_int fun _ _ => .int _) (fun _ _ => rfl)) (j_callB call_len rc_len rfl T.z_len (by decide +kernel) (ja_cons (j_ixA (j_var 0) (j_c pe_int fun _ _ => .int _) (fun _ _ => rfl)) ja_nil)) (nomark _)))))
 (jss_cons (js_set (i := 2) sc_L_pull.nd rfl (Or.inl rfl) (j_ixA (j_ixA (j_var 0) (j_c pe_int fun _ _ => .int _) (fun _ _ => rfl)) (j_ixA (j_var 0) (j_c pe_int fun _ _ => .int _) (fun _ _ => rfl)) (fun _ _ => rfl)))
 (jss_cons (js_setIx (j_var 0) (j_c pe_int fun _ _ => .int _) (j_add (j_ixA (j_var 0) (j_c pe_int fun _ _ => .int _) (fun _ _ => rfl)) (j_c pe_int fun _ _ => .int _)))
 (jss_one (js_if (j_cmpT op_ge ro_ge (j_callB call_abs rc_abs rfl T.z_abs (by decide +kernel) (ja_cons (j_var 2) ja_nil)) (j_pow (j_c pe_int fun _ _ => .int _) (j_c pe_int fun _ _ => .int _)) (nomark _))
 (jss_one (js_setIx (j_var 0) (j_c pe_int fun _ _ => .int _) (j_callB call_abs rc_abs rfl T.z_abs (by decide +kernel) (ja_cons (j_var 2) ja_nil))))
 (jss_cons (js_set (i := 3) sc_L_pull.nd rfl (Or.inl rfl) (j_add (j_mul' (j_mod (j_callTy (callr_or call_int1 call_int_str) rc_int rfl T.z_int (by decide +kernel) (ja_cons (j_var 2) ja_nil)) (j_c pe_int fun _ _ => .int _)) (j_c pe_int fun _ _ => .int _)) (j_c pe_int fun _ _ => .int _)))
 (jss_one (js_setIx (j_var 0) (j_c pe_int fun _ _ => .int _) (j_mod (j_callTy (callr_or call_int1 call_int_str) rc_int rfl T.z_int (by decide +kernel) (ja_cons (j_add (j_mul' (j_ixA (j_var 0) (j_c pe_int fun _ _ => .int _) (fun _ _ => rfl)) (j_c pe_int fun _ _ => .int _)) (j_var 3)) ja_nil)) (j_c pe_int fun _ _ => .int _)))))))))
 jss_nil)
 (jss_cons (js_if (j_cmpT opGt roGt (j_ixA (j_var 0) (j_c pe_int fun _ _ => .int _) (fun _ _ => rfl)) (j_c pe_int fun _ _ => .int _) (nomark _))
 (jss_cons (js_set (i := 4) sc_L_pull.nd rfl (Or.inl rfl) (j_mod (j_callTy (callr_or call_int1 call_int_str) rc_int rfl T.z_int (by decide +kernel) (ja_cons (j_ixA (j_var 0) (j_c pe_int fun _ _ => .int _) (fun _ _ => rfl)) ja_nil)) (j_var 1)))
 (jss_cons (js_setIx (j_var 0) (j_c pe_int fun _ _ => .int _) (j_fdiv (j_ixA (j_var 0) (j_c pe_int fun _ _ => .int _) (fun _ _ => rfl)) (j_var 1)))
 (jss_one (js_ret (j_var 4)))))
 jss_nil)
 (jss_cons (js_set (i := 5) sc_L_pull.nd rfl (Or.inl rfl) (j_ixA (j_var 0) (j_c pe_int fun _ _ => .int _) (fun _ _ => rfl)))
 (jss_cons (js_set (i := 6) sc_L_pull.nd rfl (Or.inl rfl) (j_add (j_add (j_mul' (j_var 5) (j_c pe_int fun _ _ => .int _)) (j_mul' (j_ixA (j_var 0) (j_c pe_int fun _ _ => .int _) (fun _ _ => rfl)) (j_c pe_int fun _ _ => .int _))) (j_c pe_int fun _ _ => .int _)))
 (jss_cons (js_setIx (j_var 0) (j_c pe_int fun _ _ => .int _) (j_mod (j_callTy (callr_or call_int1 call_int_str) rc_int rfl T.z_int (by decide +kernel) (ja_cons (j_add (j_mul' (j_mul' (j_var 5) (j_var 5)) (j_c pe_int fun _ _ => .int _)) (j_var 6)) ja_nil)) (j_c pe_int fun _ _ => .int _)))
 (jss_one (js_ret (j_mod (j_callTy (callr_or call_int1 call_int_str) rc_int rfl T.z_int (by decide +kernel) (ja_cons (j_add (j_fdiv (j_ixA (j_var 0) (j_c pe_int fun _ _ => .int _) (fun _ _ => rfl)) (j_c pe_int fun _ _ => .int _)) (j_mul' (j_mod (j_callTy (callr_or call_int1 call_int_str) rc_int rfl T.z_int (by decide +kernel) (ja_cons (j_ixA (j_var 0) (j_c pe_int fun _ _ => .int _) (fun _ _ => rfl)) ja_nil)) (j_c pe_int fun _ _ => .int _)) (j_c pe_int fun _ _ => .int _))) ja_nil)) (j_var 1))))))))))
def m_L_of : GS :=
 (sRet (e2 uIx (eVar 1) (eCallM 2 g_L_pull [] (aCons (eVar 0) (aCons (eB (f1W bLen) (aCons (eVar 1) aNil)) aNil)))))
def g_L_of : MFn := runM 2 m_L_of
theorem ok_L_of {P : Program} {w : World} {K : PySem.W.Frag} {mg : Str → Option Value} {base : Heap} {cl : Cl} {fa pa : Nat → Addr} {mc : Nat → Value} {fd : FuncData} (T : Tx K mg cl fa pa mc) (F : Fun K "_law_of" "_law_of" s_L_of (fa 25) fd)
    {fd_L_pull : FuncData} (h_L_pull : FnM P w K mg base cl 1 (fa 24) fd_L_pull ["_law_bag_here", "_law_many"] g_L_pull) (b_L_pull : Binds K fd_L_pull ["_law_bag_here", "_law_many"] []) :
    FnM P w K mg base cl 2 (fa 25) fd ["_law_bag_here", "_law_things"] g_L_of := by
  refine fn_st F sc_L_of fun cdv A outer s H E hr => ?_
  have r_L_pull : Room 1 _ := hr.mono (by decide)
  exact (jss_one (js_ret (j_ixA (j_var 1) (j_callM h_L_pull r_L_pull rfl T.g_L_pull T.k_L_pull b_L_pull .nil rn0 tkD (ja_cons (j_var 0) (ja_cons (j_callB call_len rc_len rfl T.z_len (by decide +kernel) (ja_cons (j_var 1) ja_nil)) ja_nil))) (fun _ _ => rfl))))
def m_is_whole : GS :=
 (sRet (eAnd (eB (bIsi subC 1) (aCons (eVar 0) (aCons (eC (.ty "int")) aNil))) (eNot (eB (bIsi subC 1) (aCons (eVar 0) (aCons (eC (.ty "bool")) aNil))))))
def g_is_whole : PFn := runP 1 m_is_whole
theorem ok_is_whole {P : Program} {w : World} {K : PySem.W.Frag} {mg : Str → Option Value} {base : Heap} {cl : Cl} {fa pa : Nat → Addr} {mc : Nat → Value} {fd : FuncData} (T : Tx K mg cl fa pa mc) (F : Fun K "is_whole" "is_whole" s_is_whole (fa 3) fd) :
    FnG P w K mg base cl 1 (fa 3) fd ["value"] g_is_whole := by
  refine fn_pure F sc_is_whole fun cdv A outer s H E hr => ?_
  exact (jss_one (js_ret (j_and (j_callB (callr_or call_isi (callr_or call_isiT call_isiK)) (rc_isi T.wd) rfl T.z_isinstance (by decide +kernel) (ja_cons (j_var 0) (ja_cons (j_c (pe_bltn (v := .ty "int") rfl T.z_int (by decide +kernel) rfl) fun _ _ => .ty _) ja_nil))) (j_one (j_not (j_callB (callr_or call_isi (callr_or call_isiT call_isiK)) (rc_isi T.wd) rfl T.z_isinstance (by decide +kernel) (ja_cons (j_var 0) (ja_cons (j_c (pe_bltn (v := .ty "bool") rfl T.z_bool (by decide +kernel) rfl) fun _ _ => .ty _) ja_nil))))))))
def m_Ratio_D_initD_ : GS :=
 (sSeq (sIf (gNot (gTest (eCall 1 g_is_whole [] (aCons (eVar 1) aNil))))
 (sRaise 2 1 fs_InvalidNumber (aCons (eVar 1) aNil))
 sNext)
 (sSeq (sIf (gOr (gNot (gTest (eCall 1 g_is_whole [] (aCons (eVar 2) aNil)))) (gTest (e2 uEq (eVar 2) (eC (.int 0)))))
 (sRaise 2 1 fs_InvalidNumber (aCons (eVar 2) aNil))
 sNext)
 (sSeq (sSet 3 (eB bGcd (aCons (eVar 1) (aCons (eVar 2) aNil))))
 (sSeq (sIf (gTest (e2 uLt (eVar 2) (eC (.int 0))))
 (sSet 3 (e1 (f1P iNeg) (eVar 3)))
 sNext)
 (sSeq (sFldD [0] "top" (eVar 0) (e2 (fP iFdiv) (eVar 1) (eVar 3)))
 (sFldD [0] "bottom" (eVar 0) (e2 (fP iFdiv) (eVar 2) (eVar 3))))))))
def g_Ratio_D_initD_ : MFn := runM 4 m_Ratio_D_initD_
theorem ok_Ratio_D_initD_ {P : Program} {w : World} {K : PySem.W.Frag} {mg : Str → Option Value} {base : Heap} {cl : Cl} {fa pa : Nat → Addr} {mc : Nat → Value} {fd : FuncData} {dvs : List V} {kws : List (Str × V)} (T : Tx K mg cl fa pa mc) (F : FunD K "__init__" "Ratio.__init__" (defArgs s_Ratio_D_initD_) (defBody s_Ratio_D_initD_) (defScope s_Ratio_D_initD_) dvs kws (fa 6) fd)
    {fd_is_whole : FuncData} (h_is_whole : FnG P w K mg base cl 1 (fa 3) fd_is_whole ["value"] g_is_whole) (b_is_whole : Binds K fd_is_whole ["value"] [])
    {fd_InvalidNumber_D_initD_ : FuncData} (h_InvalidNumber_D_initD_ : FnOk P w K mg base CX0 1 (fa 1) fd_InvalidNumber_D_initD_ ["self", "given"] (spErrG (cl 2) 1 fv_InvalidNumber)) (b_InvalidNumber_D_initD_ : Binds K fd_InvalidNumber_D_initD_ ["self", "given"] []) :
    FnM P w K mg base cl 3 (fa 6) fd ["self", "top", "bottom"] g_Ratio_D_initD_ := by
  refine fn_stD F sc_Ratio_D_initD_ fun cdv A outer s H E hr => ?_
  have r_is_whole : Room 1 _ := hr.mono (by decide)
  have r1_InvalidNumber_D_initD_ : Room 2 _ := hr.mono (by decide)
  exact (jss_cons (js_if (jt_not (j_val (j_call h_is_whole r_is_whole rfl T.g_is_whole T.k_is_whole b_is_whole .nil rn0 tkD (ja_cons (j_var 1) ja_nil))))
 (jss_one (js_raise (fv := fv_InvalidNumber) (fs := fs_InvalidNumber) hfs_InvalidNumber rfl tkD T.x_InvalidNumber T.i_InvalidNumber T.t_InvalidNumber h_InvalidNumber_D_initD_ r1_InvalidNumber_D_initD_ b_InvalidNumber_D_initD_ rfl T.g_InvalidNumber (ja_cons (j_var 1) ja_nil)))
 jss_nil)
 (jss_cons (js_if (JW.pt (jw_or (jt_not (j_val (j_call h_is_whole r_is_whole rfl T.g_is_whole T.k_is_whole b_is_whole .nil rn0 tkD (ja_cons (j_var 2) ja_nil)))) (jw_or1 (j_cmpT (opEq (hu64 hr)) roEq (j_var 2) (j_c pe_int fun _ _ => .int _) (nomark _)))))
 (jss_one (js_raise (fv := fv_InvalidNumber) (fs := fs_InvalidNumber) hfs_InvalidNumber rfl tkD T.x_InvalidNumber T.i_InvalidNumber T.t_InvalidNumber h_InvalidNumber_D_initD_ r1_InvalidNumber_D_initD_ b_InvalidNumber_D_initD_ rfl T.g_InvalidNumber (ja_cons (j_var 2) ja_nil)))
 jss_nil)
 (jss_cons (js_set (i := 3) sc_Ratio_D_initD_.nd rfl (Or.inl rfl) (j_callBf cr_gcd rc_gcd rfl T.gcd (ja_cons (j_var 1) (ja_cons (j_var 2) ja_nil))))
 (jss_cons (js_if (j_cmpT opLt roLt (j_var 2) (j_c pe_int fun _ _ => .int _) (nomark _))
 (jss_one (js_set (i := 3) sc_Ratio_D_initD_.nd rfl (Or.inl rfl) (j_un un_neg ru_neg (j_var 3))))
 jss_nil)
 (jss_cons (js_fld (cs := [0]) (fun c hc => by obtain rfl := List.mem_singleton.mp hc; exact ⟨T.c_Ratio, T.n_Ratio_top⟩) (j_var 0) (j_fdiv (j_var 1) (j_var 3)))
 (jss_one (js_fld (cs := [0]) (fun c hc => by obtain rfl := List.mem_singleton.mp hc; exact ⟨T.c_Ratio, T.n_Ratio_bottom⟩) (j_var 0) (j_fdiv (j_var 2) (j_var 3)))))))))
def m_ratio_of : GS :=
 (sSeq (sIf (gTest (eB (bIsi subC 1) (aCons (eVar 0) (aCons (eC (.gl 0)) aNil))))
 (sRet (eVar 0))
 sNext)
 (sSeq (sIf (gNot (gTest (eCall 1 g_is_whole [] (aCons (eVar 0) aNil))))
 (sRaise 2 1 fs_InvalidNumber (aCons (eVar 0) aNil))
 sNext)
 (sRet (eMake 2 0 g_Ratio_D_initD_ [.int 1] (aCons (eVar 0) aNil)))))
def g_ratio_of : PFn := runP 1 m_ratio_of
theorem ok_ratio_of {P : Program} {w : World} {K : PySem.W.Frag} {mg : Str → Option Value} {base : Heap} {cl : Cl} {fa pa : Nat → Addr} {mc : Nat → Value} {fd : FuncData} (T : Tx K mg cl fa pa mc) (F : Fun K "ratio_of" "ratio_of" s_ratio_of (fa 5) fd)
    {fd_Ratio_D_initD_ : FuncData} (h_Ratio_D_initD_ : FnM P w K mg base cl 3 (fa 6) fd_Ratio_D_initD_ ["self", "top", "bottom"] g_Ratio_D_initD_) (b_Ratio_D_initD_ : Binds K fd_Ratio_D_initD_ ["self", "top", "bottom"] [])
    {fd_is_whole : FuncData} (h_is_whole : FnG P w K mg base cl 1 (fa 3) fd_is_whole ["value"] g_is_whole) (b_is_whole : Binds K fd_is_whole ["value"] [])
    {fd_InvalidNumber_D_initD_ : FuncData} (h_InvalidNumber_D_initD_ : FnOk P w K mg base CX0 1 (fa 1) fd_InvalidNumber_D_initD_ ["self", "given"] (spErrG (cl 2) 1 fv_InvalidNumber)) (b_InvalidNumber_D_initD_ : Binds K fd_InvalidNumber_D_initD_ ["self", "given"] [])
    {ds_b2_Ratio_D_initD_ : List Value} (b2_Ratio_D_initD_ : Vals [.int 1] ds_b2_Ratio_D_initD_ ∧ Binds K fd_Ratio_D_initD_ ["self", "top", "bottom"] ds_b2_Ratio_D_initD_) :
    FnG P w K mg base cl 5 (fa 5) fd ["value"] g_ratio_of := by
  refine fn_pure F sc_ratio_of fun cdv A outer s H E hr => ?_
  have r1_Ratio_D_initD_ : Room 4 _ := hr.mono (by decide)
  have r_is_whole : Room 1 _ := hr.mono (by decide)
  have r1_InvalidNumber_D_initD_ : Room 2 _ := hr.mono (by decide)
  exact (jss_cons (js_if (j_val (j_callB (callr_or call_isi (callr_or call_isiT call_isiK)) (rc_isi T.wd) rfl T.z_isinstance (by decide +kernel) (ja_cons (j_var 0) (ja_cons (j_c (pe_glob (v := .ref (cl 0)) rfl T.g_Ratio rfl) fun _ _ => .gl 0) ja_nil))))
 (jss_one (js_ret (j_var 0)))
 jss_nil)
 (jss_cons (js_if (jt_not (j_val (j_call h_is_whole r_is_whole rfl T.g_is_whole T.k_is_whole b_is_whole .nil rn0 tkD (ja_cons (j_var 0) ja_nil))))
 (jss_one (js_raise (fv := fv_InvalidNumber) (fs := fs_InvalidNumber) hfs_InvalidNumber rfl tkD T.x_InvalidNumber T.i_InvalidNumber T.t_InvalidNumber h_InvalidNumber_D_initD_ r1_InvalidNumber_D_initD_ b_InvalidNumber_D_initD_ rfl T.g_InvalidNumber (ja_cons (j_var 0) ja_nil)))
 jss_nil)
 (jss_one (js_ret (j_make (n := 2) T.mk_Ratio h_Ratio_D_initD_ r1_Ratio_D_initD_ rfl T.g_Ratio b2_Ratio_D_initD_.2 b2_Ratio_D_initD_.1 (fun _ _ => (.cons (.int _) .nil)) hxD (ja_cons (j_var 0) ja_nil))))))
def m_is_number : GS :=
 (sRet (eOr (eCall 1 g_is_whole [] (aCons (eVar 0) aNil)) (eB (bIsi subC 1) (aCons (eVar 0) (aCons (eC (.gl 0)) aNil)))))
def g_is_number : PFn := runP 1 m_is_number
theorem ok_is_number {P : Program} {w : World} {K : PySem.W.Frag} {mg : Str → Option Value} {base : Heap} {cl : Cl} {fa pa : Nat → Addr} {mc : Nat → Value} {fd : FuncData} (T : Tx K mg cl fa pa mc) (F : Fun K "is_number" "is_number" s_is_number (fa 4) fd)
    {fd_is_whole : FuncData} (h_is_whole : FnG P w K mg base cl 1 (fa 3) fd_is_whole ["value"] g_is_whole) (b_is_whole : Binds K fd_is_whole ["value"] []) :
    FnG P w K mg base cl 2 (fa 4) fd ["value"] g_is_number := by
  refine fn_pure F sc_is_number fun cdv A outer s H E hr => ?_
  have r_is_whole : Room 1 _ := hr.mono (by decide)
  exact (jss_one (js_ret (j_or (j_call h_is_whole r_is_whole rfl T.g_is_whole T.k_is_whole b_is_whole .nil rn0 tkD (ja_cons (j_var 0) ja_nil)) (j_one (j_callB (callr_or call_isi (callr_or call_isiT call_isiK)) (rc_isi T.wd) rfl T.z_isinstance (by decide +kernel) (ja_cons (j_var 0) (ja_cons (j_c (pe_glob (v := .ref (cl 0)) rfl T.g_Ratio rfl) fun _ _ => .gl 0) ja_nil)))))))
def m_Ratio_D_eqD_ : GS :=
 (sSeq (sIf (gNot (gTest (eCall 1 g_is_number [] (aCons (eVar 1) aNil))))
 (sRet (eC (.bl false)))
 sNext)
 (sSeq (sSet 2 (eCall 1 g_ratio_of [] (aCons (eVar 1) aNil)))
 (sRet (eAnd (e2 uEq (e1 (fFld [0] "top") (eVar 0)) (e1 (fFld [0] "top") (eVar 2))) (e2 uEq (e1 (fFld [0] "bottom") (eVar 0)) (e1 (fFld [0] "bottom") (eVar 2)))))))
def g_Ratio_D_eqD_ : PFn := runP 3 m_Ratio_D_eqD_
theorem ok_Ratio_D_eqD_ {P : Program} {w : World} {K : PySem.W.Frag} {mg : Str → Option Value} {base : Heap} {cl : Cl} {fa pa : Nat → Addr} {mc : Nat → Value} {fd : FuncData} (T : Tx K mg cl fa pa mc) (F : Fun K "__eq__" "Ratio.__eq__" s_Ratio_D_eqD_ (fa 18) fd)
    {fd_ratio_of : FuncData} (h_ratio_of : FnG P w K mg base cl 5 (fa 5) fd_ratio_of ["value"] g_ratio_of) (b_ratio_of : Binds K fd_ratio_of ["value"] [])
    {fd_is_number : FuncData} (h_is_number : FnG P w K mg base cl 2 (fa 4) fd_is_number ["value"] g_is_number) (b_is_number : Binds K fd_is_number ["value"] []) :
    FnG P w K mg base cl 6 (fa 18) fd ["self", "other"] g_Ratio_D_eqD_ := by
  refine fn_pure F sc_Ratio_D_eqD_ fun cdv A outer s H E hr => ?_
  have r_ratio_of : Room 5 _ := hr.mono (by decide)
  have r_is_number : Room 2 _ := hr.mono (by decide)
  exact (jss_cons (js_if (jt_not (j_val (j_call h_is_number r_is_number rfl T.g_is_number T.k_is_number b_is_number .nil rn0 tkD (ja_cons (j_var 1) ja_nil))))
 (jss_one (js_ret (j_c pe_bl fun _ _ => .bl _)))
 jss_nil)
 (jss_cons (js_set (i := 2) sc_Ratio_D_eqD_.nd rfl (Or.inl rfl) (j_call h_ratio_of r_ratio_of rfl T.g_ratio_of T.k_ratio_of b_ratio_of .nil rn0 tkD (ja_cons (j_var 1) ja_nil)))
 (jss_one (js_ret (j_and (j_cmp (opEq (hu64 hr)) roEq (j_fld (cs := [0]) (fun c hc => by obtain rfl := List.mem_singleton.mp hc; exact ⟨T.c_Ratio, T.n_Ratio_top⟩) (j_var 0)) (j_fld (cs := [0]) (fun c hc => by obtain rfl := List.mem_singleton.mp hc; exact ⟨T.c_Ratio, T.n_Ratio_top⟩) (j_var 2)) (nomark _)) (j_one (j_cmp (opEq (hu64 hr)) roEq (j_fld (cs := [0]) (fun c hc => by obtain rfl := List.mem_singleton.mp hc; exact ⟨T.c_Ratio, T.n_Ratio_bottom⟩) (j_var 0)) (j_fld (cs := [0]) (fun c hc => by obtain rfl := List.mem_singleton.mp hc; exact ⟨T.c_Ratio, T.n_Ratio_bottom⟩) (j_var 2)) (nomark _))))))))
def m_L_pair : GS :=
 (sSeq (sIf (gNot (gTest (eB (bIsi subC 1) (aCons (eVar 0) (aCons (eC (.gl 0)) aNil)))))
 (sRet (eC .non))
 sNext)
 (sSeq (sSet 1 (eLc (iAny (eLst (aCons (e1 (fFld [0] "top") (eVar 0)) (aCons (e1 (fFld [0] "bottom") (eVar 0)) aNil)))) (tName 2) gYes (eAnd (eB (bIsi subC 1) (aCons (eVar 2) (aCons (eC (.ty "int")) aNil))) (eNot (eB (bIsi subC 1) (aCons (eVar 2) (aCons (eC (.ty "bool")) aNil))))) [2]))
 (sRet (eIf (gTest (e2 uEq (eVar 1) (eLst (aCons (eC (.bl true)) (aCons (eC (.bl true)) aNil))))) (eTup (aCons (e1 (fFld [0] "top") (eVar 0)) (aCons (e1 (fFld [0] "bottom") (eVar 0)) aNil))) (eC .non)))))
def g_L_pair : PFn := runP 3 m_L_pair
theorem ok_L_pair {P : Program} {w : World} {K : PySem.W.Frag} {mg : Str → Option Value} {base : Heap} {cl : Cl} {fa pa : Nat → Addr} {mc : Nat → Value} {fd : FuncData} (T : Tx K mg cl fa pa mc) (F : Fun K "_law_pair" "_law_pair" s_L_pair (fa 32) fd) :
    FnG P w K mg base cl 1 (fa 32) fd ["_law_found"] g_L_pair := by
  refine fn_pure F sc_L_pair fun cdv A outer s H E hr => ?_
  exact (jss_cons (js_if (jt_not (j_val (j_callB (callr_or call_isi (callr_or call_isiT call_isiK)) (rc_isi T.wd) rfl T.z_isinstance (by decide +kernel) (ja_cons (j_var 0) (ja_cons (j_c (pe_glob (v := .ref (cl 0)) rfl T.g_Ratio rfl) fun _ _ => .gl 0) ja_nil)))))
 (jss_one (js_ret (j_c pe_non fun _ _ => .non)))
 jss_nil)
 (jss_cons (js_setLc (i := 1) (own := [("_law_part", 2)]) (g := (gName 2)) rfl sc_L_pair.nd rfl rfl (by rfl) (ji_any (j_lst (ja_cons (j_fld (cs := [0]) (fun c hc => by obtain rfl := List.mem_singleton.mp hc; exact ⟨T.c_Ratio, T.n_Ratio_top⟩) (j_var 0)) (ja_cons (j_fld (cs := [0]) (fun c hc => by obtain rfl := List.mem_singleton.mp hc; exact ⟨T.c_Ratio, T.n_Ratio_bottom⟩) (j_var 0)) ja_nil)))) (blkOk_by (own := [("_law_part", 2)]) (N := ["_law_found", "_law_whole", "_law_part"]) (sc := defScope s_L_pair) (by decide +kernel)) (fun _ _ _ _ _ => (pg_name (i := 2) sc_L_pair.nd rfl (Or.inl rfl))) (fgw_name 2 (by decide)) (fun _ _ _ _ _ => jts_nil) (fun _ _ _ _ _ => (j_and (j_callB (callr_or call_isi (callr_or call_isiT call_isiK)) (rc_isi T.wd) rfl T.z_isinstance (by decide +kernel) (ja_cons (j_var 2) (ja_cons (j_c (pe_bltn (v := .ty "int") rfl T.z_int (by decide +kernel) rfl) fun _ _ => .ty _) ja_nil))) (j_one (j_not (j_callB (callr_or call_isi (callr_or call_isiT call_isiK)) (rc_isi T.wd) rfl T.z_isinstance (by decide +kernel) (ja_cons (j_var 2) (ja_cons (j_c (pe_bltn (v := .ty "bool") rfl T.z_bool (by decide +kernel) rfl) fun _ _ => .ty _) ja_nil))))))))
 (jss_one (js_ret (j_if (j_cmpT (opEq (hu64 hr)) roEq (j_var 1) (j_lst (ja_cons (j_c pe_bl fun _ _ => .bl _) (ja_cons (j_c pe_bl fun _ _ => .bl _) ja_nil))) (nomark _)) (j_tup (ja_cons (j_fld (cs := [0]) (fun c hc => by obtain rfl := List.mem_singleton.mp hc; exact ⟨T.c_Ratio, T.n_Ratio_top⟩) (j_var 0)) (ja_cons (j_fld (cs := [0]) (fun c hc => by obtain rfl := List.mem_singleton.mp hc; exact ⟨T.c_Ratio, T.n_Ratio_bottom⟩) (j_var 0)) ja_nil))) (j_c pe_non fun _ _ => .non))))))
def m_digits_of : GS :=
 (sSeq (sPar3 1 2 3 (aCons (e2 (fP iPow) (eC (.int 10)) (eC (.int 60))) (aCons (eB (f1V bAbs) (aCons (eVar 0) aNil)) (aCons (eC (.str "")) aNil))))
 (sSeq (sWhile (fun _ _ => 1) (gTest (e2 (fP iGe) (eVar 2) (eVar 1)))
 sBad)
 (sRet (eJoined [(eFmt (eIf (gTest (e2 uLt (eVar 0) (eC (.int 0)))) (eC (.str "-")) (eC (.str "")))), (eFmt (eVar 2)), (eFmt (eVar 3))]))))
def g_digits_of : PFn := runP 4 m_digits_of
theorem ok_digits_of {P : Program} {w : World} {K : PySem.W.Frag} {mg : Str → Option Value} {base : Heap} {cl : Cl} {fa pa : Nat → Addr} {mc : Nat → Value} {fd : FuncData} (T : Tx K mg cl fa pa mc) (F : Fun K "digits_of" "digits_of" s_digits_of (fa 22) fd) :
    FnG P w K mg base cl 1 (fa 22) fd ["number"] g_digits_of := by
  refine fn_pure F sc_digits_of fun cdv A outer s H E hr => ?_
  exact (jss_cons (js_par3 (i := 1) (j := 2) (l := 3) (by rfl) sc_digits_of.nd rfl rfl rfl (by decide) (by decide) (by decide) rfl rfl rfl (ja_cons (j_pow (j_c pe_int fun _ _ => .int _) (j_c pe_int fun _ _ => .int _)) (ja_cons (j_callB call_abs rc_abs rfl T.z_abs (by decide +kernel) (ja_cons (j_var 0) ja_nil)) (ja_cons (j_c pe_str fun _ _ => .str _) ja_nil))) (by rfl))
 (jss_cons (js_while (fun _ _ => 1) poD (j_cmpT op_ge ro_ge (j_var 2) (j_var 1) (nomark _))
 jss_bad)
 (jss_one (js_ret (j_joined (JJ.cons (j_fmt (j_if (j_cmpT opLt roLt (j_var 0) (j_c pe_int fun _ _ => .int _) (nomark _)) (j_c pe_str fun _ _ => .str _) (j_c pe_str fun _ _ => .str _))) (JJ.cons (j_fmt (j_var 2)) (JJ.cons (j_fmt (j_var 3)) JJ.nil))))))))
def m_Ratio_D_strD_ : GS :=
 (sSeq (sIf (gTest (e2 uEq (e1 (fFld [0] "bottom") (eVar 0)) (eC (.int 1))))
 (sRet (eB (f1V bStr) (aCons (eCall 1 g_digits_of [] (aCons (e1 (fFld [0] "top") (eVar 0)) aNil)) aNil)))
 sNext)
 (sRet (eJoined [(eFmt (eCall 1 g_digits_of [] (aCons (e1 (fFld [0] "top") (eVar 0)) aNil))), (eC (.str "/")), (eFmt (eCall 1 g_digits_of [] (aCons (e1 (fFld [0] "bottom") (eVar 0)) aNil)))])))
def g_Ratio_D_strD_ : PFn := runP 1 m_Ratio_D_strD_
theorem ok_Ratio_D_strD_ {P : Program} {w : World} {K : PySem.W.Frag} {mg : Str → Option Value} {base : Heap} {cl : Cl} {fa pa : Nat → Addr} {mc : Nat → Value} {fd : FuncData} (T : Tx K mg cl fa pa mc) (F : Fun K "__str__" "Ratio.__str__" s_Ratio_D_strD_ (fa 19) fd)
    {fd_digits_of : FuncData} (h_digits_of : FnG P w K mg base cl 1 (fa 22) fd_digits_of ["number"] g_digits_of) (b_digits_of : Binds K fd_digits_of ["number"] []) :
    FnG P w K mg base cl 2 (fa 19) fd ["self"] g_Ratio_D_strD_ := by
  refine fn_pure F sc_Ratio_D_strD_ fun cdv A outer s H E hr => ?_
  have r_digits_of : Room 1 _ := hr.mono (by decide)
  exact (jss_cons (js_if (j_cmpT (opEq (hu64 hr)) roEq (j_fld (cs := [0]) (fun c hc => by obtain rfl := List.mem_singleton.mp hc; exact ⟨T.c_Ratio, T.n_Ratio_bottom⟩) (j_var 0)) (j_c pe_int fun _ _ => .int _) (nomark _))
 (jss_one (js_ret (j_callTy (callr_or call_str_int SkE.call_str_str) rc_str rfl T.z_str (by decide +kernel) (ja_cons (j_call h_digits_of r_digits_of rfl T.g_digits_of T.k_digits_of b_digits_of .nil rn0 tkD (ja_cons (j_fld (cs := [0]) (fun c hc => by obtain rfl := List.mem_singleton.mp hc; exact ⟨T.c_Ratio, T.n_Ratio_top⟩) (j_var 0)) ja_nil)) ja_nil))))
 jss_nil)
 (jss_one (js_ret (j_joined (JJ.cons (j_fmt (j_call h_digits_of r_digits_of rfl T.g_digits_of T.k_digits_of b_digits_of .nil rn0 tkD (ja_cons (j_fld (cs := [0]) (fun c hc => by obtain rfl := List.mem_singleton.mp hc; exact ⟨T.c_Ratio, T.n_Ratio_top⟩) (j_var 0)) ja_nil))) (JJ.cons (j_c pe_str fun _ _ => .str _) (JJ.cons (j_fmt (j_call h_digits_of r_digits_of rfl T.g_digits_of T.k_digits_of b_digits_of .nil rn0 tkD (ja_cons (j_fld (cs := [0]) (fun c hc => by obtain rfl := List.mem_singleton.mp hc; exact ⟨T.c_Ratio, T.n_Ratio_bottom⟩) (j_var 0)) ja_nil))) JJ.nil)))))))
def m_L_ratio : GS :=
 (sRet (eMake 2 0 g_Ratio_D_initD_ [] (aCons (e2 uIx (eVar 0) (eC (.int 0))) (aCons (e2 uIx (eVar 0) (eC (.int 1))) aNil))))
def g_L_ratio : PFn := runP 1 m_L_ratio
theorem ok_L_ratio {P : Program} {w : World} {K : PySem.W.Frag} {mg : Str → Option Value} {base : Heap} {cl : Cl} {fa pa : Nat → Addr} {mc : Nat → Value} {fd : FuncData} (T : Tx K mg cl fa pa mc) (F : Fun K "_law_ratio" "_law_ratio" s_L_ratio (fa 33) fd)
    {fd_Ratio_D_initD_ : FuncData} (h_Ratio_D_initD_ : FnM P w K mg base cl 3 (fa 6) fd_Ratio_D_initD_ ["self", "top", "bottom"] g_Ratio_D_initD_) (b_Ratio_D_initD_ : Binds K fd_Ratio_D_initD_ ["self", "top", "bottom"] []) :
    FnG P w K mg base cl 5 (fa 33) fd ["_law_pair_here"] g_L_ratio := by
  refine fn_pure F sc_L_ratio fun cdv A outer s H E hr => ?_
  have r1_Ratio_D_initD_ : Room 4 _ := hr.mono (by decide)
  exact (jss_one (js_ret (j_make (n := 2) T.mk_Ratio h_Ratio_D_initD_ r1_Ratio_D_initD_ rfl T.g_Ratio b_Ratio_D_initD_ .nil rn0 hxD (ja_cons (j_ixA (j_var 0) (j_c pe_int fun _ _ => .int _) (fun _ _ => rfl)) (ja_cons (j_ixA (j_var 0) (j_c pe_int fun _ _ => .int _) (fun _ _ => rfl)) ja_nil)))))
def m_L_pair_text : GS :=
 (sRet (eIf (gTest (e2 uEq (e2 uIx (eVar 0) (eC (.int 1))) (eC (.int 1)))) (eB (f1V bStr) (aCons (e2 uIx (eVar 0) (eC (.int 0))) aNil)) (e2 uAdd (e2 uAdd (eB (f1V bStr) (aCons (e2 uIx (eVar 0) (eC (.int 0))) aNil)) (eC (.str "/"))) (eB (f1V bStr) (aCons (e2 uIx (eVar 0) (eC (.int 1))) aNil)))))
def g_L_pair_text : PFn := runP 1 m_L_pair_text
theorem ok_L_pair_text {P : Program} {w : World} {K : PySem.W.Frag} {mg : Str → Option Value} {base : Heap} {cl : Cl} {fa pa : Nat → Addr} {mc : Nat → Value} {fd : FuncData} (T : Tx K mg cl fa pa mc) (F : Fun K "_law_pair_text" "_law_pair_text" s_L_pair_text (fa 34) fd) :
    FnG P w K mg base cl 1 (fa 34) fd ["_law_pair_here"] g_L_pair_text := by
  refine fn_pure F sc_L_pair_text fun cdv A outer s H E hr => ?_
  exact (jss_one (js_ret (j_if (j_cmpT (opEq (hu64 hr)) roEq (j_ixA (j_var 0) (j_c pe_int fun _ _ => .int _) (fun _ _ => rfl)) (j_c pe_int fun _ _ => .int _) (nomark _)) (j_callTy (callr_or call_str_int SkE.call_str_str) rc_str rfl T.z_str (by decide +kernel) (ja_cons (j_ixA (j_var 0) (j_c pe_int fun _ _ => .int _) (fun _ _ => rfl)) ja_nil)) (j_add (j_add (j_callTy (callr_or call_str_int SkE.call_str_str) rc_str rfl T.z_str (by decide +kernel) (ja_cons (j_ixA (j_var 0) (j_c pe_int fun _ _ => .int _) (fun _ _ => rfl)) ja_nil)) (j_c pe_str fun _ _ => .str _)) (j_callTy (callr_or call_str_int SkE.call_str_str) rc_str rfl T.z_str (by decide +kernel) (ja_cons (j_ixA (j_var 0) (j_c pe_int fun _ _ => .int _) (fun _ _ => rfl)) ja_nil))))))
def m_Ratio_D_reprD_ : GS :=
 (sRet (eJoined [(eC (.str "Ratio(")), (eOrE (eFmt (eVar 0)) (e1 (fStrO 0 g_Ratio_D_strD_) (eVar 0))), (eC (.str ")"))]))
def g_Ratio_D_reprD_ : PFn := runP 1 m_Ratio_D_reprD_
theorem ok_Ratio_D_reprD_ {P : Program} {w : World} {K : PySem.W.Frag} {mg : Str → Option Value} {base : Heap} {cl : Cl} {fa pa : Nat → Addr} {mc : Nat → Value} {fd : FuncData} (T : Tx K mg cl fa pa mc) (F : Fun K "__repr__" "Ratio.__repr__" s_Ratio_D_reprD_ (fa 20) fd)
    {fd_Ratio_D_strD_ : FuncData} (h_Ratio_D_strD_ : FnG P w K mg base cl 2 (fa 19) fd_Ratio_D_strD_ ["self"] g_Ratio_D_strD_) (b_Ratio_D_strD_ : Binds K fd_Ratio_D_strD_ ["self"] []) :
    FnG P w K mg base cl 4 (fa 20) fd ["self"] g_Ratio_D_reprD_ := by
  refine fn_pure F sc_Ratio_D_reprD_ fun cdv A outer s H E hr => ?_
  have r1_Ratio_D_strD_ : Room 3 _ := hr.mono (by decide)
  exact (jss_one (js_ret (j_joined (JJ.cons (j_c pe_str fun _ _ => .str _) (JJ.cons (j_orE (j_fmt (j_var 0)) (j_fmtO (c := 0) h_Ratio_D_strD_ T.s_Ratio_str T.fm_Ratio r1_Ratio_D_strD_ b_Ratio_D_strD_ (j_var 0))) (JJ.cons (j_c pe_str fun _ _ => .str _) JJ.nil))))))
def m_Ratio_whole : GS :=
 (sRet (e2 uEq (e1 (fFld [0] "bottom") (eVar 0)) (eC (.int 1))))
def g_Ratio_whole : PFn := runP 1 m_Ratio_whole
theorem ok_Ratio_whole {P : Program} {w : World} {K : PySem.W.Frag} {mg : Str → Option Value} {base : Heap} {cl : Cl} {fa pa : Nat → Addr} {mc : Nat → Value} {fd : FuncData} (T : Tx K mg cl fa pa mc) (F : Fun K "whole" "Ratio.whole" s_Ratio_whole (fa 7) fd) :
    FnG P w K mg base cl 1 (fa 7) fd ["self"] g_Ratio_whole := by
  refine fn_pure F sc_Ratio_whole fun cdv A outer s H E hr => ?_
  exact (jss_one (js_ret (j_cmp (opEq (hu64 hr)) roEq (j_fld (cs := [0]) (fun c hc => by obtain rfl := List.mem_singleton.mp hc; exact ⟨T.c_Ratio, T.n_Ratio_bottom⟩) (j_var 0)) (j_c pe_int fun _ _ => .int _) (nomark _))))
def m_L_low : GS :=
 (sSeq (sPar 2 3 (aCons (eB (f1V bAbs) (aCons (eVar 0) aNil)) (aCons (eB (f1V bAbs) (aCons (eVar 1) aNil)) aNil)))
 (sSeq (sWhile (fun ρ _ => fuelI 3 ρ) (gTest (e2 uNe (eVar 3) (eC (.int 0))))
 (sPar 2 3 (aCons (eVar 3) (aCons (e2 (fP iMod) (eB (f1V bInt) (aCons (eVar 2) aNil)) (eVar 3)) aNil))))
 (sSeq (sSet 4 (eIf (gTest (e2 uLt (eVar 1) (eC (.int 0)))) (e1 (f1P iNeg) (eC (.int 1))) (eC (.int 1))))
 (sRet (eTup (aCons (e2 (fP iFdiv) (e2 uMul (eVar 4) (eVar 0)) (eVar 2)) (aCons (e2 (fP iFdiv) (e2 uMul (eVar 4) (eVar 1)) (eVar 2)) aNil)))))))
def g_L_low : PFn := runP 5 m_L_low
theorem ok_L_low {P : Program} {w : World} {K : PySem.W.Frag} {mg : Str → Option Value} {base : Heap} {cl : Cl} {fa pa : Nat → Addr} {mc : Nat → Value} {fd : FuncData} (T : Tx K mg cl fa pa mc) (F : Fun K "_law_low" "_law_low" s_L_low (fa 31) fd) :
    FnG P w K mg base cl 1 (fa 31) fd ["_law_top", "_law_bottom"] g_L_low := by
  refine fn_pure F sc_L_low fun cdv A outer s H E hr => ?_
  exact (jss_cons (js_par (i := 2) (j := 3) (by rfl) sc_L_low.nd rfl rfl (by decide) rfl rfl (ja_cons (j_callB call_abs rc_abs rfl T.z_abs (by decide +kernel) (ja_cons (j_var 0) ja_nil)) (ja_cons (j_callB call_abs rc_abs rfl T.z_abs (by decide +kernel) (ja_cons (j_var 1) ja_nil)) ja_nil)) (by rfl))
 (jss_cons (js_while (fun ρ _ => fuelI 3 ρ) poD (j_cmpT (opNe (hu64 hr)) roNe (j_var 3) (j_c pe_int fun _ _ => .int _) (nomark _))
 (jss_one (js_par (i := 2) (j := 3) (by rfl) sc_L_low.nd rfl rfl (by decide) rfl rfl (ja_cons (j_var 3) (ja_cons (j_mod (j_callTy (callr_or call_int1 call_int_str) rc_int rfl T.z_int (by decide +kernel) (ja_cons (j_var 2) ja_nil)) (j_var 3)) ja_nil)) (by rfl))))
 (jss_cons (js_set (i := 4) sc_L_low.nd rfl (Or.inl rfl) (j_if (j_cmpT opLt roLt (j_var 1) (j_c pe_int fun _ _ => .int _) (nomark _)) (j_un un_neg ru_neg (j_c pe_int fun _ _ => .int _)) (j_c pe_int fun _ _ => .int _)))
 (jss_one (js_ret (j_tup (ja_cons (j_fdiv (j_mul' (j_var 4) (j_var 0)) (j_var 2)) (ja_cons (j_fdiv (j_mul' (j_var 4) (j_var 1)) (j_var 2)) ja_nil))))))))
def m_L_small : GS :=
 (sSeq (sSet 1 (eCallM 2 g_L_pull [] (aCons (eVar 0) (aCons (eC (.int 9)) aNil))))
 (sSeq (sIf (gTest (e2 uLt (eVar 1) (eC (.int 7))))
 (sRet (e2 (fP iSub) (eVar 1) (eC (.int 3))))
 sNext)
 (sRet (e2 uMul (e2 (fP iSub) (eC (.int 1)) (e2 uMul (eC (.int 2)) (e2 (fP iMod) (eVar 1) (eC (.int 2))))) (e2 uAdd (eC (.int 4)) (eCallM 2 g_L_pull [] (aCons (eVar 0) (aCons (eC (.int 100000)) aNil))))))))
def g_L_small : MFn := runM 2 m_L_small
theorem ok_L_small {P : Program} {w : World} {K : PySem.W.Frag} {mg : Str → Option Value} {base : Heap} {cl : Cl} {fa pa : Nat → Addr} {mc : Nat → Value} {fd : FuncData} (T : Tx K mg cl fa pa mc) (F : Fun K "_law_small" "_law_small" s_L_small (fa 26) fd)
    {fd_L_pull : FuncData} (h_L_pull : FnM P w K mg base cl 1 (fa 24) fd_L_pull ["_law_bag_here", "_law_many"] g_L_pull) (b_L_pull : Binds K fd_L_pull ["_law_bag_here", "_law_many"] []) :
    FnM P w K mg base cl 2 (fa 26) fd ["_law_bag_here"] g_L_small := by
  refine fn_st F sc_L_small fun cdv A outer s H E hr => ?_
  have r_L_pull : Room 1 _ := hr.mono (by decide)
  exact (jss_cons (js_set (i := 1) sc_L_small.nd rfl (Or.inl rfl) (j_callM h_L_pull r_L_pull rfl T.g_L_pull T.k_L_pull b_L_pull .nil rn0 tkD (ja_cons (j_var 0) (ja_cons (j_c pe_int fun _ _ => .int _) ja_nil))))
 (jss_cons (js_if (j_cmpT opLt roLt (j_var 1) (j_c pe_int fun _ _ => .int _) (nomark _))
 (jss_one (js_ret (j_sub (j_var 1) (j_c pe_int fun _ _ => .int _))))
 jss_nil)
 (jss_one (js_ret (j_mul' (j_sub (j_c pe_int fun _ _ => .int _) (j_mul' (j_c pe_int fun _ _ => .int _) (j_mod (j_var 1) (j_c pe_int fun _ _ => .int _)))) (j_add (j_c pe_int fun _ _ => .int _) (j_callM h_L_pull r_L_pull rfl T.g_L_pull T.k_L_pull b_L_pull .nil rn0 tkD (ja_cons (j_var 0) (ja_cons (j_c pe_int fun _ _ => .int _) ja_nil)))))))))
def m_L_bag : GS :=
 (sRet (eLstM (aCons (eB (f1W bList) (aCons (eSl fSl (eVar 0) oNone (oSome (eC (.int 63)))) aNil)) (aCons (eC (.int 0)) (aCons (eC (.int 0)) (aCons (eC (.int 12004)) (aCons (eC (.int 0)) aNil)))))))
def g_L_bag : MFn := runM 1 m_L_bag
theorem ok_L_bag {P : Program} {w : World} {K : PySem.W.Frag} {mg : Str → Option Value} {base : Heap} {cl : Cl} {fa pa : Nat → Addr} {mc : Nat → Value} {fd : FuncData} (T : Tx K mg cl fa pa mc) (F : Fun K "_law_bag" "_law_bag" s_L_bag (fa 23) fd) :
    FnM P w K mg base cl 1 (fa 23) fd ["_law_script"] g_L_bag := by
  refine fn_st F sc_L_bag fun cdv A outer s H E hr => ?_
  exact (jss_one (js_ret (j_lstM (ja_cons (j_callTy call_list_of rc_list rfl T.z_list (by decide +kernel) (ja_cons (j_sl sl_any rs_sl (j_var 0) jo_none (jo_some (j_c pe_int fun _ _ => .int _))) ja_nil)) (ja_cons (j_c pe_int fun _ _ => .int _) (ja_cons (j_c pe_int fun _ _ => .int _) (ja_cons (j_c pe_int fun _ _ => .int _) (ja_cons (j_c pe_int fun _ _ => .int _) ja_nil))))))))
end Mine
namespace Mine
open PySem PySem.Spec PyProof.Rows L2
def lE0 : { p : Arguments × Expr × Scope × Pos // lamAt (defBody s_law) [1, 12] 0 [0] = .Lambda p.1 p.2.1 p.2.2.1 p.2.2.2 } := ⟨(_, _, _, _), rfl⟩
def lE1 : { p : Arguments × Expr × Scope × Pos // lamAt (defBody s_law) [1, 12] 0 [1] = .Lambda p.1 p.2.1 p.2.2.1 p.2.2.2 } := ⟨(_, _, _, _), rfl⟩
def lE2 : { p : Arguments × Expr × Scope × Pos // lamAt (defBody s_law) [1, 12] 0 [2] = .Lambda p.1 p.2.1 p.2.2.1 p.2.2.2 } := ⟨(_, _, _, _), rfl⟩
def lamEs : List LamD := [⟨lE0.1.1, lE0.1.2.1, lE0.1.2.2.1, false, fun _ => []⟩, ⟨lE1.1.1, lE1.1.2.1, lE1.1.2.2.1, true, fun v => [("_law_a", v)]⟩, ⟨lE2.1.1, lE2.1.2.1, lE2.1.2.2.1, true, fun v => [("_law_b", v)]⟩]
def m_lam0 : GE :=
 (eMake 2 0 g_Ratio_D_initD_ [] (aCons (eVar 11) (aCons (eC (.int 0)) aNil)))
def m_lam1 : GE :=
 (eMake 2 0 g_Ratio_D_initD_ [] (aCons (eVar 12) (aCons (eVar 11) aNil)))
def m_lam2 : GE :=
 (eMakeK 0 2 2 0 g_Ratio_D_initD_ (fun (vs zs : List Dv) => vs ++ ((zs.drop 1).take 1) ++ ((zs.drop 0).take 1)) aNil (aCons (eC (.int 0)) (aCons (eVar 12) aNil)))
def lamMs : List GE := [m_lam0, m_lam1, m_lam2]
def m_law : GS :=
 (sSeq (sSet 1 (eCallM 1 g_L_bag [] (aCons (eVar 0) aNil)))
 (sSeq (sFor (iRange1 (aCons (eC (.int 3)) aNil)) (tName 2)
 (sSeq (sAsg (eTup (aCons (eCallM 1 g_L_small [] (aCons (eVar 1) aNil)) (aCons (e2 uAdd (eC (.int 1)) (eCallM 2 g_L_pull [] (aCons (eVar 1) (aCons (eC (.int 60)) aNil)))) (aCons (e2 uAdd (eC (.int 1)) (eCallM 2 g_L_pull [] (aCons (eVar 1) (aCons (eC (.int 30)) aNil)))) aNil)))) (tTuple 3 (tsCons (tName 12) (tsCons (tName 3) (tsCons (tName 4) tsNil)))))
 (sSeq (sSet 5 (e2 (fP iSub) (eC (.int 1)) (e2 uMul (eC (.int 2)) (eCallM 2 g_L_pull [] (aCons (eVar 1) (aCons (eC (.int 2)) aNil))))))
 (sSeq (sSet 6 (eCall 2 g_L_low [] (aCons (eVar 12) (aCons (eVar 3) aNil))))
 (sSeq (sSet 7 (eMake 2 0 g_Ratio_D_initD_ [] (aCons (e2 uMul (e2 uMul (eVar 12) (eVar 4)) (eVar 5)) (aCons (e2 uMul (e2 uMul (eVar 3) (eVar 4)) (eVar 5)) aNil))))
 (sSeq (sIf (gOr (gTest (e2 (fOr uNe (fEqO 1 0 g_Ratio_D_eqD_ true)) (eCall 1 g_L_pair [] (aCons (eVar 7) aNil)) (eVar 6))) (gNot (gTest (eCall 2 (g_L_same 8) [] (aCons (ePropD 0 g_Ratio_whole (eVar 7)) (aCons (e2 (fOr (fOr uEq (fEqO 1 0 g_Ratio_D_eqD_ false)) (fEqR 0 g_Ratio_D_eqD_)) (e2 uIx (eVar 6) (eC (.int 1))) (eC (.int 1))) aNil))))))
 (sRet (eC (.bl false)))
 sNext)
 (sSeq (sIf (gNot (gTest (eCall 2 (g_L_same 8) [] (aCons (eLst (aCons (eB (fOrV (f1V bStr) (bStrO 0 g_Ratio_D_strD_)) (aCons (eVar 7) aNil)) (aCons (eB (bStrO 0 g_Ratio_D_reprD_) (aCons (eVar 7) aNil)) aNil))) (aCons (eLst (aCons (eCall 1 g_L_pair_text [] (aCons (eVar 6) aNil)) (aCons (e2 uAdd (e2 uAdd (eC (.str "Ratio(")) (eCall 1 g_L_pair_text [] (aCons (eVar 6) aNil))) (eC (.str ")"))) aNil))) aNil)))))
 (sRet (eC (.bl false)))
 sNext)
 (sSeq (sSet 8 (eIf (gTest (e2 (fOr (fOr uEq (fEqO 1 0 g_Ratio_D_eqD_ false)) (fEqR 0 g_Ratio_D_eqD_)) (eCallM 2 g_L_pull [] (aCons (eVar 1) (aCons (eC (.int 2)) aNil))) (eC (.int 0)))) (eCall 1 g_L_ratio [] (aCons (eTup (aCons (e2 uAdd (e2 uIx (eVar 6) (eC (.int 0))) (eC (.int 1))) (aCons (e2 uIx (eVar 6) (eC (.int 1))) aNil))) aNil)) (eMake 2 0 g_Ratio_D_initD_ [] (aCons (e2 uIx (eVar 6) (eC (.int 0))) (aCons (e2 uAdd (e2 uIx (eVar 6) (eC (.int 1))) (eC (.int 1))) aNil)))))
 (sSeq (sSet 9 (eOr (e2 (fOr uNe (fEqO 1 0 g_Ratio_D_eqD_ true)) (e1 (fFld [0] "top") (eVar 8)) (e2 uIx (eVar 6) (eC (.int 0)))) (e2 (fOr uNe (fEqO 1 0 g_Ratio_D_eqD_ true)) (e1 (fFld [0] "bottom") (eVar 8)) (e2 uIx (eVar 6) (eC (.int 1))))))
 (sSeq (sIf (gNot (gTest (eCall 2 (g_L_same 8) [] (aCons (eLst (aCons (e2 (fOr (fOr uEq (fEqO 1 0 g_Ratio_D_eqD_ false)) (fEqR 0 g_Ratio_D_eqD_)) (eVar 7) (eCall 1 g_L_ratio [] (aCons (eVar 6) aNil))) (aCons (e2 (fOr (fOr uEq (fEqO 1 0 g_Ratio_D_eqD_ false)) (fEqR 0 g_Ratio_D_eqD_)) (eVar 7) (eVar 8)) (aCons (e2 (fOr uNe (fEqO 1 0 g_Ratio_D_eqD_ true)) (eVar 7) (eVar 8)) aNil)))) (aCons (eLst (aCons (eC (.bl true)) (aCons (eNot (eVar 9)) (aCons (eVar 9) aNil)))) aNil)))))
 (sRet (eC (.bl false)))
 sNext)
 (sSeq (sIf (gNot (gTest (eCall 2 (g_L_same 8) [] (aCons (eLst (aCons (e2 (fOr (fOr uEq (fEqO 1 0 g_Ratio_D_eqD_ false)) (fEqR 0 g_Ratio_D_eqD_)) (eVar 7) (e2 uIx (eVar 6) (eC (.int 0)))) (aCons (e2 (fOr (fOr uEq (fEqO 1 0 g_Ratio_D_eqD_ false)) (fEqR 0 g_Ratio_D_eqD_)) (e2 uIx (eVar 6) (eC (.int 0))) (eVar 7)) (aCons (e2 (fOr (fOr uEq (fEqO 1 0 g_Ratio_D_eqD_ false)) (fEqR 0 g_Ratio_D_eqD_)) (eVar 7) (eB (fOrV (f1V bStr) (bStrO 0 g_Ratio_D_strD_)) (aCons (e2 uIx (eVar 6) (eC (.int 0))) aNil))) aNil)))) (aCons (eLst (aCons (e2 (fOr (fOr uEq (fEqO 1 0 g_Ratio_D_eqD_ false)) (fEqR 0 g_Ratio_D_eqD_)) (e2 uIx (eVar 6) (eC (.int 1))) (eC (.int 1))) (aCons (e2 (fOr (fOr uEq (fEqO 1 0 g_Ratio_D_eqD_ false)) (fEqR 0 g_Ratio_D_eqD_)) (e2 uIx (eVar 6) (eC (.int 1))) (eC (.int 1))) (aCons (eC (.bl false)) aNil)))) aNil)))))
 (sRet (eC (.bl false)))
 sNext)
 (sSeq (sIf (gOr (gNot (gTest (eCall 2 (g_L_same 8) [] (aCons (eCall 1 g_L_pair [] (aCons (eMake 2 0 g_Ratio_D_initD_ [.int 1] (aCons (eVar 12) aNil)) aNil)) (aCons (eTup (aCons (eVar 12) (aCons (eC (.int 1)) aNil))) aNil))))) (gOr (gTest (e2 (fOr (fOr uEq (fEqO 1 0 g_Ratio_D_eqD_ false)) (fEqR 0 g_Ratio_D_eqD_)) (eMake 2 0 g_Ratio_D_initD_ [.int 1] (aCons (eC (.int 1)) aNil)) (eC (.bl true)))) (gTest (e2 (fOr (fOr uEq (fEqO 1 0 g_Ratio_D_eqD_ false)) (fEqR 0 g_Ratio_D_eqD_)) (eMake 2 0 g_Ratio_D_initD_ [.int 1] (aCons (eC (.int 0)) aNil)) (eC .non)))))
 (sRet (eC (.bl false)))
 sNext)
 (sSeq (sSet 11 (eCallM 2 g_L_of [] (aCons (eVar 1) (aCons (eLst (aCons (eC .non) (aCons (eC (.str "1")) (aCons (eC (.bl true)) (aCons (eLst (aCons (eC (.int 1)) aNil)) (aCons (eTup (aCons (eC (.int 1)) (aCons (eC (.int 2)) aNil))) (aCons (eC (.str "")) aNil))))))) aNil))))
 (sSeq (sSet 10 (eLst (aCons (eLam 0) (aCons (eLam 1) (aCons (eLam 2) aNil)))))
 (sIf (gNot (gTest (eCall 2 (g_L_same 8) [] (aCons (eLc (iAny (eVar 10)) (tName 13) gYes (eWhyB errTab lamMs [13] (eVar 13)) [13]) (aCons (eLst (aCons (eTup (aCons (eC (.str "InvalidNumber")) (aCons (eVar 11) aNil))) (aCons (eTup (aCons (eC (.str "InvalidNumber")) (aCons (eVar 11) aNil))) (aCons (eTup (aCons (eC (.str "InvalidNumber")) (aCons (eC (.int 0)) aNil))) aNil)))) aNil)))))
 (sRet (eC (.bl false)))
 sNext)))))))))))))))
 (sRet (eC (.bl true)))))
def g_law : MFn := runM 14 m_law
theorem ok_law {P : Program} {w : World} {K : PySem.W.Frag} {mg : Str → Option Value} {base : Heap} {cl : Cl} {fa pa : Nat → Addr} {mc : Nat → Value} {cL Pt : Addr} {oc kV doc pm ct : Value} {od an : Option Addr} {osl : Array (Option Value)}
    (lk : K.lookup (fa 35) = some ⟨oc, od, .func (PySem.W.fnOf "law" "law" (defArgs s_law) (defBody s_law) (defScope s_law) .none kV doc pm an (.ref cL) ct), osl⟩) (hcd : PySem.W.codeIn K (.ref cL) "law" = true) (TB : LamX.TabB base mg cL Pt) (hT : cl.tb = [(Pt, ("law.<locals>.<lambda>" : Str))]) (T : ∀ q cells es, Tx K mg (cl.lam q cells es) fa pa mc)
    {fd_L_same : FuncData} (h_L_same : ∀ q cells es, FnG P w K mg base (cl.lam q cells es) 8 (fa 27) fd_L_same ["_law_found", "_law_due"] (g_L_same 8)) (b_L_same : Binds K fd_L_same ["_law_found", "_law_due"] [])
    {fd_L_of : FuncData} (h_L_of : ∀ q cells es, FnM P w K mg base (cl.lam q cells es) 2 (fa 25) fd_L_of ["_law_bag_here", "_law_things"] g_L_of) (b_L_of : Binds K fd_L_of ["_law_bag_here", "_law_things"] [])
    {fd_Ratio_D_eqD_ : FuncData} (h_Ratio_D_eqD_ : ∀ q cells es, FnG P w K mg base (cl.lam q cells es) 6 (fa 18) fd_Ratio_D_eqD_ ["self", "other"] g_Ratio_D_eqD_) (b_Ratio_D_eqD_ : Binds K fd_Ratio_D_eqD_ ["self", "other"] [])
    {fd_Ratio_D_initD_ : FuncData} (h_Ratio_D_initD_ : ∀ q cells es, FnM P w K mg base (cl.lam q cells es) 3 (fa 6) fd_Ratio_D_initD_ ["self", "top", "bottom"] g_Ratio_D_initD_) (b_Ratio_D_initD_ : Binds K fd_Ratio_D_initD_ ["self", "top", "bottom"] [])
    {fd_L_pair : FuncData} (h_L_pair : ∀ q cells es, FnG P w K mg base (cl.lam q cells es) 1 (fa 32) fd_L_pair ["_law_found"] g_L_pair) (b_L_pair : Binds K fd_L_pair ["_law_found"] [])
    {fd_Ratio_D_strD_ : FuncData} (h_Ratio_D_strD_ : ∀ q cells es, FnG P w K mg base (cl.lam q cells es) 2 (fa 19) fd_Ratio_D_strD_ ["self"] g_Ratio_D_strD_) (b_Ratio_D_strD_ : Binds K fd_Ratio_D_strD_ ["self"] [])
    {fd_L_ratio : FuncData} (h_L_ratio : ∀ q cells es, FnG P w K mg base (cl.lam q cells es) 5 (fa 33) fd_L_ratio ["_law_pair_here"] g_L_ratio) (b_L_ratio : Binds K fd_L_ratio ["_law_pair_here"] [])
    {fd_L_pull : FuncData} (h_L_pull : ∀ q cells es, FnM P w K mg base (cl.lam q cells es) 1 (fa 24) fd_L_pull ["_law_bag_here", "_law_many"] g_L_pull) (b_L_pull : Binds K fd_L_pull ["_law_bag_here", "_law_many"] [])
    {fd_L_pair_text : FuncData} (h_L_pair_text : ∀ q cells es, FnG P w K mg base (cl.lam q cells es) 1 (fa 34) fd_L_pair_text ["_law_pair_here"] g_L_pair_text) (b_L_pair_text : Binds K fd_L_pair_text ["_law_pair_here"] [])
    {fd_Ratio_D_reprD_ : FuncData} (h_Ratio_D_reprD_ : ∀ q cells es, FnG P w K mg base (cl.lam q cells es) 4 (fa 20) fd_Ratio_D_reprD_ ["self"] g_Ratio_D_reprD_) (b_Ratio_D_reprD_ : Binds K fd_Ratio_D_reprD_ ["self"] [])
    {fd_Ratio_whole : FuncData} (h_Ratio_whole : ∀ q cells es, FnG P w K mg base (cl.lam q cells es) 1 (fa 7) fd_Ratio_whole ["self"] g_Ratio_whole) (b_Ratio_whole : Binds K fd_Ratio_whole ["self"] [])
    {fd_L_low : FuncData} (h_L_low : ∀ q cells es, FnG P w K mg base (cl.lam q cells es) 1 (fa 31) fd_L_low ["_law_top", "_law_bottom"] g_L_low) (b_L_low : Binds K fd_L_low ["_law_top", "_law_bottom"] [])
    {fd_L_small : FuncData} (h_L_small : ∀ q cells es, FnM P w K mg base (cl.lam q cells es) 2 (fa 26) fd_L_small ["_law_bag_here"] g_L_small) (b_L_small : Binds K fd_L_small ["_law_bag_here"] [])
    {fd_L_bag : FuncData} (h_L_bag : ∀ q cells es, FnM P w K mg base (cl.lam q cells es) 1 (fa 23) fd_L_bag ["_law_script"] g_L_bag) (b_L_bag : Binds K fd_L_bag ["_law_script"] [])
    {ds_b2_Ratio_D_initD_ : List Value} (b2_Ratio_D_initD_ : Vals [.int 1] ds_b2_Ratio_D_initD_ ∧ Binds K fd_Ratio_D_initD_ ["self", "top", "bottom"] ds_b2_Ratio_D_initD_)
    {gg_k1_bottom_top_Ratio_D_initD_ : List Value → List Value → List Value} (k1_bottom_top_Ratio_D_initD_ : KBn K fd_Ratio_D_initD_ ["self", "top", "bottom"] 1 ["bottom", "top"] gg_k1_bottom_top_Ratio_D_initD_ (fun (vs zs : List V) => vs ++ ((zs.drop 1).take 1) ++ ((zs.drop 0).take 1)))
    {fdW fdF : FuncData} (F_why : Fun K "_law_why" "_law_why" s_L_why (fa 30) fdW) (b_why : Binds K fdW ["_law_ask"] []) (h_field : FnE P w K mg base 2 (fa 28) fdF ["_law_e"] (spField K)) (b_field : Binds K fdF ["_law_e"] []) :
    FnOk P w K mg base (L2.CX P w) 9 (fa 35) (PySem.W.fnOf "law" "law" (defArgs s_law) (defBody s_law) (defScope s_law) .none kV doc pm an (.ref cL) ct) ["_law_script"] (spL K cl.tb g_law) := by
  obtain ⟨ocW, odW, kVW, docW, pmW, anW, cdvW, ctW, oslW, rfl, lkW, hcdW⟩ := F_why.ex
  refine fn_lawL (fun L => cl.lam "law.<locals>.<lambda>" (envOfC "law" (defScope s_law) L (fa 35) (.ref cL)).cells lamEs) (fun _ => rfl) lk hcd sc_law fun A outer s H E hr => ?_
  have T := T "law.<locals>.<lambda>" (envOfC "law" (defScope s_law) s.heap.objs.size (fa 35) (.ref cL)).cells lamEs
  have h_L_same := h_L_same "law.<locals>.<lambda>" (envOfC "law" (defScope s_law) s.heap.objs.size (fa 35) (.ref cL)).cells lamEs
  have h_L_of := h_L_of "law.<locals>.<lambda>" (envOfC "law" (defScope s_law) s.heap.objs.size (fa 35) (.ref cL)).cells lamEs
  have h_Ratio_D_eqD_ := h_Ratio_D_eqD_ "law.<locals>.<lambda>" (envOfC "law" (defScope s_law) s.heap.objs.size (fa 35) (.ref cL)).cells lamEs
  have h_Ratio_D_initD_ := h_Ratio_D_initD_ "law.<locals>.<lambda>" (envOfC "law" (defScope s_law) s.heap.objs.size (fa 35) (.ref cL)).cells lamEs
  have h_L_pair := h_L_pair "law.<locals>.<lambda>" (envOfC "law" (defScope s_law) s.heap.objs.size (fa 35) (.ref cL)).cells lamEs
  have h_Ratio_D_strD_ := h_Ratio_D_strD_ "law.<locals>.<lambda>" (envOfC "law" (defScope s_law) s.heap.objs.size (fa 35) (.ref cL)).cells lamEs
  have h_L_ratio := h_L_ratio "law.<locals>.<lambda>" (envOfC "law" (defScope s_law) s.heap.objs.size (fa 35) (.ref cL)).cells lamEs
  have h_L_pull := h_L_pull "law.<locals>.<lambda>" (envOfC "law" (defScope s_law) s.heap.objs.size (fa 35) (.ref cL)).cells lamEs
  have h_L_pair_text := h_L_pair_text "law.<locals>.<lambda>" (envOfC "law" (defScope s_law) s.heap.objs.size (fa 35) (.ref cL)).cells lamEs
  have h_Ratio_D_reprD_ := h_Ratio_D_reprD_ "law.<locals>.<lambda>" (envOfC "law" (defScope s_law) s.heap.objs.size (fa 35) (.ref cL)).cells lamEs
  have h_Ratio_whole := h_Ratio_whole "law.<locals>.<lambda>" (envOfC "law" (defScope s_law) s.heap.objs.size (fa 35) (.ref cL)).cells lamEs
  have h_L_low := h_L_low "law.<locals>.<lambda>" (envOfC "law" (defScope s_law) s.heap.objs.size (fa 35) (.ref cL)).cells lamEs
  have h_L_small := h_L_small "law.<locals>.<lambda>" (envOfC "law" (defScope s_law) s.heap.objs.size (fa 35) (.ref cL)).cells lamEs
  have h_L_bag := h_L_bag "law.<locals>.<lambda>" (envOfC "law" (defScope s_law) s.heap.objs.size (fa 35) (.ref cL)).cells lamEs
  have hmT : (Pt, ("law.<locals>.<lambda>" : Str)) ∈ (cl.lam "law.<locals>.<lambda>" (envOfC "law" (defScope s_law) s.heap.objs.size (fa 35) (.ref cL)).cells lamEs).tb := by show _ ∈ cl.tb; rw [hT]; exact List.Mem.head _
  have huT : ∀ p ∈ (cl.lam "law.<locals>.<lambda>" (envOfC "law" (defScope s_law) s.heap.objs.size (fa 35) (.ref cL)).cells lamEs).tb, p.1 = Pt → p.2 = "law.<locals>.<lambda>" := fun p hp _ => by have hp : p ∈ cl.tb := hp; rw [hT] at hp; obtain rfl := List.mem_singleton.mp hp; rfl
  have LLa : ∀ i, i < 3 → LamN ["_law_script", "_law_bag_here", "_law_turn", "_law_low_here", "_law_scale", "_law_sign", "_law_pair_here", "_law_found", "_law_other", "_law_is_other", "_law_asks", "_law_odd", "_law_top", "_law_ask"] (defScope s_law) (lamEs.getD i dL).sc := fun i hi => lamN_by (List.all_eq_true.mp (by decide +kernel : (List.range 3).all (fun i => lamNB ["_law_script", "_law_bag_here", "_law_turn", "_law_low_here", "_law_scale", "_law_sign", "_law_pair_here", "_law_found", "_law_other", "_law_is_other", "_law_asks", "_law_odd", "_law_top", "_law_ask"] (defScope s_law) (lamEs.getD i dL).sc) = true) i (List.mem_range.mpr hi))
  have BBa : ∀ i, i < 3 → LamB (lamEs.getD i dL).pr (lamEs.getD i dL).bo (lamEs.getD i dL).sc (lamEs.getD i dL).df (lamEs.getD i dL).bs
    | 0, _ => show LamB lE0.1.1 lE0.1.2.1 lE0.1.2.2.1 false (fun _ => []) from ⟨fun _ _ _ _ _ _ _ _ => rfl, (fun z => nomatch z), (fun _ _ h => nomatch h)⟩
    | 1, _ => show LamB lE1.1.1 lE1.1.2.1 lE1.1.2.2.1 true (fun v => [("_law_a", v)]) from ⟨(fun z => nomatch z), fun _ _ _ _ _ _ _ _ _ => ⟨_, rfl, rfl⟩, fun v y hy => by obtain rfl := List.mem_singleton.mp hy; rfl⟩
    | 2, _ => show LamB lE2.1.1 lE2.1.2.1 lE2.1.2.2.1 true (fun v => [("_law_b", v)]) from ⟨(fun z => nomatch z), fun _ _ _ _ _ _ _ _ _ => ⟨_, rfl, rfl⟩, fun v y hy => by obtain rfl := List.mem_singleton.mp hy; rfl⟩
    | _ + 3, h => absurd h (by omega)
  have hlmA : ∀ i, i < 3 → (cl.lam "law.<locals>.<lambda>" (envOfC "law" (defScope s_law) s.heap.objs.size (fa 35) (.ref cL)).cells lamEs).lm i = LamP ((cl.lam "law.<locals>.<lambda>" (envOfC "law" (defScope s_law) s.heap.objs.size (fa 35) (.ref cL)).cells lamEs).ld i) "law.<locals>.<lambda>" (lamEs.getD i dL).pr (lamEs.getD i dL).bo (lamEs.getD i dL).sc (cloFrom (envOfC "law" (defScope s_law) s.heap.objs.size (fa 35) (.ref cL)).cells (lamEs.getD i dL).sc.names []) := fun i hi => rfl
  have hb_0 : ∀ (A' : Around) (outer' : List Env) (s' : Shared) (H' : Hp) (E' : XK) (f c' : Addr), Room 4 (A'.deeper (LamX.lamEnv (cxOf (L2.CX P w) P w K mg base ["_law_script", "_law_bag_here", "_law_turn", "_law_low_here", "_law_scale", "_law_sign", "_law_pair_here", "_law_found", "_law_other", "_law_is_other", "_law_asks", "_law_odd", "_law_top", "_law_ask"] "law" (defScope s_law) (fa 35) (.ref cL) A outer s H E) lE0.1.2.2.1 s'.heap.objs.size f c')) → JE (cl.lam "law.<locals>.<lambda>" (envOfC "law" (defScope s_law) s.heap.objs.size (fa 35) (.ref cL)).cells lamEs) (LamX.lamCx (cxOf (L2.CX P w) P w K mg base ["_law_script", "_law_bag_here", "_law_turn", "_law_low_here", "_law_scale", "_law_sign", "_law_pair_here", "_law_found", "_law_other", "_law_is_other", "_law_asks", "_law_odd", "_law_top", "_law_ask"] "law" (defScope s_law) (fa 35) (.ref cL) A outer s H E) A' outer' s' H' E' lE0.1.2.2.1 f c') (fun c d _ H => E' c d H) lE0.1.2.1 m_lam0 := fun A' outer' s' H' E' f c' hr => by
    have r1_Ratio_D_initD_ : Room 4 _ := hr.mono (by decide)
    unfold m_lam0
    exact (j_make (n := 2) T.mk_Ratio h_Ratio_D_initD_ r1_Ratio_D_initD_ rfl T.g_Ratio b_Ratio_D_initD_ .nil rn0 hxL (ja_cons (j_var 11) (ja_cons (j_c pe_int fun _ _ => .int _) ja_nil)))
  have hb_1 : ∀ (A' : Around) (outer' : List Env) (s' : Shared) (H' : Hp) (E' : XK) (f c' : Addr), Room 4 (A'.deeper (LamX.lamEnv (cxOf (L2.CX P w) P w K mg base ["_law_script", "_law_bag_here", "_law_turn", "_law_low_here", "_law_scale", "_law_sign", "_law_pair_here", "_law_found", "_law_other", "_law_is_other", "_law_asks", "_law_odd", "_law_top", "_law_ask"] "law" (defScope s_law) (fa 35) (.ref cL) A outer s H E) lE1.1.2.2.1 s'.heap.objs.size f c')) → JE (cl.lam "law.<locals>.<lambda>" (envOfC "law" (defScope s_law) s.heap.objs.size (fa 35) (.ref cL)).cells lamEs) (LamX.lamCx (cxOf (L2.CX P w) P w K mg base ["_law_script", "_law_bag_here", "_law_turn", "_law_low_here", "_law_scale", "_law_sign", "_law_pair_here", "_law_found", "_law_other", "_law_is_other", "_law_asks", "_law_odd", "_law_top", "_law_ask"] "law" (defScope s_law) (fa 35) (.ref cL) A outer s H E) A' outer' s' H' E' lE1.1.2.2.1 f c') (fun c d _ H => E' c d H) lE1.1.2.1 m_lam1 := fun A' outer' s' H' E' f c' hr => by
    have r1_Ratio_D_initD_ : Room 4 _ := hr.mono (by decide)
    unfold m_lam1
    exact (j_make (n := 2) T.mk_Ratio h_Ratio_D_initD_ r1_Ratio_D_initD_ rfl T.g_Ratio b_Ratio_D_initD_ .nil rn0 hxL (ja_cons (j_var 12) (ja_cons (j_var 11) ja_nil)))
  have hb_2 : ∀ (A' : Around) (outer' : List Env) (s' : Shared) (H' : Hp) (E' : XK) (f c' : Addr), Room 4 (A'.deeper (LamX.lamEnv (cxOf (L2.CX P w) P w K mg base ["_law_script", "_law_bag_here", "_law_turn", "_law_low_here", "_law_scale", "_law_sign", "_law_pair_here", "_law_found", "_law_other", "_law_is_other", "_law_asks", "_law_odd", "_law_top", "_law_ask"] "law" (defScope s_law) (fa 35) (.ref cL) A outer s H E) lE2.1.2.2.1 s'.heap.objs.size f c')) → JE (cl.lam "law.<locals>.<lambda>" (envOfC "law" (defScope s_law) s.heap.objs.size (fa 35) (.ref cL)).cells lamEs) (LamX.lamCx (cxOf (L2.CX P w) P w K mg base ["_law_script", "_law_bag_here", "_law_turn", "_law_low_here", "_law_scale", "_law_sign", "_law_pair_here", "_law_found", "_law_other", "_law_is_other", "_law_asks", "_law_odd", "_law_top", "_law_ask"] "law" (defScope s_law) (fa 35) (.ref cL) A outer s H E) A' outer' s' H' E' lE2.1.2.2.1 f c') (fun c d _ H => E' c d H) lE2.1.2.1 m_lam2 := fun A' outer' s' H' E' f c' hr => by
    have r1_Ratio_D_initD_ : Room 4 _ := hr.mono (by decide)
    unfold m_lam2
    exact (j_makeK0 (q := 2) (gV' := (fun (vs zs : List V) => vs ++ ((zs.drop 1).take 1) ++ ((zs.drop 0).take 1))) (gD := (fun (vs zs : List Dv) => vs ++ ((zs.drop 1).take 1) ++ ((zs.drop 0).take 1))) (fun _ _ _ => rfl) (fun K R H vs zs ds es r1 r2 => RepAll.append (RepAll.append (r1) ((r2.drop 1).take 1)) ((r2.drop 0).take 1)) T.mk_Ratio h_Ratio_D_initD_ r1_Ratio_D_initD_ rfl T.g_Ratio k1_bottom_top_Ratio_D_initD_ hxL (jk_cons (j_c pe_int fun _ _ => .int _) (jk_cons (j_var 12) jk_nil)))
  have hbA : ∀ i gb, lamMs[i]? = some gb → ∀ (A' : Around) (outer' : List Env) (s' : Shared) (H' : Hp) (E' : XK) (f c' : Addr), Room 4 (A'.deeper (LamX.lamEnv (cxOf (L2.CX P w) P w K mg base ["_law_script", "_law_bag_here", "_law_turn", "_law_low_here", "_law_scale", "_law_sign", "_law_pair_here", "_law_found", "_law_other", "_law_is_other", "_law_asks", "_law_odd", "_law_top", "_law_ask"] "law" (defScope s_law) (fa 35) (.ref cL) A outer s H E) (lamEs.getD i dL).sc s'.heap.objs.size f c')) → JE (cl.lam "law.<locals>.<lambda>" (envOfC "law" (defScope s_law) s.heap.objs.size (fa 35) (.ref cL)).cells lamEs) (LamX.lamCx (cxOf (L2.CX P w) P w K mg base ["_law_script", "_law_bag_here", "_law_turn", "_law_low_here", "_law_scale", "_law_sign", "_law_pair_here", "_law_found", "_law_other", "_law_is_other", "_law_asks", "_law_odd", "_law_top", "_law_ask"] "law" (defScope s_law) (fa 35) (.ref cL) A outer s H E) A' outer' s' H' E' (lamEs.getD i dL).sc f c') (fun c d _ H => E' c d H) (lamEs.getD i dL).bo gb
    | 0, _, h => by cases h; exact hb_0
    | 1, _, h => by cases h; exact hb_1
    | 2, _, h => by cases h; exact hb_2
    | _ + 3, _, h => nomatch h
  have r_lamA : Room 6 _ := hr.mono (by decide)
  have r_L_same : Room 8 _ := hr.mono (by decide)
  have r_L_of : Room 2 _ := hr.mono (by decide)
  have r_Ratio_D_eqD_ : Room 6 _ := hr.mono (by decide)
  have r1_Ratio_D_eqD_ : Room 7 _ := hr.mono (by decide)
  have r1_Ratio_D_initD_ : Room 4 _ := hr.mono (by decide)
  have r_L_pair : Room 1 _ := hr.mono (by decide)
  have r2_Ratio_D_strD_ : Room 4 _ := hr.mono (by decide)
  have r_L_ratio : Room 5 _ := hr.mono (by decide)
  have r_L_pull : Room 1 _ := hr.mono (by decide)
  have r_L_pair_text : Room 1 _ := hr.mono (by decide)
  have r1_Ratio_D_reprD_ : Room 5 _ := hr.mono (by decide)
  have r1_Ratio_whole : Room 2 _ := hr.mono (by decide)
  have r_L_low : Room 1 _ := hr.mono (by decide)
  have r_L_small : Room 2 _ := hr.mono (by decide)
  have r_L_bag : Room 1 _ := hr.mono (by decide)
  have r_why : Room 3 _ := hr.mono (by decide)
  unfold m_law
  exact (jss_cons (js_set (i := 1) sc_law.nd rfl (Or.inl rfl) (j_callM h_L_bag r_L_bag rfl T.g_L_bag T.k_L_bag b_L_bag .nil rn0 tkD (ja_cons (j_var 0) ja_nil)))
 (jss_cons (js_for poD rfl (ji_range1 rfl T.z_range (ja_cons (j_c pe_int fun _ _ => .int _) ja_nil)) (jg_name (i := 2) sc_law.nd rfl (Or.inl rfl))
 (jss_cons (js_asg (j_tup (ja_cons (j_callM h_L_small r_L_small rfl T.g_L_small T.k_L_small b_L_small .nil rn0 tkD (ja_cons (j_var 1) ja_nil)) (ja_cons (j_add (j_c pe_int fun _ _ => .int _) (j_callM h_L_pull r_L_pull rfl T.g_L_pull T.k_L_pull b_L_pull .nil rn0 tkD (ja_cons (j_var 1) (ja_cons (j_c pe_int fun _ _ => .int _) ja_nil)))) (ja_cons (j_add (j_c pe_int fun _ _ => .int _) (j_callM h_L_pull r_L_pull rfl T.g_L_pull T.k_L_pull b_L_pull .nil rn0 tkD (ja_cons (j_var 1) (ja_cons (j_c pe_int fun _ _ => .int _) ja_nil)))) ja_nil)))) (jg_tup rfl (jgs_cons (jg_name (i := 12) sc_law.nd rfl (Or.inr rfl)) (jgs_cons (jg_name (i := 3) sc_law.nd rfl (Or.inl rfl)) (jgs_cons (jg_name (i := 4) sc_law.nd rfl (Or.inl rfl)) jgs_nil)))))
 (jss_cons (js_set (i := 5) sc_law.nd rfl (Or.inl rfl) (j_sub (j_c pe_int fun _ _ => .int _) (j_mul' (j_c pe_int fun _ _ => .int _) (j_callM h_L_pull r_L_pull rfl T.g_L_pull T.k_L_pull b_L_pull .nil rn0 tkD (ja_cons (j_var 1) (ja_cons (j_c pe_int fun _ _ => .int _) ja_nil))))))
 (jss_cons (js_set (i := 6) sc_law.nd rfl (Or.inl rfl) (j_call h_L_low r_L_low rfl T.g_L_low T.k_L_low b_L_low .nil rn0 tkD (ja_cons (j_var 12) (ja_cons (j_var 3) ja_nil))))
 (jss_cons (js_set (i := 7) sc_law.nd rfl (Or.inl rfl) (j_make (n := 2) T.mk_Ratio h_Ratio_D_initD_ r1_Ratio_D_initD_ rfl T.g_Ratio b_Ratio_D_initD_ .nil rn0 hxD (ja_cons (j_mul' (j_mul' (j_var 12) (j_var 4)) (j_var 5)) (ja_cons (j_mul' (j_mul' (j_var 3) (j_var 4)) (j_var 5)) ja_nil))))
 (jss_cons (js_if (JW.pt (jw_or (j_cmpT (opr_or (opNe (hu64 hr)) (op_neO (g0 h_Ratio_D_eqD_) T.s_Ratio_eq T.ne_Ratio T.mro_Ratio r1_Ratio_D_eqD_ b_Ratio_D_eqD_)) (ro_or roNe (ro_eqO T.wd T.nf_Ratio)) (j_call h_L_pair r_L_pair rfl T.g_L_pair T.k_L_pair b_L_pair .nil rn0 tkD (ja_cons (j_var 7) ja_nil)) (j_var 6) (nomark _)) (jw_or1 (jt_not (j_val (j_call h_L_same r_L_same rfl T.g_L_same T.k_L_same b_L_same .nil rn0 tkD (ja_cons (j_prop (c := 0) T.c_Ratio T.p_Ratio_whole h_Ratio_whole r1_Ratio_whole b_Ratio_whole (j_var 7)) (ja_cons (j_cmp (opr_or (opr_or (opEq (hu64 hr)) (op_eqO (g0 h_Ratio_D_eqD_) T.s_Ratio_eq r_Ratio_D_eqD_ b_Ratio_D_eqD_)) (op_eqR (g0 h_Ratio_D_eqD_) T.s_Ratio_eq T.si_Ratio r_Ratio_D_eqD_ b_Ratio_D_eqD_)) (ro_or (ro_or roEq (ro_eqO T.wd T.nf_Ratio)) ro_eqR) (j_ixA (j_var 6) (j_c pe_int fun _ _ => .int _) (fun _ _ => rfl)) (j_c pe_int fun _ _ => .int _) (nomark _)) ja_nil))))))))
 (jss_one (js_ret (j_c pe_bl fun _ _ => .bl _)))
 jss_nil)
 (jss_cons (js_if (jt_not (j_val (j_call h_L_same r_L_same rfl T.g_L_same T.k_L_same b_L_same .nil rn0 tkD (ja_cons (j_lst (ja_cons (j_callTy (callr_or (callr_or call_str_int SkE.call_str_str) (call_strO (g0 h_Ratio_D_strD_) T.s_Ratio_str r2_Ratio_D_strD_ b_Ratio_D_strD_)) (rc_or rc_str rc_strO) rfl T.z_str (by decide +kernel) (ja_cons (j_var 7) ja_nil)) (ja_cons (j_callB (call_reprO (g0 h_Ratio_D_reprD_) T.s_Ratio_repr r1_Ratio_D_reprD_ b_Ratio_D_reprD_) rc_strO rfl T.z_repr (by decide +kernel) (ja_cons (j_var 7) ja_nil)) ja_nil))) (ja_cons (j_lst (ja_cons (j_call h_L_pair_text r_L_pair_text rfl T.g_L_pair_text T.k_L_pair_text b_L_pair_text .nil rn0 tkD (ja_cons (j_var 6) ja_nil)) (ja_cons (j_add (j_add (j_c pe_str fun _ _ => .str _) (j_call h_L_pair_text r_L_pair_text rfl T.g_L_pair_text T.k_L_pair_text b_L_pair_text .nil rn0 tkD (ja_cons (j_var 6) ja_nil))) (j_c pe_str fun _ _ => .str _)) ja_nil))) ja_nil)))))
 (jss_one (js_ret (j_c pe_bl fun _ _ => .bl _)))
 jss_nil)
 (jss_cons (js_set (i := 8) sc_law.nd rfl (Or.inl rfl) (j_if (j_cmpT (opr_or (opr_or (opEq (hu64 hr)) (op_eqO (g0 h_Ratio_D_eqD_) T.s_Ratio_eq r_Ratio_D_eqD_ b_Ratio_D_eqD_)) (op_eqR (g0 h_Ratio_D_eqD_) T.s_Ratio_eq T.si_Ratio r_Ratio_D_eqD_ b_Ratio_D_eqD_)) (ro_or (ro_or roEq (ro_eqO T.wd T.nf_Ratio)) ro_eqR) (j_callM h_L_pull r_L_pull rfl T.g_L_pull T.k_L_pull b_L_pull .nil rn0 tkD (ja_cons (j_var 1) (ja_cons (j_c pe_int fun _ _ => .int _) ja_nil))) (j_c pe_int fun _ _ => .int _) (nomark _)) (j_call h_L_ratio r_L_ratio rfl T.g_L_ratio T.k_L_ratio b_L_ratio .nil rn0 tkD (ja_cons (j_tup (ja_cons (j_add (j_ixA (j_var 6) (j_c pe_int fun _ _ => .int _) (fun _ _ => rfl)) (j_c pe_int fun _ _ => .int _)) (ja_cons (j_ixA (j_var 6) (j_c pe_int fun _ _ => .int _) (fun _ _ => rfl)) ja_nil))) ja_nil)) (j_make (n := 2) T.mk_Ratio h_Ratio_D_initD_ r1_Ratio_D_initD_ rfl T.g_Ratio b_Ratio_D_initD_ .nil rn0 hxD (ja_cons (j_ixA (j_var 6) (j_c pe_int fun _ _ => .int _) (fun _ _ => rfl)) (ja_cons (j_add (j_ixA (j_var 6) (j_c pe_int fun _ _ => .int _) (fun _ _ => rfl)) (j_c pe_int fun _ _ => .int _)) ja_nil)))))
 (jss_cons (js_set (i := 9) sc_law.nd rfl (Or.inl rfl) (j_or (j_cmp (opr_or (opNe (hu64 hr)) (op_neO (g0 h_Ratio_D_eqD_) T.s_Ratio_eq T.ne_Ratio T.mro_Ratio r1_Ratio_D_eqD_ b_Ratio_D_eqD_)) (ro_or roNe (ro_eqO T.wd T.nf_Ratio)) (j_fld (cs := [0]) (fun c hc => by obtain rfl := List.mem_singleton.mp hc; exact ⟨T.c_Ratio, T.n_Ratio_top⟩) (j_var 8)) (j_ixA (j_var 6) (j_c pe_int fun _ _ => .int _) (fun _ _ => rfl)) (nomark _)) (j_one (j_cmp (opr_or (opNe (hu64 hr)) (op_neO (g0 h_Ratio_D_eqD_) T.s_Ratio_eq T.ne_Ratio T.mro_Ratio r1_Ratio_D_eqD_ b_Ratio_D_eqD_)) (ro_or roNe (ro_eqO T.wd T.nf_Ratio)) (j_fld (cs := [0]) (fun c hc => by obtain rfl := List.mem_singleton.mp hc; exact ⟨T.c_Ratio, T.n_Ratio_bottom⟩) (j_var 8)) (j_ixA (j_var 6) (j_c pe_int fun _ _ => .int _) (fun _ _ => rfl)) (nomark _)))))
 (jss_cons (js_if (jt_not (j_val (j_call h_L_same r_L_same rfl T.g_L_same T.k_L_same b_L_same .nil rn0 tkD (ja_cons (j_lst (ja_cons (j_cmp (opr_or (opr_or (opEq (hu64 hr)) (op_eqO (g0 h_Ratio_D_eqD_) T.s_Ratio_eq r_Ratio_D_eqD_ b_Ratio_D_eqD_)) (op_eqR (g0 h_Ratio_D_eqD_) T.s_Ratio_eq T.si_Ratio r_Ratio_D_eqD_ b_Ratio_D_eqD_)) (ro_or (ro_or roEq (ro_eqO T.wd T.nf_Ratio)) ro_eqR) (j_var 7) (j_call h_L_ratio r_L_ratio rfl T.g_L_ratio T.k_L_ratio b_L_ratio .nil rn0 tkD (ja_cons (j_var 6) ja_nil)) (nomark _)) (ja_cons (j_cmp (opr_or (opr_or (opEq (hu64 hr)) (op_eqO (g0 h_Ratio_D_eqD_) T.s_Ratio_eq r_Ratio_D_eqD_ b_Ratio_D_eqD_)) (op_eqR (g0 h_Ratio_D_eqD_) T.s_Ratio_eq T.si_Ratio r_Ratio_D_eqD_ b_Ratio_D_eqD_)) (ro_or (ro_or roEq (ro_eqO T.wd T.nf_Ratio)) ro_eqR) (j_var 7) (j_var 8) (nomark _)) (ja_cons (j_cmp (opr_or (opNe (hu64 hr)) (op_neO (g0 h_Ratio_D_eqD_) T.s_Ratio_eq T.ne_Ratio T.mro_Ratio r1_Ratio_D_eqD_ b_Ratio_D_eqD_)) (ro_or roNe (ro_eqO T.wd T.nf_Ratio)) (j_var 7) (j_var 8) (nomark _)) ja_nil)))) (ja_cons (j_lst (ja_cons (j_c pe_bl fun _ _ => .bl _) (ja_cons (j_not (j_var 9)) (ja_cons (j_var 9) ja_nil)))) ja_nil)))))
 (jss_one (js_ret (j_c pe_bl fun _ _ => .bl _)))
 jss_nil)
 (jss_cons (js_if (jt_not (j_val (j_call h_L_same r_L_same rfl T.g_L_same T.k_L_same b_L_same .nil rn0 tkD (ja_cons (j_lst (ja_cons (j_cmp (opr_or (opr_or (opEq (hu64 hr)) (op_eqO (g0 h_Ratio_D_eqD_) T.s_Ratio_eq r_Ratio_D_eqD_ b_Ratio_D_eqD_)) (op_eqR (g0 h_Ratio_D_eqD_) T.s_Ratio_eq T.si_Ratio r_Ratio_D_eqD_ b_Ratio_D_eqD_)) (ro_or (ro_or roEq (ro_eqO T.wd T.nf_Ratio)) ro_eqR) (j_var 7) (j_ixA (j_var 6) (j_c pe_int fun _ _ => .int _) (fun _ _ => rfl)) (nomark _)) (ja_cons (j_cmp (opr_or (opr_or (opEq (hu64 hr)) (op_eqO (g0 h_Ratio_D_eqD_) T.s_Ratio_eq r_Ratio_D_eqD_ b_Ratio_D_eqD_)) (op_eqR (g0 h_Ratio_D_eqD_) T.s_Ratio_eq T.si_Ratio r_Ratio_D_eqD_ b_Ratio_D_eqD_)) (ro_or (ro_or roEq (ro_eqO T.wd T.nf_Ratio)) ro_eqR) (j_ixA (j_var 6) (j_c pe_int fun _ _ => .int _) (fun _ _ => rfl)) (j_var 7) (nomark _)) (ja_cons (j_cmp (opr_or (opr_or (opEq (hu64 hr)) (op_eqO (g0 h_Ratio_D_eqD_) T.s_Ratio_eq r_Ratio_D_eqD_ b_Ratio_D_eqD_)) (op_eqR (g0 h_Ratio_D_eqD_) T.s_Ratio_eq T.si_Ratio r_Ratio_D_eqD_ b_Ratio_D_eqD_)) (ro_or (ro_or roEq (ro_eqO T.wd T.nf_Ratio)) ro_eqR) (j_var 7) (j_callTy (callr_or (callr_or call_str_int SkE.call_str_str) (call_strO (g0 h_Ratio_D_strD_) T.s_Ratio_str r2_Ratio_D_strD_ b_Ratio_D_strD_)) (rc_or rc_str rc_strO) rfl T.z_str (by decide +kernel) (ja_cons (j_ixA (j_var 6) (j_c pe_int fun _ _ => .int _) (fun _ _ => rfl)) ja_nil)) (nomark _)) ja_nil)))) (ja_cons (j_lst (ja_cons (j_cmp (opr_or (opr_or (opEq (hu64 hr)) (op_eqO (g0 h_Ratio_D_eqD_) T.s_Ratio_eq r_Ratio_D_eqD_ b_Ratio_D_eqD_)) (op_eqR (g0 h_Ratio_D_eqD_) T.s_Ratio_eq T.si_Ratio r_Ratio_D_eqD_ b_Ratio_D_eqD_)) (ro_or (ro_or roEq (ro_eqO T.wd T.nf_Ratio)) ro_eqR) (j_ixA (j_var 6) (j_c pe_int fun _ _ => .int _) (fun _ _ => rfl)) (j_c pe_int fun _ _ => .int _) (nomark _)) (ja_cons (j_cmp (opr_or (opr_or (opEq (hu64 hr)) (op_eqO (g0 h_Ratio_D_eqD_) T.s_Ratio_eq r_Ratio_D_eqD_ b_Ratio_D_eqD_)) (op_eqR (g0 h_Ratio_D_eqD_) T.s_Ratio_eq T.si_Ratio r_Ratio_D_eqD_ b_Ratio_D_eqD_)) (ro_or (ro_or roEq (ro_eqO T.wd T.nf_Ratio)) ro_eqR) (j_ixA (j_var 6) (j_c pe_int fun _ _ => .int _) (fun _ _ => rfl)) (j_c pe_int fun _ _ => .int _) (nomark _)) (ja_cons (j_c pe_bl fun _ _ => .bl _) ja_nil)))) ja_nil)))))
 (jss_one (js_ret (j_c pe_bl fun _ _ => .bl _)))
 jss_nil)
 (jss_cons (js_if (JW.pt (jw_or (jt_not (j_val (j_call h_L_same r_L_same rfl T.g_L_same T.k_L_same b_L_same .nil rn0 tkD (ja_cons (j_call h_L_pair r_L_pair rfl T.g_L_pair T.k_L_pair b_L_pair .nil rn0 tkD (ja_cons (j_make (n := 2) T.mk_Ratio h_Ratio_D_initD_ r1_Ratio_D_initD_ rfl T.g_Ratio b2_Ratio_D_initD_.2 b2_Ratio_D_initD_.1 (fun _ _ => (.cons (.int _) .nil)) hxD (ja_cons (j_var 12) ja_nil)) ja_nil)) (ja_cons (j_tup (ja_cons (j_var 12) (ja_cons (j_c pe_int fun _ _ => .int _) ja_nil))) ja_nil))))) (jw_or (j_cmpT (opr_or (opr_or (opEq (hu64 hr)) (op_eqO (g0 h_Ratio_D_eqD_) T.s_Ratio_eq r_Ratio_D_eqD_ b_Ratio_D_eqD_)) (op_eqR (g0 h_Ratio_D_eqD_) T.s_Ratio_eq T.si_Ratio r_Ratio_D_eqD_ b_Ratio_D_eqD_)) (ro_or (ro_or roEq (ro_eqO T.wd T.nf_Ratio)) ro_eqR) (j_make (n := 2) T.mk_Ratio h_Ratio_D_initD_ r1_Ratio_D_initD_ rfl T.g_Ratio b2_Ratio_D_initD_.2 b2_Ratio_D_initD_.1 (fun _ _ => (.cons (.int _) .nil)) hxD (ja_cons (j_c pe_int fun _ _ => .int _) ja_nil)) (j_c pe_bl fun _ _ => .bl _) (nomark _)) (jw_or1 (j_cmpT (opr_or (opr_or (opEq (hu64 hr)) (op_eqO (g0 h_Ratio_D_eqD_) T.s_Ratio_eq r_Ratio_D_eqD_ b_Ratio_D_eqD_)) (op_eqR (g0 h_Ratio_D_eqD_) T.s_Ratio_eq T.si_Ratio r_Ratio_D_eqD_ b_Ratio_D_eqD_)) (ro_or (ro_or roEq (ro_eqO T.wd T.nf_Ratio)) ro_eqR) (j_make (n := 2) T.mk_Ratio h_Ratio_D_initD_ r1_Ratio_D_initD_ rfl T.g_Ratio b2_Ratio_D_initD_.2 b2_Ratio_D_initD_.1 (fun _ _ => (.cons (.int _) .nil)) hxD (ja_cons (j_c pe_int fun _ _ => .int _) ja_nil)) (j_c pe_non fun _ _ => .non) (nomark _))))))
 (jss_one (js_ret (j_c pe_bl fun _ _ => .bl _)))
 jss_nil)
 (jss_cons (js_set (i := 11) sc_law.nd rfl (Or.inr rfl) (j_callM h_L_of r_L_of rfl T.g_L_of T.k_L_of b_L_of .nil rn0 tkD (ja_cons (j_var 1) (ja_cons (j_lst (ja_cons (j_c pe_non fun _ _ => .non) (ja_cons (j_c pe_str fun _ _ => .str _) (ja_cons (j_c pe_bl fun _ _ => .bl _) (ja_cons (j_lst (ja_cons (j_c pe_int fun _ _ => .int _) ja_nil)) (ja_cons (j_tup (ja_cons (j_c pe_int fun _ _ => .int _) (ja_cons (j_c pe_int fun _ _ => .int _) ja_nil))) (ja_cons (j_c pe_str fun _ _ => .str _) ja_nil))))))) ja_nil))))
 (jss_cons (js_set (i := 10) sc_law.nd rfl (Or.inl rfl) (j_lst (ja_cons (j_lam (k := 0) (b := false) rfl rfl rfl TB rfl hmT huT (LLa 0 (by decide)) ⟨rfl, rfl⟩) (ja_cons (j_lam (k := 1) (b := true) rfl rfl rfl TB rfl hmT huT (LLa 1 (by decide)) ⟨_, _, rfl, rfl⟩) (ja_cons (j_lam (k := 2) (b := true) rfl rfl rfl TB rfl hmT huT (LLa 2 (by decide)) ⟨_, _, rfl, rfl⟩) ja_nil)))))
 (jss_one (js_if (jt_not (j_val (j_call h_L_same r_L_same rfl T.g_L_same T.k_L_same b_L_same .nil rn0 tkD (ja_cons (j_lcWhy (k := 4) (pr := fun i => (lamEs.getD i dL).pr) (bo := fun i => (lamEs.getD i dL).bo) (sc := fun i => (lamEs.getD i dL).sc) (bs := fun i => (lamEs.getD i dL).bs) (own := [("_law_ask", 13)]) (g := (gName 13)) T.ef hlmA rfl rfl sc_law.nd (ji_any (j_var 10)) (blkOk_by (own := [("_law_ask", 13)]) (N := ["_law_script", "_law_bag_here", "_law_turn", "_law_low_here", "_law_scale", "_law_sign", "_law_pair_here", "_law_found", "_law_other", "_law_is_other", "_law_asks", "_law_odd", "_law_top", "_law_ask"]) (sc := defScope s_law) (by decide +kernel)) (fun _ _ _ _ _ => (pg_name (i := 13) sc_law.nd rfl (Or.inl rfl))) (fgw_name 13 (by decide)) (fun _ _ _ _ _ => (j_var 13)) (fun _ _ _ _ _ => rfl) T.g_L_why T.k_L_why lkW hcdW b_why sc_L_why rfl (.inl rfl) (why_gives T.tw h_field b_field r_why) r_lamA LLa BBa hbA) (ja_cons (j_lst (ja_cons (j_tup (ja_cons (j_c pe_str fun _ _ => .str _) (ja_cons (j_var 11) ja_nil))) (ja_cons (j_tup (ja_cons (j_c pe_str fun _ _ => .str _) (ja_cons (j_var 11) ja_nil))) (ja_cons (j_tup (ja_cons (j_c pe_str fun _ _ => .str _) (ja_cons (j_c pe_int fun _ _ => .int _) ja_nil))) ja_nil)))) ja_nil)))))
 (jss_one (js_ret (j_c pe_bl fun _ _ => .bl _)))
 jss_nil))))))))))))))))
 (jss_one (js_ret (j_c pe_bl fun _ _ => .bl _)))))
end Mine
namespace Mine
open PySem PySem.Spec PyProof.Rows L2
/-- the bag -/
def BagC (c : Cell) : Prop := ∃ (l : List Int) (i r m n : Int), c = .lst [.lst (l.map .int), .int i, .int r, .int m, .int n] ∧ 0 ≤ i ∧ 0 ≤ r ∧ 0 ≤ m ∧ m < 2 ^ 31
theorem bag_spec (ns : List Int) : ∃ c, BagC c ∧ g_L_bag [.scr ns] [] = .ok (.own 0) [c] :=
  ⟨_, ⟨(ns.drop (HT.sIx ns.length 0 none)).take (HT.sIx ns.length ns.length (some 63) - HT.sIx ns.length 0 none), 0, 0, 12004, 0, rfl, by decide, by decide, by decide, by decide⟩, by
    show runM 1 m_L_bag [.scr ns] [] = _
    have e : cutD (ns.map Dv.int) none (some 63) = ((ns.drop (HT.sIx ns.length 0 none)).take (HT.sIx ns.length ns.length (some 63) - HT.sIx ns.length 0 none)).map Dv.int := by
      unfold cutD; rw [List.length_map, List.map_take, List.map_drop]
    rw [← e]
    rfl⟩
theorem pull2 {l : List Int} {i r m n many : Int} {rest : Store} (hr : 0 < r) (h0 : 0 < many) (h1 : many < 2 ^ 64) :
    g_L_pull [.own 0, .int many] (.lst [.lst (l.map .int), .int i, .int r, .int m, .int n] :: rest) = .ok (.int (r % many)) (.lst [.lst (l.map .int), .int i, .int (r.fdiv many), .int m, .int (n + 1)] :: rest) := by
  show runM 7 m_L_pull _ _ = _
  unfold runM m_L_pull
  have e : ¬ r = 0 := by omega
  simp [startD, ix5, e, hr, h0, divG h0 h1]
def nextM (m n : Int) : Int := (m * m * 19 + (m * 57191 + n * 104789 + 90031)) % 2147483549
def nextD (m many : Int) : Int := (m.fdiv 101 + m % 7901 * 71) % many
theorem pull0 {l : List Int} {i m n many : Int} {rest : Store} (h0 : 0 < many) (h1 : many < 2 ^ 64) (hm : 0 ≤ m) (hm' : m < 2 ^ 31) (hi : ¬ i < (l.map Dv.int).length) :
    g_L_pull [.own 0, .int many] (.lst [.lst (l.map .int), .int i, .int 0, .int m, .int n] :: rest) = .ok (.int (nextD (nextM m (n + 1)) many)) (.lst [.lst (l.map .int), .int i, .int 0, .int (nextM m (n + 1)), .int (n + 1)] :: rest) := by
  show runM 7 m_L_pull _ _ = _
  unfold runM m_L_pull
  have c1 : CMulA m 57191 := mulA_r (by decide) (by decide)
  have c2 : CMulA (n + 1) 104789 := mulA_r (by decide) (by decide)
  have c3 : CMulA m m := mulA_r (by omega) (by omega)
  have c4 : CMulA (m * m) 19 := mulA_r (by decide) (by decide)
  have c5 : CDivG (nextM m (n + 1)) 101 := divG (by decide) (by decide)
  have c6 : CMulA (nextM m (n + 1) % 7901) 71 := mulA_r (by decide) (by decide)
  unfold nextD
  unfold nextM at *
  simp at hi
  have hi' : ¬ i < ↑l.length := by omega
  simp [startD, ix5, h0, hi, hi', c1, c2, c3, c4, c5, c6]
theorem pullA {l : List Int} {i m n many : Int} {rest : Store} (h0 : 0 < many) (h1 : many < 2 ^ 64) (hm : 0 ≤ m) (hm' : m < 2 ^ 31) {k : Int} (hi : i < l.length) (hk : atI (l.map Dv.int) i = some (.int k)) (hb : ¬ 10 ^ 18 ≤ if k < 0 then -k else k) :
    g_L_pull [.own 0, .int many] (.lst [.lst (l.map .int), .int i, .int 0, .int m, .int n] :: rest) = .ok (.int (nextD (nextM ((m * 41759 + (k % 1000000007 * 30119 + 61)) % 2147483549) (n + 1)) many)) (.lst [.lst (l.map .int), .int (i + 1), .int 0, .int (nextM ((m * 41759 + (k % 1000000007 * 30119 + 61)) % 2147483549) (n + 1)), .int (n + 1)] :: rest) := by
  show runM 7 m_L_pull _ _ = _
  unfold runM m_L_pull
  have c0 : CMulA (k % 1000000007) 30119 := mulA_r (by decide) (by decide)
  have c00 : CMulA m 41759 := mulA_r (by decide) (by decide)
  have hp : CPow 10 18 := ⟨by decide, by decide, by decide⟩
  generalize hM : (m * 41759 + (k % 1000000007 * 30119 + 61)) % 2147483549 = M
  have hM0 : 0 ≤ M := by omega
  have hM1 : M < 2 ^ 31 := by omega
  have c1 : CMulA M 57191 := mulA_r (by decide) (by decide)
  have c2 : CMulA (n + 1) 104789 := mulA_r (by decide) (by decide)
  have c3 : CMulA M M := mulA_r (by omega) (by omega)
  have c4 : CMulA (M * M) 19 := mulA_r (by decide) (by decide)
  have c5 : CDivG (nextM M (n + 1)) 101 := divG (by decide) (by decide)
  have c6 : CMulA (nextM M (n + 1) % 7901) 71 := mulA_r (by decide) (by decide)
  unfold nextD
  unfold nextM at *
  have hb' : ¬ 1000000000000000000 ≤ if k < 0 then -k else k := hb
  simp [startD, ix5, h0, hi, hk, hp, hb', c0, c00, hM, c1, c2, c3, c4, c5, c6]
theorem pullB {l : List Int} {i m n many : Int} {rest : Store} (h0 : 0 < many) (h1 : many < 2 ^ 64) {k : Int} (hi : i < l.length) (hk : atI (l.map Dv.int) i = some (.int k)) (hb : 10 ^ 18 ≤ if k < 0 then -k else k) :
    g_L_pull [.own 0, .int many] (.lst [.lst (l.map .int), .int i, .int 0, .int m, .int n] :: rest) = .ok (.int ((if k < 0 then -k else k) % many)) (.lst [.lst (l.map .int), .int (i + 1), .int ((if k < 0 then -k else k).fdiv many), .int m, .int (n + 1)] :: rest) := by
  show runM 7 m_L_pull _ _ = _
  unfold runM m_L_pull
  have hp : CPow 10 18 := ⟨by decide, by decide, by decide⟩
  generalize hA : (if k < 0 then -k else k) = a at *
  have hb' : (1000000000000000000 : Int) ≤ a := hb
  have hb2 : (0 : Int) < a := by omega
  simp [startD, ix5, h0, hi, hk, hp, hA, hb', hb2, divG h0 h1]
theorem nextM_ok (m n : Int) : 0 ≤ nextM m n ∧ nextM m n < 2 ^ 31 := by unfold nextM; omega
theorem nextD_ok (m : Int) {many : Int} (h : 0 < many) : 0 ≤ nextD m many ∧ nextD m many < many := ⟨Int.emod_nonneg _ (by omega), Int.emod_lt_of_pos _ h⟩
theorem pull_spec {c : Cell} {many : Int} {rest : Store} (hb : BagC c) (h0 : 0 < many) (h1 : many < 2 ^ 64) :
    ∃ d c', BagC c' ∧ 0 ≤ d ∧ d < many ∧ g_L_pull [.own 0, .int many] (c :: rest) = .ok (.int d) (c' :: rest) := by
  obtain ⟨l, i, r, m, n, rfl, i0, r0, m0, m1⟩ := hb
  by_cases hr : 0 < r
  · exact ⟨_, _, ⟨l, i, r.fdiv many, m, n + 1, rfl, i0, Int.fdiv_nonneg r0 (by omega), m0, m1⟩, Int.emod_nonneg _ (by omega), Int.emod_lt_of_pos _ h0, pull2 hr h0 h1⟩
  obtain rfl : r = 0 := by omega
  by_cases hi : i < l.length
  · obtain ⟨a, ha, hk⟩ := x_atn (l := l.map Dv.int) i0 (by simpa using hi)
    obtain ⟨k, _, rfl⟩ := List.mem_map.mp ha
    by_cases hb : 10 ^ 18 ≤ if k < 0 then -k else k
    · exact ⟨_, _, ⟨l, i + 1, _, m, n + 1, rfl, by omega, Int.fdiv_nonneg (by split <;> omega) (by omega), m0, m1⟩, Int.emod_nonneg _ (by omega), Int.emod_lt_of_pos _ h0, pullB h0 h1 hi hk hb⟩
    · exact ⟨_, _, ⟨l, i + 1, 0, _, n + 1, rfl, by omega, by omega, (nextM_ok _ _).1, (nextM_ok _ _).2⟩, (nextD_ok _ h0).1, (nextD_ok _ h0).2, pullA h0 h1 m0 m1 hi hk hb⟩
  · exact ⟨_, _, ⟨l, i, 0, _, n + 1, rfl, by omega, by omega, (nextM_ok _ _).1, (nextM_ok _ _).2⟩, (nextD_ok _ h0).1, (nextD_ok _ h0).2, pull0 h0 h1 m0 m1 (by simpa using hi)⟩
theorem of_spec {c : Cell} {l : List Dv} {rest : Store} (hb : BagC c) (h0 : l ≠ []) (h1 : l.length < 2 ^ 60) :
    ∃ d c', BagC c' ∧ d ∈ l ∧ g_L_of [.own 0, .lst l] (c :: rest) = .ok d (c' :: rest) := by
  have hl : 0 < l.length := List.length_pos_iff.mpr h0
  obtain ⟨d, c', hb', d0, d1, e⟩ := pull_spec (many := l.length) (rest := rest) hb (by omega) (by omega)
  obtain ⟨z, hz, ez⟩ := x_atn d0 d1
  refine ⟨z, c', hb', hz, ?_⟩
  show runM 2 m_L_of _ _ = _
  unfold runM m_L_of
  simp [startD, e, ez]
end Mine
namespace Mine
open PySem PySem.Spec PyProof.Rows L2
theorem same_refl : ∀ (n : Nat) (d : Dv), Pl n d = true → g_L_same (n + 1) [d, d] = .ok (.bl true) := by
  intro n
  induction n with
  | zero =>
    intro d h
    show runP 4 (m_L_same (g_L_same 0)) _ = _
    cases d with
    | non => rfl
    | bl b => unfold runP m_L_same; simp [startD]
    | int i => unfold runP m_L_same; simp [startD]
    | str s => unfold runP m_L_same; simp [startD]
    | _ => simp [Pl] at h
  | succ n ih =>
    intro d h
    show runP 4 (m_L_same (g_L_same (n + 1))) _ = _
    have s2 : (2 : Nat) ≤ sizeLine := by decide
    have key : ∀ (l : List Dv) (ρ0 : DEnv) (ω : Store), (∀ e ∈ l, Pl n e = true) → l.length ≤ sizeLine → lcD (tTuple 2 (tsCons (tName 2) (tsCons (tName 3) tsNil))) gYes (eCall 2 (g_L_same (n + 1)) [] (aCons (eVar 2) (aCons (eVar 3) aNil))) [ρ0.getD 0 none, ρ0.getD 1 none, none, none] (zipD l l) ω = .ok (l.map fun _ => .bl true) ω := by
      intro l ρ0 ω hl _
      rw [zip_self]
      refine lc_pairs fun d hd => ?_
      have hp := hl d hd
      have hc := pl_clean n d hp
      simp [ih d hp, hc]
    cases d with
    | non => rfl
    | bl b => unfold runP m_L_same; simp [startD]
    | int i => unfold runP m_L_same; simp [startD]
    | str s => unfold runP m_L_same; simp [startD]
    | lst l =>
      simp only [Pl, Bool.and_eq_true, List.all_eq_true, decide_eq_true_eq] at h
      have k := key l [some (.lst l), some (.lst l)] [] h.2 h.1
      have k2 : (zipD l l).length ≤ sizeLine := by unfold zipD; simp; exact h.1
      have z : ∀ ρ ω, iZipD (aCons (eVar 0) (aCons (eVar 1) aNil)) (some (.lst l) :: some (.lst l) :: ρ) ω = .ok (zipD l l) ω := fun _ _ => rfl
      have al := all_true l (ω := [])
      simp only [List.getD_cons_zero, List.getD_cons_succ] at k
      unfold runP m_L_same
      simp [startD, s2, z, k, k2, al]
    | tup l =>
      simp only [Pl, Bool.and_eq_true, List.all_eq_true, decide_eq_true_eq] at h
      have k := key l [some (.tup l), some (.tup l)] [] h.2 h.1
      have k2 : (zipD l l).length ≤ sizeLine := by unfold zipD; simp; exact h.1
      have z : ∀ ρ ω, iZipD (aCons (eVar 0) (aCons (eVar 1) aNil)) (some (.tup l) :: some (.tup l) :: ρ) ω = .ok (zipD l l) ω := fun _ _ => rfl
      have al := all_true l (ω := [])
      simp only [List.getD_cons_zero, List.getD_cons_succ] at k
      unfold runP m_L_same
      simp [startD, s2, z, k, k2, al]
    | _ => simp [Pl] at h
theorem same8 {d : Dv} (h : Pl 7 d = true) : g_L_same 8 [d, d] = .ok (.bl true) := same_refl 7 d h
end Mine
namespace Mine
open PySem PySem.Spec PyProof.Rows L2
theorem whole_int (n : Int) : g_is_whole [.int n] = .ok (.bl true) := rfl
abbrev ratD (p : Int × Int) : Dv := .obj 0 ["top", "bottom"] [.int p.1, .int p.2]
theorem gcd_logI {n d : Int} (h : d ≠ 0) (hd : d.natAbs < 2 ^ 64) : CDivG n (sgcd n d) := by
  refine ⟨sgcd_ne h, ?_⟩
  rw [sgcd_abs]
  have h1 : 0 < Nat.gcd n.natAbs d.natAbs := Nat.gcd_pos_of_pos_right _ (by omega)
  have h2 : Nat.gcd n.natAbs d.natAbs ≤ d.natAbs := Nat.gcd_le_right _ (by omega)
  have h3 : (Nat.gcd n.natAbs d.natAbs).log2 < 64 := (Nat.log2_lt (by omega)).mpr (by omega)
  omega
theorem init_spec {n d : Int} (h : d ≠ 0) (hd : d.natAbs < 2 ^ 64) : mkP 0 g_Ratio_D_initD_ [.int n, .int d] = .ok (ratD (low n d)) := by
  have c1 : CDivG n (sgcd n d) := gcd_logI h hd
  have c2 : CDivG d (sgcd n d) := ⟨c1.1, c1.2⟩
  have e : (if d < 0 then -((Nat.gcd n.natAbs d.natAbs : Nat) : Int) else ((Nat.gcd n.natAbs d.natAbs : Nat) : Int)) = sgcd n d := rfl
  have ef : putD "top" (.int (n.fdiv (sgcd n d))) [] [] = (([("top" : Str)], [Dv.int (n.fdiv (sgcd n d))]) : List Str × List Dv) := rfl
  have eg : putD "bottom" (.int (d.fdiv (sgcd n d))) ["top"] [.int (n.fdiv (sgcd n d))] = (([("top" : Str), ("bottom" : Str)], [Dv.int (n.fdiv (sgcd n d)), Dv.int (d.fdiv (sgcd n d))]) : List Str × List Dv) := rfl
  unfold mkP
  show (match runM 4 m_Ratio_D_initD_ _ _ with | .ok .non ω => _ | .exc e _ => _ | _ => _) = _
  unfold runM m_Ratio_D_initD_
  by_cases h0 : d < 0
  · rw [if_pos h0] at e
    simp [startD, whole_int, h, h0, e, c1, c2, setFld, ef, eg]
    exact ⟨rfl, rfl⟩
  · rw [if_neg h0] at e
    simp [startD, whole_int, h, h0, e, c1, c2, setFld, ef, eg]
    exact ⟨rfl, rfl⟩
theorem pair_spec (p : Int × Int) : g_L_pair [ratD p] = .ok (.tup [.int p.1, .int p.2]) := by
  obtain ⟨a, b⟩ := p
  rfl
theorem euclid {x y z : Option Dv} {ω : Store} : ∀ (k : Nat) (a b : Int), 0 ≤ a → 0 ≤ b → b.natAbs < k →
    whileD (gTest (e2 uNe (eVar 3) (eC (.int 0)))) (sPar 2 3 (aCons (eVar 3) (aCons (e2 (fP iMod) (eB (f1V bInt) (aCons (eVar 2) aNil)) (eVar 3)) aNil))) k [x, y, some (.int a), some (.int b), z] ω = .next [x, y, some (.int ((Nat.gcd a.natAbs b.natAbs : Nat) : Int)), some (.int 0), z] ω := by
  intro k
  induction k with
  | zero => intro a b _ _ h; omega
  | succ k ih =>
    intro a b h0 h1 hk
    by_cases hb : b = 0
    · subst hb
      simp
      omega
    · have hp : 0 < b := by omega
      have h2 := ih b (a % b) h1 (Int.emod_nonneg _ hb) (by
        have := Int.emod_lt_of_pos a hp
        have := Int.emod_nonneg a hb
        omega)
      have e : Nat.gcd b.natAbs (a % b).natAbs = Nat.gcd a.natAbs b.natAbs := by
        rw [Int.natAbs_emod_of_nonneg h0, Nat.gcd_comm a.natAbs, Nat.gcd_rec b.natAbs a.natAbs, Nat.gcd_comm]
      rw [e] at h2
      simp [hb, hp]
      exact h2
theorem low_sign (n d : Int) : ((if d < 0 then (-1 : Int) else 1) * n).fdiv ((Nat.gcd n.natAbs d.natAbs : Nat) : Int) = n.fdiv (sgcd n d) := by
  unfold sgcd
  split
  · rw [show (-1 : Int) * n = -n by omega, ← Int.neg_fdiv_neg (-n)]
    simp
  · rw [Int.one_mul]
theorem low_sign' (n d : Int) : ((if d < 0 then (-1 : Int) else 1) * d).fdiv ((Nat.gcd n.natAbs d.natAbs : Nat) : Int) = d.fdiv (sgcd n d) := by
  unfold sgcd
  split
  · rw [show (-1 : Int) * d = -d by omega, ← Int.neg_fdiv_neg (-d)]
    simp
  · rw [Int.one_mul]
theorem low_spec {n d : Int} (h : d ≠ 0) (hd : d.natAbs < 2 ^ 64) : g_L_low [.int n, .int d] = .ok (.tup [.int (low n d).1, .int (low n d).2]) := by
  show runP 5 m_L_low _ = _
  have c1 : CDivG n (sgcd n d) := gcd_logI h hd
  have en : (if n < 0 then -n else n).natAbs = n.natAbs := by split <;> omega
  have ed : (if d < 0 then -d else d).natAbs = d.natAbs := by split <;> omega
  have hn : (0 : Int) ≤ (if n < 0 then -n else n) := by split <;> omega
  have hd : (0 : Int) ≤ (if d < 0 then -d else d) := by split <;> omega
  have ew := fun x y z ω k => euclid (x := x) (y := y) (z := z) (ω := ω) k _ _ hn hd
  rw [en, ed] at ew
  have cd : ∀ i, CDivG i ((Nat.gcd n.natAbs d.natAbs : Nat) : Int) := fun i => ⟨by
    have := c1.1; have := sgcd_abs n d; omega, by have := c1.2; rw [sgcd_abs] at this; exact this⟩
  have c3 : ∀ i, CMulA (-1) i := fun i => mulA_l (by decide) (by decide)
  have c4 : ∀ i, CMulA 1 i := fun i => mulA_l (by decide) (by decide)
  have e1 := low_sign n d
  have e2 := low_sign' n d
  unfold low
  rw [← e1, ← e2]
  unfold runP m_L_low
  have s2 : (2 : Nat) ≤ sizeLine := by decide
  by_cases hc : d < 0
  · simp only [if_pos hc] at ew ⊢
    simp [startD, fuelI, ed, ew, cd, hc, c3, c4, s2, -x_whileS]
  · simp only [if_neg hc] at ew ⊢
    simp [startD, fuelI, ed, ew, cd, hc, c3, c4, s2, -x_whileS]
end Mine
namespace Mine
open PySem PySem.Spec PyProof.Rows L2
abbrev sgnS (neg : Bool) : Str := if neg then "-" else ""
theorem app_assoc (a b c : Str) : a ++ b ++ c = a ++ (b ++ c) := strE (by rw [cps_app, cps_app, cps_app, cps_app, List.append_assoc])
theorem app_len (a b : Str) : (a ++ b).length = a.length + b.length := Str.length_append a b
theorem sgn_len (neg : Bool) : (sgnS neg).length ≤ 1 := by cases neg <;> decide
theorem big_line : 1000 ≤ sizeLine := by decide
theorem str_of {i : Int} {m : Nat} (h : i.natAbs = m) : intS i = sgnS (decide (i < 0)) ++ numS m := by
  by_cases hi : i < 0
  · have e : i = -(m : Int) := by omega
    rw [decide_eq_true hi, e, neg_str (by omega)]
    rfl
  · have e : i = (m : Int) := by omega
    rw [decide_eq_false hi, e]
    exact strE (by rw [cps_app]; rfl)
def pairS (p : Int × Int) : Str := if p.2 = 1 then intS p.1 else intS p.1 ++ "/" ++ intS p.2
theorem int_len {i : Int} (h : i.natAbs < 10 ^ 30) : (intS i).length ≤ 31 := by
  have l1 := numS_len (by decide) h
  have l3 := sgn_len (decide (i < 0))
  rw [str_of rfl, app_len]; omega
theorem pair_text_spec {p : Int × Int} (h1 : p.1.natAbs < 10 ^ 30) (h2 : p.2.natAbs < 10 ^ 30) : g_L_pair_text [.tup [.int p.1, .int p.2]] = .ok (.str (pairS p)) := by
  have a1 := num_log (i := p.1) (by omega)
  have a2 := num_log (i := p.2) (by omega)
  have l4 := big_line
  have b1 := int_len h1
  have b2 := int_len h2
  have b3 : (("/" : String) : Str).length = 1 := rfl
  have c1 : (intS p.1).length + (("/" : String) : Str).length ≤ sizeLine := by omega
  have c2 : (intS p.1 ++ "/").length + (intS p.2).length ≤ sizeLine := by rw [app_len]; omega
  show runP 1 m_L_pair_text _ = _
  unfold runP m_L_pair_text pairS
  by_cases h : p.2 = 1
  · simp [startD, h, a1]
  · simp [startD, h, a1, a2, c1, c2]
theorem pow60 {ω : Store} : fP iPow (.int 10) (.int 60) ω = .ok (.int 1000000000000000000000000000000000000000000000000000000000000) ω := by
  rw [x_pow, if_pos ⟨by decide, by decide, by decide⟩, show ((10 : Int) ^ (60 : Int).toNat) = 1000000000000000000000000000000000000000000000000000000000000 from by decide +kernel]
theorem fmt_i {g : GE} {ρ : DEnv} {ω : Store} {i : Int} (h : g ρ ω = .ok (.int i) ω) (hl : i.natAbs.log2 < 1920) : eFmt g ρ ω = .ok (.str (intS i)) ω := by
  unfold eFmt
  rw [h]
  exact if_pos hl
theorem fmt_s {g : GE} {ρ : DEnv} {ω : Store} {y : Str} (h : g ρ ω = .ok (.str y) ω) (hl : y.length ≤ sizeLine) : eFmt g ρ ω = .ok (.str y) ω := by
  unfold eFmt
  rw [h]
  exact if_pos hl
theorem join3 {a b c : GE} {ρ : DEnv} {ω : Store} {x y z : Str} (ha : a ρ ω = .ok (.str x) ω) (hb : b ρ ω = .ok (.str y) ω) (hc : c ρ ω = .ok (.str z) ω) (hl : x.length + y.length + z.length ≤ sizeLine) : eJoined [a, b, c] ρ ω = .ok (.str (x ++ y ++ z)) ω := by
  have e : Str.empty ++ x = x := strE (by rw [cps_app]; rfl)
  have l0 : Str.empty.length = 0 := rfl
  unfold eJoined gJs
  simp only [ha, bind_ok]
  rw [if_pos (by rw [app_len]; omega)]
  unfold gJs
  simp only [hb, bind_ok]
  rw [if_pos (by rw [app_len, app_len]; omega)]
  unfold gJs
  simp only [hc, bind_ok]
  rw [if_pos (by rw [app_len, app_len, app_len]; omega)]
  unfold gJs
  rw [bind_ok, e]
theorem digits_spec {n : Int} (h : n.natAbs < 10 ^ 30) : g_digits_of [.int n] = .ok (.str (intS n)) := by
  have l4 := big_line
  show runP 4 m_digits_of _ = _
  unfold runP m_digits_of
  have ea : (if n < 0 then -n else n) = ((n.natAbs : Nat) : Int) := by split <;> omega
  have hw : ¬ (1000000000000000000000000000000000000000000000000000000000000 : Int) ≤ ((n.natAbs : Nat) : Int) := by omega
  have hn := num_log (i := ((n.natAbs : Nat) : Int)) (by omega)
  have l1 := numS_len (by decide) h
  have l3 := sgn_len (decide (n < 0))
  have ps : ∀ (i j l : Nat) (g : GA) (ρ : DEnv) (ω : Store) (a b c : Dv), g ρ ω = .ok [a, b, c] ω → sPar3 i j l g ρ ω = .next (((ρ.set i (some a)).set j (some b)).set l (some c)) ω := fun i j l g ρ ω a b c e => by unfold sPar3; rw [e]; rfl
  have p1 := ps 1 2 3 (aCons (e2 (fP iPow) (eC (.int 10)) (eC (.int 60))) (aCons (eB (f1V bAbs) (aCons (eVar 0) aNil)) (aCons (eC (.str "")) aNil))) (startD 4 [.int n]) [] (.int 1000000000000000000000000000000000000000000000000000000000000) (.int ((n.natAbs : Nat) : Int)) (.str "") (by simp [startD, pow60, ea, -x_pow])
  have j : eJoined [(eFmt (eIf (gTest (e2 uLt (eVar 0) (eC (.int 0)))) (eC (.str "-")) (eC (.str "")))), (eFmt (eVar 2)), (eFmt (eVar 3))] [some (.int n), some (.int 1000000000000000000000000000000000000000000000000000000000000), some (.int ((n.natAbs : Nat) : Int)), some (.str "")] [] = .ok (.str (sgnS (decide (n < 0)) ++ numS n.natAbs ++ "")) [] := by
    refine join3 (fmt_s ?_ (by omega)) (fmt_i (i := ((n.natAbs : Nat) : Int)) (by simp) hn) (fmt_s (by simp) (by show 0 ≤ _; omega)) (by show _ + _ + 0 ≤ _; omega)
    by_cases hz : n < 0
    · simp [hz]
    · simp [hz]
  have e0 : sgnS (decide (n < 0)) ++ numS n.natAbs ++ "" = intS n := by rw [str_of rfl]; exact strE (by rw [cps_app]; simp [signs_ofString])
  rw [e0] at j
  rw [x_sSeq, p1]
  simp [startD, hw, j]
theorem join2s {x y : Str} {a b c : GE} {ρ : DEnv} {ω : Store} (ha : a ρ ω = .ok (.str x) ω) (hb : b ρ ω = .ok (.str "/") ω) (hc : c ρ ω = .ok (.str y) ω) (hx : x.length ≤ 31) (hy : y.length ≤ 31) : eJoined [a, b, c] ρ ω = .ok (.str (x ++ "/" ++ y)) ω := join3 ha hb hc (by have := big_line; show _ + 1 + _ ≤ _; omega)
theorem str_spec {p : Int × Int} (h1 : p.1.natAbs < 10 ^ 30) (h2 : p.2.natAbs < 10 ^ 30) : g_Ratio_D_strD_ [ratD p] = .ok (.str (pairS p)) := by
  have l4 := big_line
  have b1 := int_len h1
  have b2 := int_len h2
  have f1 : ∀ ω, fFld [0] "top" (ratD p) ω = .ok (.int p.1) ω := fun _ => rfl
  have f2 : ∀ ω, fFld [0] "bottom" (ratD p) ω = .ok (.int p.2) ω := fun _ => rfl
  have d1 := digits_spec h1
  have d2 := digits_spec h2
  show runP 1 m_Ratio_D_strD_ _ = _
  unfold runP m_Ratio_D_strD_ pairS
  by_cases h : p.2 = 1
  · simp [startD, f1, f2, h, d1]
  · have j : eJoined [(eFmt (eCall 1 g_digits_of [] (aCons (e1 (fFld [0] "top") (eVar 0)) aNil))), (eC (.str "/")), (eFmt (eCall 1 g_digits_of [] (aCons (e1 (fFld [0] "bottom") (eVar 0)) aNil)))] [some (ratD p)] [] = .ok (.str (intS p.1 ++ "/" ++ intS p.2)) [] :=
      join2s (fmt_s (by simp [f1, d1]) (by omega)) (by simp) (fmt_s (by simp [f2, d2]) (by omega)) b1 b2
    simp [startD, f2, h, j]
theorem pairS_len {p : Int × Int} (h1 : p.1.natAbs < 10 ^ 30) (h2 : p.2.natAbs < 10 ^ 30) : (pairS p).length ≤ 63 := by
  have b1 := int_len h1
  have b2 := int_len h2
  unfold pairS
  split
  · omega
  · rw [app_len, app_len]; show _ + 1 + _ ≤ _; omega
end Mine
namespace Mine
open PySem PySem.Spec PyProof.Rows L2
theorem sgcd_scale {n d k : Int} (hd : d ≠ 0) (hk : k ≠ 0) : sgcd (n * k) (d * k) = sgcd n d * k := by
  have hg : Nat.gcd (n * k).natAbs (d * k).natAbs = Nat.gcd n.natAbs d.natAbs * k.natAbs := by rw [Int.natAbs_mul, Int.natAbs_mul, Nat.gcd_mul_right]
  unfold sgcd
  rw [hg]
  rcases Int.lt_or_gt_of_ne hk with h | h
  · have ek : ((k.natAbs : Nat) : Int) = -k := by omega
    rcases Int.lt_or_gt_of_ne hd with g | g
    · have : ¬ d * k < 0 := by have := Int.mul_pos_of_neg_of_neg g h; omega
      rw [if_neg this, if_pos g, Int.natCast_mul, ek, Int.mul_neg, Int.neg_mul]
    · have : d * k < 0 := Int.mul_neg_of_pos_of_neg g h
      rw [if_pos this, if_neg (by omega), Int.natCast_mul, ek, Int.mul_neg, Int.neg_neg]
  · have ek : ((k.natAbs : Nat) : Int) = k := by omega
    rcases Int.lt_or_gt_of_ne hd with g | g
    · have : d * k < 0 := Int.mul_neg_of_neg_of_pos g h
      rw [if_pos this, if_pos g, Int.natCast_mul, ek, Int.neg_mul]
    · have : ¬ d * k < 0 := by have := Int.mul_pos g h; omega
      rw [if_neg this, if_neg (by omega), Int.natCast_mul, ek]
theorem low_scale {n d k : Int} (hd : d ≠ 0) (hk : k ≠ 0) : low (n * k) (d * k) = low n d := by
  obtain ⟨e1, e2⟩ := low_mul (n := n) hd
  have hs := sgcd_ne (n := n) hd
  have hz : sgcd n d * k ≠ 0 := Int.mul_ne_zero hs hk
  have q1 : (n * k).fdiv (sgcd n d * k) = (low n d).1 := by
    have : n * k = (low n d).1 * (sgcd n d * k) := by rw [← Int.mul_assoc, e1]
    rw [this, Int.mul_fdiv_cancel _ hz]
  have q2 : (d * k).fdiv (sgcd n d * k) = (low n d).2 := by
    have : d * k = (low n d).2 * (sgcd n d * k) := by rw [← Int.mul_assoc, e2]
    rw [this, Int.mul_fdiv_cancel _ hz]
  have : low (n * k) (d * k) = ((n * k).fdiv (sgcd n d * k), (d * k).fdiv (sgcd n d * k)) := by unfold low; rw [sgcd_scale hd hk]
  rw [this, q1, q2]
/-- what a small number is -/
theorem small_spec {c : Cell} (hb : BagC c) : ∃ d c', BagC c' ∧ d.natAbs < 200000 ∧ g_L_small [.own 0] [c] = .ok (.int d) [c'] := by
  obtain ⟨w, c1, hb1, p0, p1, e1⟩ := pull_spec (many := 9) (rest := []) hb (by decide) (by decide)
  by_cases h : w < 7
  · refine ⟨w - 3, c1, hb1, by omega, ?_⟩
    show runM 2 m_L_small _ _ = _
    unfold runM m_L_small
    simp [startD, e1, h]
  · obtain ⟨z, c2, hb2, q0, q1, e2⟩ := pull_spec (many := 100000) (rest := []) hb1 (by decide) (by decide)
    have hw : w = 7 ∨ w = 8 := by omega
    rcases hw with rfl | rfl
    · refine ⟨-1 * (4 + z), c2, hb2, by omega, ?_⟩
      show runM 2 m_L_small _ _ = _
      unfold runM m_L_small
      have c1' : CMulA (-1) (4 + z) := mulA_l (by decide) (by decide)
      have c0' : CMulA 2 1 := mulA_l (by decide) (by decide)
      simp [startD, e1, e2, c0', c1']
    · refine ⟨1 * (4 + z), c2, hb2, by omega, ?_⟩
      show runM 2 m_L_small _ _ = _
      unfold runM m_L_small
      have c1' : CMulA 1 (4 + z) := mulA_l (by decide) (by decide)
      have c0' : CMulA 2 0 := mulA_l (by decide) (by decide)
      simp [startD, e1, e2, c0', c1']
/-- own == -/
theorem isnum_r (p : Int × Int) : g_is_number [ratD p] = .ok (.bl true) := rfl
theorem rof_r (p : Int × Int) : g_ratio_of [ratD p] = .ok (ratD p) := rfl
theorem eq_rr (p q : Int × Int) : g_Ratio_D_eqD_ [ratD p, ratD q] = .ok (.bl (decide (p.1 = q.1) && decide (p.2 = q.2))) := by
  have f1 : ∀ p ω, fFld [0] "top" (ratD p) ω = .ok (.int p.1) ω := fun _ _ => rfl
  have f2 : ∀ p ω, fFld [0] "bottom" (ratD p) ω = .ok (.int p.2) ω := fun _ _ => rfl
  show runP 3 m_Ratio_D_eqD_ _ = _
  unfold runP m_Ratio_D_eqD_
  by_cases h : p.1 = q.1
  · simp [startD, isnum_r, rof_r, f1, f2, h]
  · simp [startD, isnum_r, rof_r, f1, f2, h]
theorem rof_i (n : Int) : g_ratio_of [.int n] = .ok (ratD (n, 1)) := by
  have e : mkP 0 g_Ratio_D_initD_ [.int n, .int 1] = .ok (ratD (low n 1)) := init_spec (by decide) (by decide)
  have l : low n 1 = (n, 1) := low_of ⟨by decide, by simp⟩
  rw [l] at e
  have i1 : ∀ ω, bIsi subC 1 [.int n, .gl 0] ω = .ok (.bl false) ω := fun _ => rfl
  show runP 1 m_ratio_of _ = _
  unfold runP m_ratio_of
  simp [startD, i1, whole_int, e]
theorem isnum_i (n : Int) : g_is_number [.int n] = .ok (.bl true) := rfl
theorem eq_ri (p : Int × Int) (n : Int) : g_Ratio_D_eqD_ [ratD p, .int n] = .ok (.bl (decide (p.1 = n) && decide (p.2 = 1))) := by
  have f1 : ∀ p ω, fFld [0] "top" (ratD p) ω = .ok (.int p.1) ω := fun _ _ => rfl
  have f2 : ∀ p ω, fFld [0] "bottom" (ratD p) ω = .ok (.int p.2) ω := fun _ _ => rfl
  show runP 3 m_Ratio_D_eqD_ _ = _
  unfold runP m_Ratio_D_eqD_
  by_cases h : p.1 = n
  · simp [startD, isnum_i, rof_i, f1, f2, h]
  · simp [startD, isnum_i, rof_i, f1, f2, h]
theorem eq_rs (p : Int × Int) (s : Str) : g_Ratio_D_eqD_ [ratD p, .str s] = .ok (.bl false) := rfl
/-- the signs as the law writes them -/
abbrev qEq : F2 := fOr (fOr uEq (fEqO 1 0 g_Ratio_D_eqD_ false)) (fEqR 0 g_Ratio_D_eqD_)
abbrev qNe : F2 := fOr uNe (fEqO 1 0 g_Ratio_D_eqD_ true)
section
variable {ω : Store} {p q : Int × Int} {n m : Int} {s : Str} {b : Bool}
theorem q_rr : qEq (ratD p) (ratD q) ω = .ok (.bl (decide (p.1 = q.1) && decide (p.2 = q.2))) ω := by
  have e1 : uEq (ratD p) (ratD q) ω = .bad := rfl
  simp [qEq, fOr, e1, fEqO, asO, tyD', tyLt, eq_rr, noX]
theorem q_ri : qEq (ratD p) (.int n) ω = .ok (.bl (decide (p.1 = n) && decide (p.2 = 1))) ω := by
  have e1 : uEq (ratD p) (.int n) ω = .bad := rfl
  simp [qEq, fOr, e1, fEqO, asO, tyD', tyLt, eq_ri, noX]
theorem q_ir : qEq (.int n) (ratD p) ω = .ok (.bl (decide (p.1 = n) && decide (p.2 = 1))) ω := by
  have e1 : uEq (.int n) (ratD p) ω = .bad := rfl
  have e2 : fEqO 1 0 g_Ratio_D_eqD_ false (.int n) (ratD p) ω = .bad := rfl
  simp [qEq, fOr, e1, e2, fEqR, asO, eq_ri, noX]
theorem q_rs : qEq (ratD p) (.str s) ω = .ok (.bl false) ω := by
  have e1 : uEq (ratD p) (.str s) ω = .bad := rfl
  simp [qEq, fOr, e1, fEqO, asO, tyD', tyLt, eq_rs, noX]
theorem q_ii : qEq (.int n) (.int m) ω = .ok (.bl (decide (n = m))) ω := by simp [qEq, fOr]
theorem n_rr : qNe (ratD p) (ratD q) ω = .ok (.bl (!(decide (p.1 = q.1) && decide (p.2 = q.2)))) ω := by
  have e1 : uNe (ratD p) (ratD q) ω = .bad := rfl
  simp [qNe, fOr, e1, fEqO, asO, tyD', tyLt, eq_rr, noX]
theorem n_ii : qNe (.int n) (.int m) ω = .ok (.bl (!decide (n = m))) ω := by simp [qNe, fOr]
theorem n_tt (a b c d : Int) : qNe (.tup [.int a, .int b]) (.tup [.int c, .int d]) ω = .ok (.bl (!(decide (a = c) && decide (b = d)))) ω := by
  have : uNe (.tup [.int a, .int b]) (.tup [.int c, .int d]) ω = .ok (.bl (!(decide (a = c) && decide (b = d)))) ω := by
    show (Res.ok (.bl (!PyData.eqv (.tuple [.int a, .int b]) (.tuple [.int c, .int d]))) ω : Res Dv) = _
    have : PyData.eqv (.tuple [.int a, .int b]) (.tuple [.int c, .int d]) = (decide (a = c) && decide (b = d)) := by
      simp [PyData.eqv, PyData.eqvAll]
      rfl
    rw [this]
  simp [qNe, fOr, this]
end
theorem repr_spec {p : Int × Int} (h1 : p.1.natAbs < 10 ^ 30) (h2 : p.2.natAbs < 10 ^ 30) : g_Ratio_D_reprD_ [ratD p] = .ok (.str ("Ratio(" ++ pairS p ++ ")")) := by
  have l := pairS_len h1 h2
  have l4 := big_line
  have s0 := str_spec h1 h2
  have o : eOrE (eFmt (eVar 0)) (e1 (fStrO 0 g_Ratio_D_strD_) (eVar 0)) [some (ratD p)] [] = .ok (.str (pairS p)) [] := by
    have e1' : eFmt (eVar 0) [some (ratD p)] [] = .bad := rfl
    unfold eOrE
    rw [e1']
    simp [fStrO, fUnO, asO, s0, noX]
  have j := join3 (a := eC (.str "Ratio(")) (c := eC (.str ")")) (x := "Ratio(") (z := ")") (by simp) o (by simp) (by show 6 + _ + 1 ≤ _; omega)
  show runP 1 m_Ratio_D_reprD_ _ = _
  unfold runP m_Ratio_D_reprD_
  simp [startD, j]
end Mine
namespace Mine
open PySem PySem.Spec PyProof.Rows L2
def b_law : GS :=
 (sSeq (sAsg (eTup (aCons (eCallM 1 g_L_small [] (aCons (eVar 1) aNil)) (aCons (e2 uAdd (eC (.int 1)) (eCallM 2 g_L_pull [] (aCons (eVar 1) (aCons (eC (.int 60)) aNil)))) (aCons (e2 uAdd (eC (.int 1)) (eCallM 2 g_L_pull [] (aCons (eVar 1) (aCons (eC (.int 30)) aNil)))) aNil)))) (tTuple 3 (tsCons (tName 12) (tsCons (tName 3) (tsCons (tName 4) tsNil)))))
 (sSeq (sSet 5 (e2 (fP iSub) (eC (.int 1)) (e2 uMul (eC (.int 2)) (eCallM 2 g_L_pull [] (aCons (eVar 1) (aCons (eC (.int 2)) aNil))))))
 (sSeq (sSet 6 (eCall 2 g_L_low [] (aCons (eVar 12) (aCons (eVar 3) aNil))))
 (sSeq (sSet 7 (eMake 2 0 g_Ratio_D_initD_ [] (aCons (e2 uMul (e2 uMul (eVar 12) (eVar 4)) (eVar 5)) (aCons (e2 uMul (e2 uMul (eVar 3) (eVar 4)) (eVar 5)) aNil))))
 (sSeq (sIf (gOr (gTest (e2 (fOr uNe (fEqO 1 0 g_Ratio_D_eqD_ true)) (eCall 1 g_L_pair [] (aCons (eVar 7) aNil)) (eVar 6))) (gNot (gTest (eCall 2 (g_L_same 8) [] (aCons (ePropD 0 g_Ratio_whole (eVar 7)) (aCons (e2 (fOr (fOr uEq (fEqO 1 0 g_Ratio_D_eqD_ false)) (fEqR 0 g_Ratio_D_eqD_)) (e2 uIx (eVar 6) (eC (.int 1))) (eC (.int 1))) aNil))))))
 (sRet (eC (.bl false)))
 sNext)
 (sSeq (sIf (gNot (gTest (eCall 2 (g_L_same 8) [] (aCons (eLst (aCons (eB (fOrV (f1V bStr) (bStrO 0 g_Ratio_D_strD_)) (aCons (eVar 7) aNil)) (aCons (eB (bStrO 0 g_Ratio_D_reprD_) (aCons (eVar 7) aNil)) aNil))) (aCons (eLst (aCons (eCall 1 g_L_pair_text [] (aCons (eVar 6) aNil)) (aCons (e2 uAdd (e2 uAdd (eC (.str "Ratio(")) (eCall 1 g_L_pair_text [] (aCons (eVar 6) aNil))) (eC (.str ")"))) aNil))) aNil)))))
 (sRet (eC (.bl false)))
 sNext)
 (sSeq (sSet 8 (eIf (gTest (e2 (fOr (fOr uEq (fEqO 1 0 g_Ratio_D_eqD_ false)) (fEqR 0 g_Ratio_D_eqD_)) (eCallM 2 g_L_pull [] (aCons (eVar 1) (aCons (eC (.int 2)) aNil))) (eC (.int 0)))) (eCall 1 g_L_ratio [] (aCons (eTup (aCons (e2 uAdd (e2 uIx (eVar 6) (eC (.int 0))) (eC (.int 1))) (aCons (e2 uIx (eVar 6) (eC (.int 1))) aNil))) aNil)) (eMake 2 0 g_Ratio_D_initD_ [] (aCons (e2 uIx (eVar 6) (eC (.int 0))) (aCons (e2 uAdd (e2 uIx (eVar 6) (eC (.int 1))) (eC (.int 1))) aNil)))))
 (sSeq (sSet 9 (eOr (e2 (fOr uNe (fEqO 1 0 g_Ratio_D_eqD_ true)) (e1 (fFld [0] "top") (eVar 8)) (e2 uIx (eVar 6) (eC (.int 0)))) (e2 (fOr uNe (fEqO 1 0 g_Ratio_D_eqD_ true)) (e1 (fFld [0] "bottom") (eVar 8)) (e2 uIx (eVar 6) (eC (.int 1))))))
 (sSeq (sIf (gNot (gTest (eCall 2 (g_L_same 8) [] (aCons (eLst (aCons (e2 (fOr (fOr uEq (fEqO 1 0 g_Ratio_D_eqD_ false)) (fEqR 0 g_Ratio_D_eqD_)) (eVar 7) (eCall 1 g_L_ratio [] (aCons (eVar 6) aNil))) (aCons (e2 (fOr (fOr uEq (fEqO 1 0 g_Ratio_D_eqD_ false)) (fEqR 0 g_Ratio_D_eqD_)) (eVar 7) (eVar 8)) (aCons (e2 (fOr uNe (fEqO 1 0 g_Ratio_D_eqD_ true)) (eVar 7) (eVar 8)) aNil)))) (aCons (eLst (aCons (eC (.bl true)) (aCons (eNot (eVar 9)) (aCons (eVar 9) aNil)))) aNil)))))
 (sRet (eC (.bl false)))
 sNext)
 (sSeq (sIf (gNot (gTest (eCall 2 (g_L_same 8) [] (aCons (eLst (aCons (e2 (fOr (fOr uEq (fEqO 1 0 g_Ratio_D_eqD_ false)) (fEqR 0 g_Ratio_D_eqD_)) (eVar 7) (e2 uIx (eVar 6) (eC (.int 0)))) (aCons (e2 (fOr (fOr uEq (fEqO 1 0 g_Ratio_D_eqD_ false)) (fEqR 0 g_Ratio_D_eqD_)) (e2 uIx (eVar 6) (eC (.int 0))) (eVar 7)) (aCons (e2 (fOr (fOr uEq (fEqO 1 0 g_Ratio_D_eqD_ false)) (fEqR 0 g_Ratio_D_eqD_)) (eVar 7) (eB (fOrV (f1V bStr) (bStrO 0 g_Ratio_D_strD_)) (aCons (e2 uIx (eVar 6) (eC (.int 0))) aNil))) aNil)))) (aCons (eLst (aCons (e2 (fOr (fOr uEq (fEqO 1 0 g_Ratio_D_eqD_ false)) (fEqR 0 g_Ratio_D_eqD_)) (e2 uIx (eVar 6) (eC (.int 1))) (eC (.int 1))) (aCons (e2 (fOr (fOr uEq (fEqO 1 0 g_Ratio_D_eqD_ false)) (fEqR 0 g_Ratio_D_eqD_)) (e2 uIx (eVar 6) (eC (.int 1))) (eC (.int 1))) (aCons (eC (.bl false)) aNil)))) aNil)))))
 (sRet (eC (.bl false)))
 sNext)
 (sSeq (sIf (gOr (gNot (gTest (eCall 2 (g_L_same 8) [] (aCons (eCall 1 g_L_pair [] (aCons (eMake 2 0 g_Ratio_D_initD_ [.int 1] (aCons (eVar 12) aNil)) aNil)) (aCons (eTup (aCons (eVar 12) (aCons (eC (.int 1)) aNil))) aNil))))) (gOr (gTest (e2 (fOr (fOr uEq (fEqO 1 0 g_Ratio_D_eqD_ false)) (fEqR 0 g_Ratio_D_eqD_)) (eMake 2 0 g_Ratio_D_initD_ [.int 1] (aCons (eC (.int 1)) aNil)) (eC (.bl true)))) (gTest (e2 (fOr (fOr uEq (fEqO 1 0 g_Ratio_D_eqD_ false)) (fEqR 0 g_Ratio_D_eqD_)) (eMake 2 0 g_Ratio_D_initD_ [.int 1] (aCons (eC (.int 0)) aNil)) (eC .non)))))
 (sRet (eC (.bl false)))
 sNext)
 (sSeq (sSet 11 (eCallM 2 g_L_of [] (aCons (eVar 1) (aCons (eLst (aCons (eC .non) (aCons (eC (.str "1")) (aCons (eC (.bl true)) (aCons (eLst (aCons (eC (.int 1)) aNil)) (aCons (eTup (aCons (eC (.int 1)) (aCons (eC (.int 2)) aNil))) (aCons (eC (.str "")) aNil))))))) aNil))))
 (sSeq (sSet 10 (eLst (aCons (eLam 0) (aCons (eLam 1) (aCons (eLam 2) aNil)))))
 (sIf (gNot (gTest (eCall 2 (g_L_same 8) [] (aCons (eLc (iAny (eVar 10)) (tName 13) gYes (eWhyB errTab lamMs [13] (eVar 13)) [13]) (aCons (eLst (aCons (eTup (aCons (eC (.str "InvalidNumber")) (aCons (eVar 11) aNil))) (aCons (eTup (aCons (eC (.str "InvalidNumber")) (aCons (eVar 11) aNil))) (aCons (eTup (aCons (eC (.str "InvalidNumber")) (aCons (eC (.int 0)) aNil))) aNil)))) aNil)))))
 (sRet (eC (.bl false)))
 sNext))))))))))))))
theorem m_law_eq : m_law = (sSeq (sSet 1 (eCallM 1 g_L_bag [] (aCons (eVar 0) aNil)))
 (sSeq (sFor (iRange1 (aCons (eC (.int 3)) aNil)) (tName 2) b_law)
 (sRet (eC (.bl true))))) := rfl
end Mine
namespace Mine
open PySem PySem.Spec PyProof.Rows L2
theorem asg3 {g : GE} {i j k : Nat} {ρ : DEnv} {ω ω' : Store} {a b c : Dv} (e : g ρ ω = .ok (.tup [a, b, c]) ω') : sAsg g (tTuple 3 (tsCons (tName i) (tsCons (tName j) (tsCons (tName k) tsNil)))) ρ ω = .next (((ρ.set i (some a)).set j (some b)).set k (some c)) ω' := by
  unfold sAsg
  rw [e]
  rfl
def odds : List Dv := [.non, .str "1", .bl true, .lst [.int 1], .tup [.int 1, .int 2], .str ""]
theorem whys {o : Dv} (h : o ∈ odds) (top : Int) (a0 a1 a2 a3 a4 a5 a6 a7 a8 a9 a10 : Option Dv) (c : Cell) : eLc (iAny (eVar 10)) (tName 13) gYes (eWhyB errTab lamMs [13] (eVar 13)) [13] [a0, a1, a2, a3, a4, a5, a6, a7, a8, a9, some (.lst [.lam 0, .lam 1, .lam 2]), some o, some (.int top), none] [c] = .ok (.lst [.tup [.str "InvalidNumber", o], .tup [.str "InvalidNumber", o], .tup [.str "InvalidNumber", .int 0]]) [c] := by
  unfold odds at h
  simp only [List.mem_cons, List.not_mem_nil, or_false] at h
  rcases h with rfl | rfl | rfl | rfl | rfl | rfl <;> kernel_rfl
theorem odd_pl {o : Dv} (h : o ∈ odds) : Pl 5 o = true ∧ clean o = true := by
  unfold odds at h
  simp only [List.mem_cons, List.not_mem_nil, or_false] at h
  rcases h with rfl | rfl | rfl | rfl | rfl | rfl <;> exact ⟨by decide, rfl⟩
def Inv2 (s : Dv) (ρ : DEnv) (ω : Store) : Prop := ∃ (c : Cell) (x2 x3 x4 x5 x6 x7 x8 x9 x10 x11 x12 : Option Dv), BagC c ∧ ρ = [some s, some (.own 0), x2, x3, x4, x5, x6, x7, x8, x9, x10, x11, x12, none] ∧ ω = [c]
theorem body_ok (s : Dv) : ∀ d ρ ω, Inv2 s ρ ω → Runs b_law (ρ.set 2 (some d)) ω (Inv2 s) := by
  rintro d ρ ω ⟨c, x2, x3, x4, x5, x6, x7, x8, x9, x10, x11, x12, hb, rfl, rfl⟩
  simp only [List.set_cons_succ, List.set_cons_zero]
  obtain ⟨n, c1, hb1, hn, e1⟩ := small_spec hb
  obtain ⟨l, c2, hb2, l0, l1, e2⟩ := pull_spec (many := 60) (rest := []) hb1 (by decide) (by decide)
  obtain ⟨k, c3, hb3, k0, k1, e3⟩ := pull_spec (many := 30) (rest := []) hb2 (by decide) (by decide)
  obtain ⟨g, c4, hb4, g0, g1, e4⟩ := pull_spec (many := 2) (rest := []) hb3 (by decide) (by decide)
  obtain ⟨z, c5, hb5, z0, z1, e5⟩ := pull_spec (many := 2) (rest := []) hb4 (by decide) (by decide)
  obtain ⟨o, c6, hb6, ho, e6⟩ := of_spec (l := odds) (rest := []) hb5 (fun z => nomatch z) (by decide)
  obtain ⟨b, hbe⟩ : ∃ b, 1 + l = b := ⟨_, rfl⟩
  obtain ⟨sc, hsc⟩ : ∃ sc, 1 + k = sc := ⟨_, rfl⟩
  obtain ⟨sg, hsg⟩ : ∃ sg, 1 - 2 * g = sg := ⟨_, rfl⟩
  have sg0 : sg = 1 ∨ sg = -1 := by omega
  have b0 : b ≠ 0 := by omega
  have ks : sc * sg ≠ 0 := Int.mul_ne_zero (by omega) (by omega)
  have hlow := low_spec (n := n) (d := b) b0 (by omega)
  have hsc2 := low_scale (n := n) (d := b) (k := sc * sg) b0 ks
  rw [← Int.mul_assoc, ← Int.mul_assoc] at hsc2
  have bnd : (b * sc * sg).natAbs < 2 ^ 64 := by
    rw [Int.natAbs_mul, Int.natAbs_mul]
    have h1 : b.natAbs ≤ 60 := by omega
    have h2 : sc.natAbs ≤ 30 := by omega
    have h3 : sg.natAbs = 1 := by omega
    rw [h3, Nat.mul_one]
    calc b.natAbs * sc.natAbs ≤ 60 * 30 := Nat.mul_le_mul h1 h2
      _ < 2 ^ 64 := by decide
  have hne : b * sc * sg ≠ 0 := by rw [Int.mul_assoc]; exact Int.mul_ne_zero b0 ks
  have hinit := init_spec (n := n * sc * sg) (d := b * sc * sg) hne bnd
  rw [hsc2] at hinit
  have lo := low_lo (n := n) (d := b) b0
  have le := low_le (n := n) (d := b) b0
  generalize hP : low n b = P at *
  obtain ⟨p, q⟩ := P
  dsimp only at lo le hlow
  have p30 : p.natAbs < 10 ^ 30 := by omega
  have q30 : q.natAbs < 10 ^ 30 := by omega
  have q0 := lo.1
  have m1 : CMulA n sc := mulA_l (by omega) (by omega)
  have m2 : CMulA (n * sc) sg := mulA_r (by omega) (by omega)
  have m3 : CMulA b sc := mulA_l (by omega) (by omega)
  have m4 : CMulA (b * sc) sg := mulA_r (by omega) (by omega)
  have m5 : CMulA 2 g := mulA_l (by decide) (by decide)
  have pt := pair_text_spec (p := (p, q)) p30 q30
  have st := str_spec (p := (p, q)) p30 q30
  have rp := repr_spec (p := (p, q)) p30 q30
  have pl := pairS_len (p := (p, q)) p30 q30
  have l4 := big_line
  have lR : (("Ratio(" : String) : Str).length = 6 := rfl
  have lP : ((")" : String) : Str).length = 1 := rfl
  have a1 := fun ω => x_adds (ω := ω) "Ratio(" (pairS (p, q)) (by omega)
  have a2 := fun ω => x_adds (ω := ω) ("Ratio(" ++ pairS (p, q)) ")" (by rw [app_len]; omega)
  have pr := pair_spec (p, q)
  unfold b_law
  refine .seq (asg3 (a := .int n) (b := .int b) (c := .int sc) (ω' := [c3]) ?_) ?_
  · simp [e1, e2, e3, hbe, hsc]
  simp only [List.set_cons_succ, List.set_cons_zero]
  refine .set (d := .int sg) (ω' := [c4]) ?_ ?_
  · simp [e4, m5, hsg]
  simp only [List.set_cons_succ, List.set_cons_zero]
  refine .set (d := .tup [.int p, .int q]) (ω' := [c4]) ?_ ?_
  · simp [hlow]
  simp only [List.set_cons_succ, List.set_cons_zero]
  refine .set (d := ratD (p, q)) (ω' := [c4]) ?_ ?_
  · simp [m1, m2, m3, m4, hinit]
  simp only [List.set_cons_succ, List.set_cons_zero]
  refine .ifF (ω' := [c4]) ?_ ?_
  · have w : ePropD 0 g_Ratio_whole (eVar 7) [some s, some (.own 0), some d, some (.int b), some (.int sc), some (.int sg), some (.tup [.int p, .int q]), some (ratD (p, q)), x8, x9, x10, x11, some (.int n), none] [c4] = .ok (.bl (decide (q = 1))) [c4] := by
      have gw : g_Ratio_whole [ratD (p, q)] = .ok (.bl (decide (q = 1))) := rfl
      unfold ePropD
      simp [asO, gw]
    have sm : g_L_same 8 [.bl (decide (q = 1)), .bl (decide (q = 1))] = .ok (.bl true) := same8 rfl
    simp [pr, n_tt, w, q_ii, sm]
  refine .ifF (ω' := [c4]) ?_ ?_
  · have s1 : fOrV (f1V bStr) (bStrO 0 g_Ratio_D_strD_) [ratD (p, q)] [c4] = .ok (.str (pairS (p, q))) [c4] := by
      have e : f1V bStr [ratD (p, q)] [c4] = .bad := rfl
      unfold fOrV
      rw [e]
      simp [bStrO, fStrO, fUnO, asO, st, noX]
    have s2 : bStrO 0 g_Ratio_D_reprD_ [ratD (p, q)] [c4] = .ok (.str ("Ratio(" ++ pairS (p, q) ++ ")")) [c4] := by
      simp [bStrO, fStrO, fUnO, asO, rp, noX]
    have sm : g_L_same 8 [.lst [.str (pairS (p, q)), .str ("Ratio(" ++ pairS (p, q) ++ ")")], .lst [.str (pairS (p, q)), .str ("Ratio(" ++ pairS (p, q) ++ ")")]] = .ok (.bl true) := same8 (by simp [Pl])
    simp [s1, s2, pt, a1, a2, sm]
  obtain ⟨R, hR⟩ : ∃ R : Int × Int, (if z = 0 then low (p + 1) q else low p (q + 1)) = R := ⟨_, rfl⟩
  have i1 := init_spec (n := p + 1) (d := q) (by omega) (by omega)
  have i2 := init_spec (n := p) (d := q + 1) (by omega) (by omega)
  have rr : g_L_ratio [.tup [.int (p + 1), .int q]] = .ok (ratD (low (p + 1) q)) := by
    show runP 1 m_L_ratio _ = _
    unfold runP m_L_ratio
    simp [startD, i1]
  have rr0 : g_L_ratio [.tup [.int p, .int q]] = .ok (ratD (p, q)) := by
    have i0 := init_spec (n := p) (d := q) (by omega) (by omega)
    rw [low_of lo] at i0
    show runP 1 m_L_ratio _ = _
    unfold runP m_L_ratio
    simp [startD, i0]
  refine .set (d := ratD R) (ω' := [c5]) ?_ ?_
  · by_cases hz : z = 0
    · subst hz
      rw [if_pos rfl] at hR
      subst hR
      simp [e5, q_ii, rr]
    · rw [if_neg hz] at hR
      subst hR
      simp [e5, q_ii, hz, i2]
  simp only [List.set_cons_succ, List.set_cons_zero]
  have ft : ∀ ω, fFld [0] "top" (ratD R) ω = .ok (.int R.1) ω := fun _ => rfl
  have fb : ∀ ω, fFld [0] "bottom" (ratD R) ω = .ok (.int R.2) ω := fun _ => rfl
  refine .set (d := .bl (!(decide (p = R.1) && decide (q = R.2)))) (ω' := [c5]) ?_ ?_
  · by_cases h1 : R.1 = p
    · by_cases h2 : R.2 = q
      · simp [ft, fb, n_ii, h1, h2]
      · have h2' : ¬ q = R.2 := fun e => h2 e.symm
        simp [ft, fb, n_ii, h1, h2, h2']
    · have h1' : ¬ p = R.1 := fun e => h1 e.symm
      simp [ft, fb, n_ii, h1, h1']
  simp only [List.set_cons_succ, List.set_cons_zero]
  obtain ⟨B, hB⟩ : ∃ B, (decide (p = R.1) && decide (q = R.2)) = B := ⟨_, rfl⟩
  have t1 : ∀ ω, qEq (ratD (p, q)) (ratD R) ω = .ok (.bl B) ω := fun ω => by rw [q_rr, ← hB]
  have t2 : ∀ ω, qNe (ratD (p, q)) (ratD R) ω = .ok (.bl (!B)) ω := fun ω => by rw [n_rr, ← hB]
  have t0 : ∀ ω, qEq (ratD (p, q)) (ratD (p, q)) ω = .ok (.bl true) ω := fun ω => by rw [q_rr]; simp
  rw [hB]
  refine .ifF (ω' := [c5]) ?_ ?_
  · have sm : g_L_same 8 [.lst [.bl true, .bl B, .bl (!B)], .lst [.bl true, .bl B, .bl (!B)]] = .ok (.bl true) := same8 (by simp [Pl])
    simp [rr0, t0, t1, t2, sm]
  have ls := fun ω => x_strI (ω := ω) p (num_log (by omega))
  refine .ifF (ω' := [c5]) ?_ ?_
  · have s1 : ∀ ω, fOrV (f1V bStr) (bStrO 0 g_Ratio_D_strD_) [.int p] ω = .ok (.str (intS p)) ω := fun ω => by unfold fOrV; rw [ls]
    have u1 : ∀ ω, qEq (ratD (p, q)) (.int p) ω = .ok (.bl (decide (q = 1))) ω := fun ω => by rw [q_ri]; simp
    have u2 : ∀ ω, qEq (.int p) (ratD (p, q)) ω = .ok (.bl (decide (q = 1))) ω := fun ω => by rw [q_ir]; simp
    have u3 : ∀ ω t, qEq (ratD (p, q)) (.str t) ω = .ok (.bl false) ω := fun ω t => q_rs
    have sm : g_L_same 8 [.lst [.bl (decide (q = 1)), .bl (decide (q = 1)), .bl false], .lst [.bl (decide (q = 1)), .bl (decide (q = 1)), .bl false]] = .ok (.bl true) := same8 (by simp [Pl])
    simp [s1, u1, u2, u3, q_ii, sm]
  refine .ifF (ω' := [c5]) ?_ ?_
  · have i3 := init_spec (n := n) (d := 1) (by decide) (by decide)
    have ln : low n 1 = (n, 1) := low_of ⟨by decide, by simp⟩
    rw [ln] at i3
    have pn := pair_spec (n, 1)
    have sm : g_L_same 8 [.tup [.int n, .int 1], .tup [.int n, .int 1]] = .ok (.bl true) := same8 (by simp [Pl])
    have j1 : mkP 0 g_Ratio_D_initD_ [.int 1, .int 1] = .ok (ratD (1, 1)) := by kernel_rfl
    have j0 : mkP 0 g_Ratio_D_initD_ [.int 0, .int 1] = .ok (ratD (0, 1)) := by kernel_rfl
    have v1 : ∀ ω, qEq (ratD (1, 1)) (.bl true) ω = .ok (.bl false) ω := fun _ => rfl
    have v2 : ∀ ω, qEq (ratD (0, 1)) .non ω = .ok (.bl false) ω := fun _ => rfl
    simp [i3, pn, sm, j1, j0, v1, v2]
  have op := odd_pl ho
  refine .set (d := o) (ω' := [c6]) ?_ ?_
  · unfold odds at e6
    simp [e6]
  simp only [List.set_cons_succ, List.set_cons_zero]
  refine .set (d := .lst [.lam 0, .lam 1, .lam 2]) (ω' := [c6]) ?_ ?_
  · kernel_rfl
  simp only [List.set_cons_succ, List.set_cons_zero]
  refine .ifE (ω' := [c6]) ?_ ⟨c6, _, _, _, _, _, _, _, _, _, _, _, hb6, rfl, rfl⟩
  have wh := whys ho n (some s) (some (.own 0)) (some d) (some (.int b)) (some (.int sc)) (some (.int sg)) (some (.tup [.int p, .int q])) (some (ratD (p, q))) (some (ratD R)) (some (.bl (!B))) none c6
  have wh := whys ho n (some s) (some (.own 0)) (some d) (some (.int b)) (some (.int sc)) (some (.int sg)) (some (.tup [.int p, .int q])) (some (ratD (p, q))) (some (ratD R)) (some (.bl (!B))) none c6
  have sm : g_L_same 8 [.lst [.tup [.str "InvalidNumber", o], .tup [.str "InvalidNumber", o], .tup [.str "InvalidNumber", .int 0]], .lst [.tup [.str "InvalidNumber", o], .tup [.str "InvalidNumber", o], .tup [.str "InvalidNumber", .int 0]]] = .ok (.bl true) := same8 (by simp [Pl, op.1])
  simp [wh, sm, op.2, -x_eLc]
theorem seq_n {g h : GS} {ρ ρ' : DEnv} {ω ω' : Store} (e : g ρ ω = .next ρ' ω') : sSeq g h ρ ω = h ρ' ω' := by rw [x_sSeq, e]
theorem law_true (ns : List Int) : ∃ ω, g_law [.scr ns] [] = .ok (.bl true) ω := by
  obtain ⟨c, hb, e⟩ := bag_spec ns
  obtain ⟨ρ', ω', el, c', x2, x3, x4, x5, x6, x7, x8, x9, x10, x11, x12, hb', rfl, rfl⟩ := loop_inv (body_ok (.scr ns)) (rangeD 0 3) [some (.scr ns), some (.own 0), none, none, none, none, none, none, none, none, none, none, none, none] [c] ⟨c, _, _, _, _, _, _, _, _, _, _, _, hb, rfl, rfl⟩
  refine ⟨[c'], ?_⟩
  show runM 14 m_law [.scr ns] [] = _
  have h : m_law (startD 14 [.scr ns]) [] = .ret (.bl true) [c'] := by
    rw [m_law_eq]
    refine (seq_n (ρ' := [some (.scr ns), some (.own 0), none, none, none, none, none, none, none, none, none, none, none, none]) (ω' := [c]) ?_).trans ?_
    · simp [startD, e]
    refine (seq_n (ρ' := [some (.scr ns), some (.own 0), x2, x3, x4, x5, x6, x7, x8, x9, x10, x11, x12, none]) (ω' := [c']) ?_).trans ?_
    · have er : ∀ ρ ω, iRange1 (aCons (eC (.int 3)) aNil) ρ ω = .ok (rangeD 0 3) ω := fun _ _ => rfl
      rw [x_sFor, er, x_then]
      exact el
    rfl
  unfold runM
  rw [h]
end Mine
namespace Mine
open PySem PySem.Spec PyProof.Rows L2
theorem all_mk {l : PySem.W.OpenLaw} {w : World} {K : PySem.W.Frag} {h : Heap} {mg : Str → Option Value} {fa : Addr} (X : K.In h) (G : h.Ns mainGlobals mg) (hfa : mg "law" = some (.ref fa)) (own : LamX.OwnTab K fa h)
    {C_Ratio C_SlopeError C_InvalidNumber C_InvalidText C_Missing : Addr} {f_law : Addr} {oc_law dc_law pm_law ct_law : Value} {od_law an_law : Option Addr} {sl_law : Array (Option Value)} {kV_law : Value} {cz Pt : Addr} {f_InvalidNumber_D_initD_ : Addr} {oc_InvalidNumber_D_initD_ dc_InvalidNumber_D_initD_ pm_InvalidNumber_D_initD_ ct_InvalidNumber_D_initD_ : Value} {od_InvalidNumber_D_initD_ an_InvalidNumber_D_initD_ : Option Addr} {sl_InvalidNumber_D_initD_ : Array (Option Value)} {kV_InvalidNumber_D_initD_ : Value} {cd_InvalidNumber_D_initD_ : Value} {f_L_same : Addr} {oc_L_same dc_L_same pm_L_same ct_L_same : Value} {od_L_same an_L_same : Option Addr} {sl_L_same : Array (Option Value)} {kV_L_same : Value} {cd_L_same : Value} {f_L_pull : Addr} {oc_L_pull dc_L_pull pm_L_pull ct_L_pull : Value} {od_L_pull an_L_pull : Option Addr} {sl_L_pull : Array (Option Value)} {kV_L_pull : Value} {cd_L_pull : Value} {f_L_of : Addr} {oc_L_of dc_L_of pm_L_of ct_L_of : Value} {od_L_of an_L_of : Option Addr} {sl_L_of : Array (Option Value)} {kV_L_of : Value} {cd_L_of : Value} {f_is_whole : Addr} {oc_is_whole dc_is_whole pm_is_whole ct_is_whole : Value} {od_is_whole an_is_whole : Option Addr} {sl_is_whole : Array (Option Value)} {kV_is_whole : Value} {cd_is_whole : Value} {f_Ratio_D_initD_ : Addr} {oc_Ratio_D_initD_ dc_Ratio_D_initD_ pm_Ratio_D_initD_ ct_Ratio_D_initD_ : Value} {od_Ratio_D_initD_ an_Ratio_D_initD_ : Option Addr} {sl_Ratio_D_initD_ : Array (Option Value)} {kV_Ratio_D_initD_ : Value} {cd_Ratio_D_initD_ : Value} {TD_Ratio_D_initD_ : Addr} {nT_Ratio_D_initD_ : Nat} {odT_Ratio_D_initD_ : Option Addr} {slT_Ratio_D_initD_ : Array (Option Value)} {tD0_Ratio_D_initD_ : Tok} {f_ratio_of : Addr} {oc_ratio_of dc_ratio_of pm_ratio_of ct_ratio_of : Value} {od_ratio_of an_ratio_of : Option Addr} {sl_ratio_of : Array (Option Value)} {kV_ratio_of : Value} {cd_ratio_of : Value} {f_is_number : Addr} {oc_is_number dc_is_number pm_is_number ct_is_number : Value} {od_is_number an_is_number : Option Addr} {sl_is_number : Array (Option Value)} {kV_is_number : Value} {cd_is_number : Value} {f_Ratio_D_eqD_ : Addr} {oc_Ratio_D_eqD_ dc_Ratio_D_eqD_ pm_Ratio_D_eqD_ ct_Ratio_D_eqD_ : Value} {od_Ratio_D_eqD_ an_Ratio_D_eqD_ : Option Addr} {sl_Ratio_D_eqD_ : Array (Option Value)} {kV_Ratio_D_eqD_ : Value} {cd_Ratio_D_eqD_ : Value} {f_L_pair : Addr} {oc_L_pair dc_L_pair pm_L_pair ct_L_pair : Value} {od_L_pair an_L_pair : Option Addr} {sl_L_pair : Array (Option Value)} {kV_L_pair : Value} {cd_L_pair : Value} {f_digits_of : Addr} {oc_digits_of dc_digits_of pm_digits_of ct_digits_of : Value} {od_digits_of an_digits_of : Option Addr} {sl_digits_of : Array (Option Value)} {kV_digits_of : Value} {cd_digits_of : Value} {f_Ratio_D_strD_ : Addr} {oc_Ratio_D_strD_ dc_Ratio_D_strD_ pm_Ratio_D_strD_ ct_Ratio_D_strD_ : Value} {od_Ratio_D_strD_ an_Ratio_D_strD_ : Option Addr} {sl_Ratio_D_strD_ : Array (Option Value)} {kV_Ratio_D_strD_ : Value} {cd_Ratio_D_strD_ : Value} {f_L_ratio : Addr} {oc_L_ratio dc_L_ratio pm_L_ratio ct_L_ratio : Value} {od_L_ratio an_L_ratio : Option Addr} {sl_L_ratio : Array (Option Value)} {kV_L_ratio : Value} {cd_L_ratio : Value} {f_L_pair_text : Addr} {oc_L_pair_text dc_L_pair_text pm_L_pair_text ct_L_pair_text : Value} {od_L_pair_text an_L_pair_text : Option Addr} {sl_L_pair_text : Array (Option Value)} {kV_L_pair_text : Value} {cd_L_pair_text : Value} {f_Ratio_D_reprD_ : Addr} {oc_Ratio_D_reprD_ dc_Ratio_D_reprD_ pm_Ratio_D_reprD_ ct_Ratio_D_reprD_ : Value} {od_Ratio_D_reprD_ an_Ratio_D_reprD_ : Option Addr} {sl_Ratio_D_reprD_ : Array (Option Value)} {kV_Ratio_D_reprD_ : Value} {cd_Ratio_D_reprD_ : Value} {f_Ratio_whole : Addr} {oc_Ratio_whole dc_Ratio_whole pm_Ratio_whole ct_Ratio_whole : Value} {od_Ratio_whole an_Ratio_whole : Option Addr} {sl_Ratio_whole : Array (Option Value)} {kV_Ratio_whole : Value} {cd_Ratio_whole : Value} {p_Ratio_whole : Addr} {rest_Ratio_whole : List Value} {f_L_low : Addr} {oc_L_low dc_L_low pm_L_low ct_L_low : Value} {od_L_low an_L_low : Option Addr} {sl_L_low : Array (Option Value)} {kV_L_low : Value} {cd_L_low : Value} {f_L_small : Addr} {oc_L_small dc_L_small pm_L_small ct_L_small : Value} {od_L_small an_L_small : Option Addr} {sl_L_small : Array (Option Value)} {kV_L_small : Value} {cd_L_small : Value} {f_L_bag : Addr} {oc_L_bag dc_L_bag pm_L_bag ct_L_bag : Value} {od_L_bag an_L_bag : Option Addr} {sl_L_bag : Array (Option Value)} {kV_L_bag : Value} {cd_L_bag : Value} {f_L_other_field : Addr} {oc_L_other_field dc_L_other_field pm_L_other_field ct_L_other_field : Value} {od_L_other_field an_L_other_field : Option Addr} {sl_L_other_field : Array (Option Value)} {kV_L_other_field : Value} {cd_L_other_field : Value} {f_L_field : Addr} {oc_L_field dc_L_field pm_L_field ct_L_field : Value} {od_L_field an_L_field : Option Addr} {sl_L_field : Array (Option Value)} {kV_L_field : Value} {cd_L_field : Value} {f_L_why : Addr} {oc_L_why dc_L_why pm_L_why ct_L_why : Value} {od_L_why an_L_why : Option Addr} {sl_L_why : Array (Option Value)} {kV_L_why : Value} {cd_L_why : Value} {cdo : Value} {cdd : Option Addr} {cvs : Array Value} {csl : Array (Option Value)} {nm_InvalidNumber q_InvalidNumber : Str} {N_InvalidNumber : Addr} {bs_InvalidNumber bm_InvalidNumber : List Value} {sn_InvalidNumber : List Str} {sub_InvalidNumber : List Value} {ab_InvalidNumber : Bool} {col_InvalidNumber : Option Bool} {dd_InvalidNumber : Option Addr} {m0_InvalidNumber m1_InvalidNumber m2_InvalidNumber m3_InvalidNumber m5_InvalidNumber : Option Value} {nm_InvalidText q_InvalidText : Str} {N_InvalidText : Addr} {bs_InvalidText bm_InvalidText : List Value} {sn_InvalidText : List Str} {sub_InvalidText : List Value} {ab_InvalidText : Bool} {col_InvalidText : Option Bool} {dd_InvalidText : Option Addr} {m0_InvalidText m1_InvalidText m2_InvalidText m3_InvalidText m5_InvalidText : Option Value}
    (a_C_Ratio : PySem.W.nsIn K mainGlobals "Ratio" = some (some (.ref C_Ratio)))
    (a_C_SlopeError : PySem.W.nsIn K mainGlobals "SlopeError" = some (some (.ref C_SlopeError)))
    (a_C_InvalidNumber : PySem.W.nsIn K mainGlobals "InvalidNumber" = some (some (.ref C_InvalidNumber)))
    (a_C_InvalidText : PySem.W.nsIn K mainGlobals "InvalidText" = some (some (.ref C_InvalidText)))
    (a_C_Missing : PySem.W.nsIn K mainGlobals "Missing" = some (some (.ref C_Missing)))
    (a_law : PySem.W.nsIn K mainGlobals "law" = some (some (.ref f_law)))
    (l_law : K.lookup f_law = some ⟨oc_law, od_law, .func (PySem.W.fnOf "law" "law" (defArgs s_law) (defBody s_law) (defScope s_law) .none kV_law dc_law pm_law an_law (.ref cz) ct_law), sl_law⟩)
    (c_law : PySem.W.codeIn K (.ref cz) "law" = true)
    (k_law : PySem.W.keepIn K (.ref f_law) = true)
    (a_InvalidNumber_D_initD_ : PySem.W.findIn K (.ref C_InvalidNumber) "__init__" = some (some (.ref f_InvalidNumber_D_initD_)))
    (l_InvalidNumber_D_initD_ : K.lookup f_InvalidNumber_D_initD_ = some ⟨oc_InvalidNumber_D_initD_, od_InvalidNumber_D_initD_, .func (PySem.W.fnOf "__init__" "InvalidNumber.__init__" (defArgs s_InvalidNumber_D_initD_) (defBody s_InvalidNumber_D_initD_) (defScope s_InvalidNumber_D_initD_) .none kV_InvalidNumber_D_initD_ dc_InvalidNumber_D_initD_ pm_InvalidNumber_D_initD_ an_InvalidNumber_D_initD_ cd_InvalidNumber_D_initD_ ct_InvalidNumber_D_initD_), sl_InvalidNumber_D_initD_⟩)
    (c_InvalidNumber_D_initD_ : PySem.W.codeIn K cd_InvalidNumber_D_initD_ "InvalidNumber.__init__" = true)
    (k_InvalidNumber_D_initD_ : PySem.W.keepIn K (.ref f_InvalidNumber_D_initD_) = true)
    (a_L_same : PySem.W.nsIn K mainGlobals "_law_same" = some (some (.ref f_L_same)))
    (l_L_same : K.lookup f_L_same = some ⟨oc_L_same, od_L_same, .func (PySem.W.fnOf "_law_same" "_law_same" (defArgs s_L_same) (defBody s_L_same) (defScope s_L_same) .none kV_L_same dc_L_same pm_L_same an_L_same cd_L_same ct_L_same), sl_L_same⟩)
    (c_L_same : PySem.W.codeIn K cd_L_same "_law_same" = true)
    (k_L_same : PySem.W.keepIn K (.ref f_L_same) = true)
    (a_L_pull : PySem.W.nsIn K mainGlobals "_law_pull" = some (some (.ref f_L_pull)))
    (l_L_pull : K.lookup f_L_pull = some ⟨oc_L_pull, od_L_pull, .func (PySem.W.fnOf "_law_pull" "_law_pull" (defArgs s_L_pull) (defBody s_L_pull) (defScope s_L_pull) .none kV_L_pull dc_L_pull pm_L_pull an_L_pull cd_L_pull ct_L_pull), sl_L_pull⟩)
    (c_L_pull : PySem.W.codeIn K cd_L_pull "_law_pull" = true)
    (k_L_pull : PySem.W.keepIn K (.ref f_L_pull) = true)
    (a_L_of : PySem.W.nsIn K mainGlobals "_law_of" = some (some (.ref f_L_of)))
    (l_L_of : K.lookup f_L_of = some ⟨oc_L_of, od_L_of, .func (PySem.W.fnOf "_law_of" "_law_of" (defArgs s_L_of) (defBody s_L_of) (defScope s_L_of) .none kV_L_of dc_L_of pm_L_of an_L_of cd_L_of ct_L_of), sl_L_of⟩)
    (c_L_of : PySem.W.codeIn K cd_L_of "_law_of" = true)
    (k_L_of : PySem.W.keepIn K (.ref f_L_of) = true)
    (a_is_whole : PySem.W.nsIn K mainGlobals "is_whole" = some (some (.ref f_is_whole)))
    (l_is_whole : K.lookup f_is_whole = some ⟨oc_is_whole, od_is_whole, .func (PySem.W.fnOf "is_whole" "is_whole" (defArgs s_is_whole) (defBody s_is_whole) (defScope s_is_whole) .none kV_is_whole dc_is_whole pm_is_whole an_is_whole cd_is_whole ct_is_whole), sl_is_whole⟩)
    (c_is_whole : PySem.W.codeIn K cd_is_whole "is_whole" = true)
    (k_is_whole : PySem.W.keepIn K (.ref f_is_whole) = true)
    (a_Ratio_D_initD_ : PySem.W.findIn K (.ref C_Ratio) "__init__" = some (some (.ref f_Ratio_D_initD_)))
    (l_Ratio_D_initD_ : K.lookup f_Ratio_D_initD_ = some ⟨oc_Ratio_D_initD_, od_Ratio_D_initD_, .func (PySem.W.fnOf "__init__" "Ratio.__init__" (defArgs s_Ratio_D_initD_) (defBody s_Ratio_D_initD_) (defScope s_Ratio_D_initD_) (.ref TD_Ratio_D_initD_) kV_Ratio_D_initD_ dc_Ratio_D_initD_ pm_Ratio_D_initD_ an_Ratio_D_initD_ cd_Ratio_D_initD_ ct_Ratio_D_initD_), sl_Ratio_D_initD_⟩)
    (c_Ratio_D_initD_ : PySem.W.codeIn K cd_Ratio_D_initD_ "Ratio.__init__" = true)
    (k_Ratio_D_initD_ : PySem.W.keepIn K (.ref f_Ratio_D_initD_) = true)
    (lT_Ratio_D_initD_ : K.lookup TD_Ratio_D_initD_ = some ⟨.type "tuple", odT_Ratio_D_initD_, .seq #[(.int 1 tD0_Ratio_D_initD_)] nT_Ratio_D_initD_, slT_Ratio_D_initD_⟩)
    (a_ratio_of : PySem.W.nsIn K mainGlobals "ratio_of" = some (some (.ref f_ratio_of)))
    (l_ratio_of : K.lookup f_ratio_of = some ⟨oc_ratio_of, od_ratio_of, .func (PySem.W.fnOf "ratio_of" "ratio_of" (defArgs s_ratio_of) (defBody s_ratio_of) (defScope s_ratio_of) .none kV_ratio_of dc_ratio_of pm_ratio_of an_ratio_of cd_ratio_of ct_ratio_of), sl_ratio_of⟩)
    (c_ratio_of : PySem.W.codeIn K cd_ratio_of "ratio_of" = true)
    (k_ratio_of : PySem.W.keepIn K (.ref f_ratio_of) = true)
    (a_is_number : PySem.W.nsIn K mainGlobals "is_number" = some (some (.ref f_is_number)))
    (l_is_number : K.lookup f_is_number = some ⟨oc_is_number, od_is_number, .func (PySem.W.fnOf "is_number" "is_number" (defArgs s_is_number) (defBody s_is_number) (defScope s_is_number) .none kV_is_number dc_is_number pm_is_number an_is_number cd_is_number ct_is_number), sl_is_number⟩)
    (c_is_number : PySem.W.codeIn K cd_is_number "is_number" = true)
    (k_is_number : PySem.W.keepIn K (.ref f_is_number) = true)
    (a_Ratio_D_eqD_ : PySem.W.findIn K (.ref C_Ratio) "__eq__" = some (some (.ref f_Ratio_D_eqD_)))
    (l_Ratio_D_eqD_ : K.lookup f_Ratio_D_eqD_ = some ⟨oc_Ratio_D_eqD_, od_Ratio_D_eqD_, .func (PySem.W.fnOf "__eq__" "Ratio.__eq__" (defArgs s_Ratio_D_eqD_) (defBody s_Ratio_D_eqD_) (defScope s_Ratio_D_eqD_) .none kV_Ratio_D_eqD_ dc_Ratio_D_eqD_ pm_Ratio_D_eqD_ an_Ratio_D_eqD_ cd_Ratio_D_eqD_ ct_Ratio_D_eqD_), sl_Ratio_D_eqD_⟩)
    (c_Ratio_D_eqD_ : PySem.W.codeIn K cd_Ratio_D_eqD_ "Ratio.__eq__" = true)
    (k_Ratio_D_eqD_ : PySem.W.keepIn K (.ref f_Ratio_D_eqD_) = true)
    (a_L_pair : PySem.W.nsIn K mainGlobals "_law_pair" = some (some (.ref f_L_pair)))
    (l_L_pair : K.lookup f_L_pair = some ⟨oc_L_pair, od_L_pair, .func (PySem.W.fnOf "_law_pair" "_law_pair" (defArgs s_L_pair) (defBody s_L_pair) (defScope s_L_pair) .none kV_L_pair dc_L_pair pm_L_pair an_L_pair cd_L_pair ct_L_pair), sl_L_pair⟩)
    (c_L_pair : PySem.W.codeIn K cd_L_pair "_law_pair" = true)
    (k_L_pair : PySem.W.keepIn K (.ref f_L_pair) = true)
    (a_digits_of : PySem.W.nsIn K mainGlobals "digits_of" = some (some (.ref f_digits_of)))
    (l_digits_of : K.lookup f_digits_of = some ⟨oc_digits_of, od_digits_of, .func (PySem.W.fnOf "digits_of" "digits_of" (defArgs s_digits_of) (defBody s_digits_of) (defScope s_digits_of) .none kV_digits_of dc_digits_of pm_digits_of an_digits_of cd_digits_of ct_digits_of), sl_digits_of⟩)
    (c_digits_of : PySem.W.codeIn K cd_digits_of "digits_of" = true)
    (k_digits_of : PySem.W.keepIn K (.ref f_digits_of) = true)
    (a_Ratio_D_strD_ : PySem.W.findIn K (.ref C_Ratio) "__str__" = some (some (.ref f_Ratio_D_strD_)))
    (l_Ratio_D_strD_ : K.lookup f_Ratio_D_strD_ = some ⟨oc_Ratio_D_strD_, od_Ratio_D_strD_, .func (PySem.W.fnOf "__str__" "Ratio.__str__" (defArgs s_Ratio_D_strD_) (defBody s_Ratio_D_strD_) (defScope s_Ratio_D_strD_) .none kV_Ratio_D_strD_ dc_Ratio_D_strD_ pm_Ratio_D_strD_ an_Ratio_D_strD_ cd_Ratio_D_strD_ ct_Ratio_D_strD_), sl_Ratio_D_strD_⟩)
    (c_Ratio_D_strD_ : PySem.W.codeIn K cd_Ratio_D_strD_ "Ratio.__str__" = true)
    (k_Ratio_D_strD_ : PySem.W.keepIn K (.ref f_Ratio_D_strD_) = true)
    (a_L_ratio : PySem.W.nsIn K mainGlobals "_law_ratio" = some (some (.ref f_L_ratio)))
    (l_L_ratio : K.lookup f_L_ratio = some ⟨oc_L_ratio, od_L_ratio, .func (PySem.W.fnOf "_law_ratio" "_law_ratio" (defArgs s_L_ratio) (defBody s_L_ratio) (defScope s_L_ratio) .none kV_L_ratio dc_L_ratio pm_L_ratio an_L_ratio cd_L_ratio ct_L_ratio), sl_L_ratio⟩)
    (c_L_ratio : PySem.W.codeIn K cd_L_ratio "_law_ratio" = true)
    (k_L_ratio : PySem.W.keepIn K (.ref f_L_ratio) = true)
    (a_L_pair_text : PySem.W.nsIn K mainGlobals "_law_pair_text" = some (some (.ref f_L_pair_text)))
    (l_L_pair_text : K.lookup f_L_pair_text = some ⟨oc_L_pair_text, od_L_pair_text, .func (PySem.W.fnOf "_law_pair_text" "_law_pair_text" (defArgs s_L_pair_text) (defBody s_L_pair_text) (defScope s_L_pair_text) .none kV_L_pair_text dc_L_pair_text pm_L_pair_text an_L_pair_text cd_L_pair_text ct_L_pair_text), sl_L_pair_text⟩)
    (c_L_pair_text : PySem.W.codeIn K cd_L_pair_text "_law_pair_text" = true)
    (k_L_pair_text : PySem.W.keepIn K (.ref f_L_pair_text) = true)
    (a_Ratio_D_reprD_ : PySem.W.findIn K (.ref C_Ratio) "__repr__" = some (some (.ref f_Ratio_D_reprD_)))
    (l_Ratio_D_reprD_ : K.lookup f_Ratio_D_reprD_ = some ⟨oc_Ratio_D_reprD_, od_Ratio_D_reprD_, .func (PySem.W.fnOf "__repr__" "Ratio.__repr__" (defArgs s_Ratio_D_reprD_) (defBody s_Ratio_D_reprD_) (defScope s_Ratio_D_reprD_) .none kV_Ratio_D_reprD_ dc_Ratio_D_reprD_ pm_Ratio_D_reprD_ an_Ratio_D_reprD_ cd_Ratio_D_reprD_ ct_Ratio_D_reprD_), sl_Ratio_D_reprD_⟩)
    (c_Ratio_D_reprD_ : PySem.W.codeIn K cd_Ratio_D_reprD_ "Ratio.__repr__" = true)
    (k_Ratio_D_reprD_ : PySem.W.keepIn K (.ref f_Ratio_D_reprD_) = true)
    (pF_Ratio_whole : PySem.W.findIn K (.ref C_Ratio) "whole" = some (some (.ref p_Ratio_whole)))
    (pG_Ratio_whole : PySem.W.specialIn K (.ref p_Ratio_whole) "__get__" = some (some (.builtin "property.__get__")))
    (pT_Ratio_whole : PySem.W.takesIn K (.ref p_Ratio_whole) = some true)
    (a_Ratio_whole : PySem.W.recIn K p_Ratio_whole "property" = some (.ref f_Ratio_whole :: rest_Ratio_whole))
    (l_Ratio_whole : K.lookup f_Ratio_whole = some ⟨oc_Ratio_whole, od_Ratio_whole, .func (PySem.W.fnOf "whole" "Ratio.whole" (defArgs s_Ratio_whole) (defBody s_Ratio_whole) (defScope s_Ratio_whole) .none kV_Ratio_whole dc_Ratio_whole pm_Ratio_whole an_Ratio_whole cd_Ratio_whole ct_Ratio_whole), sl_Ratio_whole⟩)
    (c_Ratio_whole : PySem.W.codeIn K cd_Ratio_whole "Ratio.whole" = true)
    (k_Ratio_whole : PySem.W.keepIn K (.ref f_Ratio_whole) = true)
    (a_L_low : PySem.W.nsIn K mainGlobals "_law_low" = some (some (.ref f_L_low)))
    (l_L_low : K.lookup f_L_low = some ⟨oc_L_low, od_L_low, .func (PySem.W.fnOf "_law_low" "_law_low" (defArgs s_L_low) (defBody s_L_low) (defScope s_L_low) .none kV_L_low dc_L_low pm_L_low an_L_low cd_L_low ct_L_low), sl_L_low⟩)
    (c_L_low : PySem.W.codeIn K cd_L_low "_law_low" = true)
    (k_L_low : PySem.W.keepIn K (.ref f_L_low) = true)
    (a_L_small : PySem.W.nsIn K mainGlobals "_law_small" = some (some (.ref f_L_small)))
    (l_L_small : K.lookup f_L_small = some ⟨oc_L_small, od_L_small, .func (PySem.W.fnOf "_law_small" "_law_small" (defArgs s_L_small) (defBody s_L_small) (defScope s_L_small) .none kV_L_small dc_L_small pm_L_small an_L_small cd_L_small ct_L_small), sl_L_small⟩)
    (c_L_small : PySem.W.codeIn K cd_L_small "_law_small" = true)
    (k_L_small : PySem.W.keepIn K (.ref f_L_small) = true)
    (a_L_bag : PySem.W.nsIn K mainGlobals "_law_bag" = some (some (.ref f_L_bag)))
    (l_L_bag : K.lookup f_L_bag = some ⟨oc_L_bag, od_L_bag, .func (PySem.W.fnOf "_law_bag" "_law_bag" (defArgs s_L_bag) (defBody s_L_bag) (defScope s_L_bag) .none kV_L_bag dc_L_bag pm_L_bag an_L_bag cd_L_bag ct_L_bag), sl_L_bag⟩)
    (c_L_bag : PySem.W.codeIn K cd_L_bag "_law_bag" = true)
    (k_L_bag : PySem.W.keepIn K (.ref f_L_bag) = true)
    (a_L_other_field : PySem.W.nsIn K mainGlobals "_law_other_field" = some (some (.ref f_L_other_field)))
    (l_L_other_field : K.lookup f_L_other_field = some ⟨oc_L_other_field, od_L_other_field, .func (PySem.W.fnOf "_law_other_field" "_law_other_field" (defArgs s_L_other_field) (defBody s_L_other_field) (defScope s_L_other_field) .none kV_L_other_field dc_L_other_field pm_L_other_field an_L_other_field cd_L_other_field ct_L_other_field), sl_L_other_field⟩)
    (c_L_other_field : PySem.W.codeIn K cd_L_other_field "_law_other_field" = true)
    (k_L_other_field : PySem.W.keepIn K (.ref f_L_other_field) = true)
    (a_L_field : PySem.W.nsIn K mainGlobals "_law_field" = some (some (.ref f_L_field)))
    (l_L_field : K.lookup f_L_field = some ⟨oc_L_field, od_L_field, .func (PySem.W.fnOf "_law_field" "_law_field" (defArgs s_L_field) (defBody s_L_field) (defScope s_L_field) .none kV_L_field dc_L_field pm_L_field an_L_field cd_L_field ct_L_field), sl_L_field⟩)
    (c_L_field : PySem.W.codeIn K cd_L_field "_law_field" = true)
    (k_L_field : PySem.W.keepIn K (.ref f_L_field) = true)
    (a_L_why : PySem.W.nsIn K mainGlobals "_law_why" = some (some (.ref f_L_why)))
    (l_L_why : K.lookup f_L_why = some ⟨oc_L_why, od_L_why, .func (PySem.W.fnOf "_law_why" "_law_why" (defArgs s_L_why) (defBody s_L_why) (defScope s_L_why) .none kV_L_why dc_L_why pm_L_why an_L_why cd_L_why ct_L_why), sl_L_why⟩)
    (c_L_why : PySem.W.codeIn K cd_L_why "_law_why" = true)
    (k_L_why : PySem.W.keepIn K (.ref f_L_why) = true)
    (lc : K.lookup cz = some ⟨cdo, cdd, .fields cvs, csl⟩)
    (vc : cvs[11]? = some (.ref Pt))
    (ch : PySem.W.codeHdIn K cz Pt = true)
    (nP : K.lookup Pt = none)
    (z_range : PySem.W.nsIn K mainGlobals "range" = some none)
    (pg_Ratio : PySem.W.plainGet K C_Ratio Str.empty = true)
    (hd_Ratio : PySem.W.hasDictIn K C_Ratio = true)
    (po_Ratio : PySem.W.plainOver K C_Ratio = true)
    (sa_Ratio : PySem.W.findIn K (.ref C_Ratio) "__setattr__" = some (some (.builtin "object.__setattr__")))
    (mk_Ratio : PySem.W.makesIn K C_Ratio = true)
    (kc_Ratio : PySem.W.keepIn K (.ref C_Ratio) = true)
    (ha_Ratio : PySem.W.findIn K (.ref C_Ratio) "__class__" = some (some (.builtin "object.__class__")))
    (hm_Ratio : PySem.W.mroIn K C_Ratio (.type "object") = some true)
    (hn : PySem.W.specialIn K (.builtin "object.__class__") "__get__" = some (some (.builtin "getset_descriptor.__get__")))
    (htk : PySem.W.takesIn K (.builtin "object.__class__") = some true)
    (k1_Ratio_Ratio : PySem.W.kitOne K (.ref C_Ratio) (.ref C_Ratio) = some true)
    (k2_Ratio_bool : PySem.W.kitOne K (.ref C_Ratio) (.type "bool") = some false)
    (k2_Ratio_int : PySem.W.kitOne K (.ref C_Ratio) (.type "int") = some false)
    (k2_Ratio_str : PySem.W.kitOne K (.ref C_Ratio) (.type "str") = some false)
    (k2_Ratio_list : PySem.W.kitOne K (.ref C_Ratio) (.type "list") = some false)
    (k2_Ratio_tuple : PySem.W.kitOne K (.ref C_Ratio) (.type "tuple") = some false)
    (k3_Ratio_NoneType : PySem.W.kitOne K (.type "NoneType") (.ref C_Ratio) = some false)
    (k3_Ratio_dict : PySem.W.kitOne K (.type "dict") (.ref C_Ratio) = some false)
    (k3_Ratio_bool : PySem.W.kitOne K (.type "bool") (.ref C_Ratio) = some false)
    (k3_Ratio_int : PySem.W.kitOne K (.type "int") (.ref C_Ratio) = some false)
    (k3_Ratio_str : PySem.W.kitOne K (.type "str") (.ref C_Ratio) = some false)
    (k3_Ratio_list : PySem.W.kitOne K (.type "list") (.ref C_Ratio) = some false)
    (k3_Ratio_tuple : PySem.W.kitOne K (.type "tuple") (.ref C_Ratio) = some false)
    (z_str : PySem.W.nsIn K mainGlobals "str" = some none)
    (z_isinstance : PySem.W.nsIn K mainGlobals "isinstance" = some none)
    (z_int : PySem.W.nsIn K mainGlobals "int" = some none)
    (z_tuple : PySem.W.nsIn K mainGlobals "tuple" = some none)
    (z_list : PySem.W.nsIn K mainGlobals "list" = some none)
    (z_zip : PySem.W.nsIn K mainGlobals "zip" = some none)
    (z_all : PySem.W.nsIn K mainGlobals "all" = some none)
    (z_len : PySem.W.nsIn K mainGlobals "len" = some none)
    (z_bool : PySem.W.nsIn K mainGlobals "bool" = some none)
    (x_InvalidNumber : K.lookup C_InvalidNumber = some (excClassObj nm_InvalidNumber q_InvalidNumber C_InvalidNumber N_InvalidNumber bs_InvalidNumber bm_InvalidNumber true sn_InvalidNumber sub_InvalidNumber ab_InvalidNumber col_InvalidNumber dd_InvalidNumber m0_InvalidNumber m1_InvalidNumber m2_InvalidNumber m3_InvalidNumber m5_InvalidNumber "ValueError.__new__"))
    (xr_InvalidNumber : PySem.HandSPX.refsVE bm_InvalidNumber = true)
    (xs_InvalidNumber : PySem.W.findIn K (.ref C_InvalidNumber) "__setattr__" = some (some (.builtin "object.__setattr__")))
    (xe_InvalidNumber : PySem.W.subIn K (.ref C_InvalidNumber) (.type "BaseException") = some true)
    (xt_InvalidNumber : PySem.W.typeIn K (.ref C_InvalidNumber) = some (.type "type"))
    (xk_InvalidNumber : PySem.W.keepIn K (.ref C_InvalidNumber) = true)
    (xg_InvalidNumber : PySem.W.findIn K (.ref C_InvalidNumber) "__getattribute__" = some (some (.builtin "BaseException.__getattribute__")))
    (xa_InvalidNumber : PySem.W.findIn K (.ref C_InvalidNumber) "__getattr__" = some none)
    (xh_InvalidNumber : PySem.W.hasDictIn K C_InvalidNumber = true)
    (em_InvalidNumber : PySem.W.exmAny K (.ref C_InvalidNumber) [.ref C_SlopeError, .ref C_Missing] = some true)
    (n_InvalidNumber_code : PySem.W.findIn K (.ref C_InvalidNumber) "code" = some none)
    (n_InvalidNumber_given : PySem.W.findIn K (.ref C_InvalidNumber) "given" = some none)
    (x_InvalidText : K.lookup C_InvalidText = some (excClassObj nm_InvalidText q_InvalidText C_InvalidText N_InvalidText bs_InvalidText bm_InvalidText true sn_InvalidText sub_InvalidText ab_InvalidText col_InvalidText dd_InvalidText m0_InvalidText m1_InvalidText m2_InvalidText m3_InvalidText m5_InvalidText "ValueError.__new__"))
    (xr_InvalidText : PySem.HandSPX.refsVE bm_InvalidText = true)
    (xs_InvalidText : PySem.W.findIn K (.ref C_InvalidText) "__setattr__" = some (some (.builtin "object.__setattr__")))
    (xe_InvalidText : PySem.W.subIn K (.ref C_InvalidText) (.type "BaseException") = some true)
    (xt_InvalidText : PySem.W.typeIn K (.ref C_InvalidText) = some (.type "type"))
    (xk_InvalidText : PySem.W.keepIn K (.ref C_InvalidText) = true)
    (xg_InvalidText : PySem.W.findIn K (.ref C_InvalidText) "__getattribute__" = some (some (.builtin "BaseException.__getattribute__")))
    (xa_InvalidText : PySem.W.findIn K (.ref C_InvalidText) "__getattr__" = some none)
    (xh_InvalidText : PySem.W.hasDictIn K C_InvalidText = true)
    (em_InvalidText : PySem.W.exmAny K (.ref C_InvalidText) [.ref C_SlopeError, .ref C_Missing] = some true)
    (n_InvalidText_code : PySem.W.findIn K (.ref C_InvalidText) "code" = some none)
    (n_InvalidText_at : PySem.W.findIn K (.ref C_InvalidText) "at" = some none)
    (z_abs : PySem.W.nsIn K mainGlobals "abs" = some none)
    (n_Ratio_bottom : PySem.W.findIn K (.ref C_Ratio) "bottom" = some none)
    (n_Ratio_top : PySem.W.findIn K (.ref C_Ratio) "top" = some none)
    (gcd : PySem.W.nsIn K mainGlobals "gcd" = some (some (.builtin "math.gcd")))
    (t_InvalidNumber_D_initD_ : PySem.W.typeIn K (.ref f_InvalidNumber_D_initD_) = some (.type "function"))
    (i_Ratio_D_initD_ : PySem.W.isFn K (.ref f_Ratio_D_initD_) = true)
    (i_Ratio_D_eqD_ : PySem.W.isFn K (.ref f_Ratio_D_eqD_) = true)
    (nfb_Ratio_NoneType : PySem.W.notFirst K C_Ratio (.type "NoneType") = true)
    (nfb_Ratio_dict : PySem.W.notFirst K C_Ratio (.type "dict") = true)
    (nfb_Ratio_bool : PySem.W.notFirst K C_Ratio (.type "bool") = true)
    (nfb_Ratio_int : PySem.W.notFirst K C_Ratio (.type "int") = true)
    (nfb_Ratio_str : PySem.W.notFirst K C_Ratio (.type "str") = true)
    (nfb_Ratio_list : PySem.W.notFirst K C_Ratio (.type "list") = true)
    (nfb_Ratio_tuple : PySem.W.notFirst K C_Ratio (.type "tuple") = true)
    (s2_Ratio : PySem.W.subIn K (.ref C_Ratio) (.type "int") = some false)
    (i_Ratio_D_strD_ : PySem.W.isFn K (.ref f_Ratio_D_strD_) = true)
    (ne_Ratio : PySem.W.findIn K (.ref C_Ratio) "__ne__" = some (some (.builtin "object.__ne__")))
    (fm_Ratio : PySem.W.findIn K (.ref C_Ratio) "__format__" = some (some (.builtin "object.__format__")))
    (i_Ratio_D_reprD_ : PySem.W.isFn K (.ref f_Ratio_D_reprD_) = true)
    (z_repr : PySem.W.nsIn K mainGlobals "repr" = some none) :
    LamX.LawAtS l w K (L2.CX l.prog w) 9 63 "_law_script" mg fa h := by
  have e := hfa.symm.trans (PySem.W.mg_of X G a_law)
  cases e
  have F_InvalidNumber_D_initD_ := fun_mk (st := s_InvalidNumber_D_initD_) l_InvalidNumber_D_initD_ c_InvalidNumber_D_initD_ k_InvalidNumber_D_initD_
  have b_InvalidNumber_D_initD_ := F_InvalidNumber_D_initD_.binds (ps := ["self", "given"]) fun _ _ _ _ _ _ us hl => match us, hl with | [_, _], _ => rfl
  have F_L_same := fun_mk (st := s_L_same) l_L_same c_L_same k_L_same
  have b_L_same := F_L_same.binds (ps := ["_law_found", "_law_due"]) fun _ _ _ _ _ _ us hl => match us, hl with | [_, _], _ => rfl
  have F_L_pull := fun_mk (st := s_L_pull) l_L_pull c_L_pull k_L_pull
  have b_L_pull := F_L_pull.binds (ps := ["_law_bag_here", "_law_many"]) fun _ _ _ _ _ _ us hl => match us, hl with | [_, _], _ => rfl
  have F_L_of := fun_mk (st := s_L_of) l_L_of c_L_of k_L_of
  have b_L_of := F_L_of.binds (ps := ["_law_bag_here", "_law_things"]) fun _ _ _ _ _ _ us hl => match us, hl with | [_, _], _ => rfl
  have F_is_whole := fun_mk (st := s_is_whole) l_is_whole c_is_whole k_is_whole
  have b_is_whole := F_is_whole.binds (ps := ["value"]) fun _ _ _ _ _ _ us hl => match us, hl with | [_], _ => rfl
  have F_Ratio_D_initD_ : FunD K "__init__" "Ratio.__init__" (defArgs s_Ratio_D_initD_) (defBody s_Ratio_D_initD_) (defScope s_Ratio_D_initD_) [.int 1] [] f_Ratio_D_initD_ _ :=
    ⟨⟨_, _, _, _, _, _, _, _, _, _, rfl, l_Ratio_D_initD_, c_Ratio_D_initD_, .inr ⟨(fun z => nomatch z), TD_Ratio_D_initD_, _, [(.int 1 tD0_Ratio_D_initD_)], nT_Ratio_D_initD_, rfl, lT_Ratio_D_initD_, rfl, (.cons ⟨_, rfl⟩ .nil)⟩, .inl rfl⟩, k_Ratio_D_initD_⟩
  obtain ⟨ds_bw_Ratio_D_initD_, v_bw_Ratio_D_initD_, w_bw_Ratio_D_initD_⟩ := F_Ratio_D_initD_.binds1 (ps := ["self", "top", "bottom"]) 3 1 (fun z => nomatch z) rfl (fun T kV doc pm an cdv ct us its h1 h2 => match us, its, h1, h2 with | [_, _, _], [_], _, _ => ⟨_, rfl, rfl⟩)
  cases v_bw_Ratio_D_initD_
  have b_Ratio_D_initD_ := w_bw_Ratio_D_initD_
  obtain ⟨ds_b2_Ratio_D_initD_, v_b2_Ratio_D_initD_, w_b2_Ratio_D_initD_⟩ := F_Ratio_D_initD_.binds1 (ps := ["self", "top", "bottom"]) 2 0 (fun z => nomatch z) rfl (fun T kV doc pm an cdv ct us its h1 h2 => match us, its, h1, h2 with | [_, _], [_], _, _ => ⟨_, rfl, rfl⟩)
  have b2_Ratio_D_initD_ := And.intro v_b2_Ratio_D_initD_ w_b2_Ratio_D_initD_
  obtain ⟨its_k1_bottom_top_Ratio_D_initD_, k1_bottom_top_Ratio_D_initD_⟩ := F_Ratio_D_initD_.kbindsD (ps := ["self", "top", "bottom"]) 1 ["bottom", "top"] (fun us its ws => us ++ ((ws.drop 1).take 1) ++ ((ws.drop 0).take 1)) (fun z => nomatch z) (fun r1 r2 r4 => Vals.append (Vals.append (r1) ((r4.drop 1).take 1)) ((r4.drop 0).take 1)) (fun T kV doc pm an cdv ct us its ws h1 h2 h3 => match us, its, ws, h1, h2, h3 with | [_], [_], [_, _], _, _, _ => ⟨_, rfl, rfl⟩)
  have F_ratio_of := fun_mk (st := s_ratio_of) l_ratio_of c_ratio_of k_ratio_of
  have b_ratio_of := F_ratio_of.binds (ps := ["value"]) fun _ _ _ _ _ _ us hl => match us, hl with | [_], _ => rfl
  have F_is_number := fun_mk (st := s_is_number) l_is_number c_is_number k_is_number
  have b_is_number := F_is_number.binds (ps := ["value"]) fun _ _ _ _ _ _ us hl => match us, hl with | [_], _ => rfl
  have F_Ratio_D_eqD_ := fun_mk (st := s_Ratio_D_eqD_) l_Ratio_D_eqD_ c_Ratio_D_eqD_ k_Ratio_D_eqD_
  have b_Ratio_D_eqD_ := F_Ratio_D_eqD_.binds (ps := ["self", "other"]) fun _ _ _ _ _ _ us hl => match us, hl with | [_, _], _ => rfl
  have F_L_pair := fun_mk (st := s_L_pair) l_L_pair c_L_pair k_L_pair
  have b_L_pair := F_L_pair.binds (ps := ["_law_found"]) fun _ _ _ _ _ _ us hl => match us, hl with | [_], _ => rfl
  have F_digits_of := fun_mk (st := s_digits_of) l_digits_of c_digits_of k_digits_of
  have b_digits_of := F_digits_of.binds (ps := ["number"]) fun _ _ _ _ _ _ us hl => match us, hl with | [_], _ => rfl
  have F_Ratio_D_strD_ := fun_mk (st := s_Ratio_D_strD_) l_Ratio_D_strD_ c_Ratio_D_strD_ k_Ratio_D_strD_
  have b_Ratio_D_strD_ := F_Ratio_D_strD_.binds (ps := ["self"]) fun _ _ _ _ _ _ us hl => match us, hl with | [_], _ => rfl
  have F_L_ratio := fun_mk (st := s_L_ratio) l_L_ratio c_L_ratio k_L_ratio
  have b_L_ratio := F_L_ratio.binds (ps := ["_law_pair_here"]) fun _ _ _ _ _ _ us hl => match us, hl with | [_], _ => rfl
  have F_L_pair_text := fun_mk (st := s_L_pair_text) l_L_pair_text c_L_pair_text k_L_pair_text
  have b_L_pair_text := F_L_pair_text.binds (ps := ["_law_pair_here"]) fun _ _ _ _ _ _ us hl => match us, hl with | [_], _ => rfl
  have F_Ratio_D_reprD_ := fun_mk (st := s_Ratio_D_reprD_) l_Ratio_D_reprD_ c_Ratio_D_reprD_ k_Ratio_D_reprD_
  have b_Ratio_D_reprD_ := F_Ratio_D_reprD_.binds (ps := ["self"]) fun _ _ _ _ _ _ us hl => match us, hl with | [_], _ => rfl
  have F_Ratio_whole := fun_mk (st := s_Ratio_whole) l_Ratio_whole c_Ratio_whole k_Ratio_whole
  have b_Ratio_whole := F_Ratio_whole.binds (ps := ["self"]) fun _ _ _ _ _ _ us hl => match us, hl with | [_], _ => rfl
  have F_L_low := fun_mk (st := s_L_low) l_L_low c_L_low k_L_low
  have b_L_low := F_L_low.binds (ps := ["_law_top", "_law_bottom"]) fun _ _ _ _ _ _ us hl => match us, hl with | [_, _], _ => rfl
  have F_L_small := fun_mk (st := s_L_small) l_L_small c_L_small k_L_small
  have b_L_small := F_L_small.binds (ps := ["_law_bag_here"]) fun _ _ _ _ _ _ us hl => match us, hl with | [_], _ => rfl
  have F_L_bag := fun_mk (st := s_L_bag) l_L_bag c_L_bag k_L_bag
  have b_L_bag := F_L_bag.binds (ps := ["_law_script"]) fun _ _ _ _ _ _ us hl => match us, hl with | [_], _ => rfl
  have F_L_other_field := fun_mk (st := s_L_other_field) l_L_other_field c_L_other_field k_L_other_field
  have b_L_other_field := F_L_other_field.binds (ps := ["_law_e"]) fun _ _ _ _ _ _ us hl => match us, hl with | [_], _ => rfl
  have F_L_field := fun_mk (st := s_L_field) l_L_field c_L_field k_L_field
  have b_L_field := F_L_field.binds (ps := ["_law_e"]) fun _ _ _ _ _ _ us hl => match us, hl with | [_], _ => rfl
  have F_L_why := fun_mk (st := s_L_why) l_L_why c_L_why k_L_why
  have b_L_why := F_L_why.binds (ps := ["_law_ask"]) fun _ _ _ _ _ _ us hl => match us, hl with | [_], _ => rfl
  have kC_Ratio : Cls K C_Ratio := ⟨pg_Ratio, hd_Ratio, po_Ratio, sa_Ratio⟩
  have hty : ∀ c, c < 1 → ∀ (H : Hp) (a dx : Addr) (fs : List (Str × V)), H a = some (.ins (({ fn := fun i => ([C_Ratio, C_SlopeError, C_InvalidNumber, C_InvalidText, C_Missing] : List Addr).getD i 0, tb := [(Pt, ("law.<locals>.<lambda>" : Str))] } : Cl) c) dx fs) → TyX K H (.ref a) (.ref (({ fn := fun i => ([C_Ratio, C_SlopeError, C_InvalidNumber, C_InvalidText, C_Missing] : List Addr).getD i 0, tb := [(Pt, ("law.<locals>.<lambda>" : Str))] } : Cl) c))
    | 0, _, H, a, dx, fs, e => .base (.ins e kC_Ratio ha_Ratio hn htk hm_Ratio)
    | _ + 1, h, _, _, _, _, _ => absurd h (by omega)
  have hk1 : ∀ c, c < 1 → ∀ c', c' < 1 → PySem.W.kitOne K (.ref (({ fn := fun i => ([C_Ratio, C_SlopeError, C_InvalidNumber, C_InvalidText, C_Missing] : List Addr).getD i 0, tb := [(Pt, ("law.<locals>.<lambda>" : Str))] } : Cl) c)) (.ref (({ fn := fun i => ([C_Ratio, C_SlopeError, C_InvalidNumber, C_InvalidText, C_Missing] : List Addr).getD i 0, tb := [(Pt, ("law.<locals>.<lambda>" : Str))] } : Cl) c')) = some (subC c c')
    | 0, _, 0, _ => k1_Ratio_Ratio
    | _ + 1, h, _, _ => absurd h (by omega)
    | _, _, _ + 1, h => absurd h (by omega)
  have hk2 : ∀ c, c < 1 → ∀ n ∈ tyN, PySem.W.kitOne K (.ref (({ fn := fun i => ([C_Ratio, C_SlopeError, C_InvalidNumber, C_InvalidText, C_Missing] : List Addr).getD i 0, tb := [(Pt, ("law.<locals>.<lambda>" : Str))] } : Cl) c)) (.type n) = some false
    | 0, _ => fun n hn => by rcases List.mem_cons.mp hn with rfl | hn; exact k2_Ratio_bool; rcases List.mem_cons.mp hn with rfl | hn; exact k2_Ratio_int; rcases List.mem_cons.mp hn with rfl | hn; exact k2_Ratio_str; rcases List.mem_cons.mp hn with rfl | hn; exact k2_Ratio_list; rcases List.mem_cons.mp hn with rfl | hn; exact k2_Ratio_tuple; cases hn
    | _ + 1, h => absurd h (by omega)
  have hk3 : ∀ c, c < 1 → ∀ n ∈ "NoneType" :: "dict" :: tyN, PySem.W.kitOne K (.type n) (.ref (({ fn := fun i => ([C_Ratio, C_SlopeError, C_InvalidNumber, C_InvalidText, C_Missing] : List Addr).getD i 0, tb := [(Pt, ("law.<locals>.<lambda>" : Str))] } : Cl) c)) = some false
    | 0, _ => fun n hn => by rcases List.mem_cons.mp hn with rfl | hn; exact k3_Ratio_NoneType; rcases List.mem_cons.mp hn with rfl | hn; exact k3_Ratio_dict; rcases List.mem_cons.mp hn with rfl | hn; exact k3_Ratio_bool; rcases List.mem_cons.mp hn with rfl | hn; exact k3_Ratio_int; rcases List.mem_cons.mp hn with rfl | hn; exact k3_Ratio_str; rcases List.mem_cons.mp hn with rfl | hn; exact k3_Ratio_list; rcases List.mem_cons.mp hn with rfl | hn; exact k3_Ratio_tuple; cases hn
    | _ + 1, h => absurd h (by omega)
  have kX_InvalidNumber : OexC K C_InvalidNumber := ⟨⟨_, _, _, _, _, _, _, _, _, _, _, _, _, _, _, x_InvalidNumber, xr_InvalidNumber⟩, xs_InvalidNumber, xe_InvalidNumber, xt_InvalidNumber, xk_InvalidNumber⟩
  have kX_InvalidText : OexC K C_InvalidText := ⟨⟨_, _, _, _, _, _, _, _, _, _, _, _, _, _, _, x_InvalidText, xr_InvalidText⟩, xs_InvalidText, xe_InvalidText, xt_InvalidText, xk_InvalidText⟩
  have hnf_Ratio : ∀ c', c' < 1 → PySem.W.notFirst K C_Ratio (.ref (({ fn := fun i => ([C_Ratio, C_SlopeError, C_InvalidNumber, C_InvalidText, C_Missing] : List Addr).getD i 0, tb := [(Pt, ("law.<locals>.<lambda>" : Str))] } : Cl) c')) = true
    | 0, _ => nf_self
    | _ + 1, h => absurd h (by omega)
  have T : ∀ q cells es, Tx K mg (Cl.lam { fn := fun i => ([C_Ratio, C_SlopeError, C_InvalidNumber, C_InvalidText, C_Missing] : List Addr).getD i 0, tb := [(Pt, ("law.<locals>.<lambda>" : Str))] } q cells es) (fun i => ([0, f_InvalidNumber_D_initD_, 0, f_is_whole, f_is_number, f_ratio_of, f_Ratio_D_initD_, f_Ratio_whole, 0, 0, 0, 0, 0, 0, 0, 0, 0, 0, f_Ratio_D_eqD_, f_Ratio_D_strD_, f_Ratio_D_reprD_, 0, f_digits_of, f_L_bag, f_L_pull, f_L_of, f_L_small, f_L_same, f_L_field, f_L_other_field, f_L_why, f_L_low, f_L_pair, f_L_ratio, f_L_pair_text, fa] : List Addr).getD i 0) (fun i => ([0, 0, 0, 0, 0, 0, 0, p_Ratio_whole, 0, 0, 0, 0, 0, 0, 0, 0, 0, 0, 0, 0, 0, 0, 0, 0, 0, 0, 0, 0, 0, 0, 0, 0, 0, 0, 0, 0] : List Addr).getD i 0) (fun i => ([.none, .none, .none, .none, .none] : List Value).getD i .none) := fun q cells es => { z_range := PySem.W.mg_none_of X G z_range, wd := ⟨hty, hk1, hk2, hk3⟩, z_str := PySem.W.mg_none_of X G z_str, z_isinstance := PySem.W.mg_none_of X G z_isinstance, z_int := PySem.W.mg_none_of X G z_int, z_tuple := PySem.W.mg_none_of X G z_tuple, z_list := PySem.W.mg_none_of X G z_list, z_zip := PySem.W.mg_none_of X G z_zip, g_L_same := PySem.W.mg_of X G a_L_same, k_L_same := k_L_same, z_all := PySem.W.mg_none_of X G z_all, z_len := PySem.W.mg_none_of X G z_len, z_bool := PySem.W.mg_none_of X G z_bool, ef := ⟨(fun p hp => by rcases List.mem_cons.mp hp with rfl | hp; exact em_InvalidNumber; rcases List.mem_cons.mp hp with rfl | hp; exact em_InvalidText; cases hp), (fun p hp => by rcases List.mem_cons.mp hp with rfl | hp; exact ⟨xg_InvalidNumber, xa_InvalidNumber, xe_InvalidNumber, xh_InvalidNumber⟩; rcases List.mem_cons.mp hp with rfl | hp; exact ⟨xg_InvalidText, xa_InvalidText, xe_InvalidText, xh_InvalidText⟩; cases hp), (fun p hp => by rcases List.mem_cons.mp hp with rfl | hp; exact n_InvalidNumber_code; rcases List.mem_cons.mp hp with rfl | hp; exact n_InvalidText_code; cases hp), (fun p hp => by rcases List.mem_cons.mp hp with rfl | hp; exact n_InvalidNumber_given; rcases List.mem_cons.mp hp with rfl | hp; exact n_InvalidText_at; cases hp)⟩, tw := ⟨PySem.W.mg_of X G a_C_SlopeError, PySem.W.mg_of X G a_C_Missing, PySem.W.mg_of X G a_L_field, k_L_field⟩, g_L_why := PySem.W.mg_of X G a_L_why, k_L_why := k_L_why, z_abs := PySem.W.mg_none_of X G z_abs, g_L_pull := PySem.W.mg_of X G a_L_pull, k_L_pull := k_L_pull, g_L_of := PySem.W.mg_of X G a_L_of, k_L_of := k_L_of, c_Ratio := kC_Ratio, n_Ratio_bottom := n_Ratio_bottom, n_Ratio_top := n_Ratio_top, gcd := PySem.W.mg_of X G gcd, g_is_whole := PySem.W.mg_of X G a_is_whole, k_is_whole := k_is_whole, n_InvalidNumber_code := n_InvalidNumber_code, n_InvalidNumber_given := n_InvalidNumber_given, x_InvalidNumber := kX_InvalidNumber, i_InvalidNumber := a_InvalidNumber_D_initD_, t_InvalidNumber := t_InvalidNumber_D_initD_, g_InvalidNumber := PySem.W.mg_of X G a_C_InvalidNumber, mk_Ratio := ⟨mk_Ratio, a_Ratio_D_initD_, i_Ratio_D_initD_, kc_Ratio⟩, g_Ratio := PySem.W.mg_of X G a_C_Ratio, g_ratio_of := PySem.W.mg_of X G a_ratio_of, k_ratio_of := k_ratio_of, g_is_number := PySem.W.mg_of X G a_is_number, k_is_number := k_is_number, s_Ratio_eq := ⟨a_Ratio_D_eqD_, i_Ratio_D_eqD_⟩, nf_Ratio := ⟨(fun n hn => by rcases List.mem_cons.mp hn with rfl | hn; exact nfb_Ratio_NoneType; rcases List.mem_cons.mp hn with rfl | hn; exact nfb_Ratio_dict; rcases List.mem_cons.mp hn with rfl | hn; exact nfb_Ratio_bool; rcases List.mem_cons.mp hn with rfl | hn; exact nfb_Ratio_int; rcases List.mem_cons.mp hn with rfl | hn; exact nfb_Ratio_str; rcases List.mem_cons.mp hn with rfl | hn; exact nfb_Ratio_list; rcases List.mem_cons.mp hn with rfl | hn; exact nfb_Ratio_tuple; cases hn), hnf_Ratio⟩, si_Ratio := s2_Ratio, g_L_pair := PySem.W.mg_of X G a_L_pair, k_L_pair := k_L_pair, g_digits_of := PySem.W.mg_of X G a_digits_of, k_digits_of := k_digits_of, s_Ratio_str := ⟨a_Ratio_D_strD_, i_Ratio_D_strD_⟩, ne_Ratio := ne_Ratio, mro_Ratio := hm_Ratio, g_L_ratio := PySem.W.mg_of X G a_L_ratio, k_L_ratio := k_L_ratio, g_L_pair_text := PySem.W.mg_of X G a_L_pair_text, k_L_pair_text := k_L_pair_text, fm_Ratio := ⟨fm_Ratio, hm_Ratio⟩, s_Ratio_repr := ⟨a_Ratio_D_reprD_, i_Ratio_D_reprD_⟩, z_repr := PySem.W.mg_none_of X G z_repr, p_Ratio_whole := ⟨pF_Ratio_whole, pG_Ratio_whole, pT_Ratio_whole, ⟨_, a_Ratio_whole⟩⟩, g_L_low := PySem.W.mg_of X G a_L_low, k_L_low := k_L_low, g_L_small := PySem.W.mg_of X G a_L_small, k_L_small := k_L_small, g_L_bag := PySem.W.mg_of X G a_L_bag, k_L_bag := k_L_bag }
  have hTab : h.get? Pt = some { cls := .none, data := .fields #[] } := own cz Pt _ _ _ _ _ _ l_law rfl rfl lc vc
  refine ⟨PySem.W.fnOf "law" "law" (defArgs s_law) (defBody s_law) (defScope s_law) .none kV_law dc_law pm_law an_law (.ref cz) ct_law, [(cz, Pt)], spL K (Cl.tb { fn := fun i => ([C_Ratio, C_SlopeError, C_InvalidNumber, C_InvalidText, C_Missing] : List Addr).getD i 0, tb := [(Pt, ("law.<locals>.<lambda>" : Str))] }) g_law, fun p hp => ?_, fun p hp => ?_, fun p hp => ?_, fun s u => .of_eq rfl, fun H a ns _ _ hT hS => ?_, fun base KB GB TB => ?_⟩
  · cases hp with
    | head => exact hTab
    | tail _ z => cases z
  · cases hp with
    | head => exact nP
    | tail _ z => cases z
  · cases hp with
    | head => exact PySem.W.codeHd_of_K X ch
    | tail _ z => cases z
  · refine ⟨a, ns, rfl, fun p hp => ?_, hS, law_true ns, fun _ => rfl⟩
    obtain rfl := List.mem_singleton.mp hp
    exact LamX.TabS.nil (hT _ (List.Mem.head _))
  · have h_InvalidNumber_D_initD_ := ok_InvalidNumber_D_initD_ (P := l.prog) (w := w) (base := base) (T "" [] []) F_InvalidNumber_D_initD_
    have h_L_same := fun q cells es => ok_L_same (P := l.prog) (w := w) (base := base) (T q cells es) F_L_same b_L_same 8
    have h_L_pull := fun q cells es => ok_L_pull (P := l.prog) (w := w) (base := base) (T q cells es) F_L_pull
    have h_L_of := fun q cells es => ok_L_of (P := l.prog) (w := w) (base := base) (T q cells es) F_L_of (h_L_pull q cells es) b_L_pull
    have h_is_whole := fun q cells es => ok_is_whole (P := l.prog) (w := w) (base := base) (T q cells es) F_is_whole
    have h_Ratio_D_initD_ := fun q cells es => ok_Ratio_D_initD_ (P := l.prog) (w := w) (base := base) (T q cells es) F_Ratio_D_initD_ (h_is_whole q cells es) b_is_whole h_InvalidNumber_D_initD_ b_InvalidNumber_D_initD_
    have h_ratio_of := fun q cells es => ok_ratio_of (P := l.prog) (w := w) (base := base) (T q cells es) F_ratio_of (h_Ratio_D_initD_ q cells es) b_Ratio_D_initD_ (h_is_whole q cells es) b_is_whole h_InvalidNumber_D_initD_ b_InvalidNumber_D_initD_ b2_Ratio_D_initD_
    have h_is_number := fun q cells es => ok_is_number (P := l.prog) (w := w) (base := base) (T q cells es) F_is_number (h_is_whole q cells es) b_is_whole
    have h_Ratio_D_eqD_ := fun q cells es => ok_Ratio_D_eqD_ (P := l.prog) (w := w) (base := base) (T q cells es) F_Ratio_D_eqD_ (h_ratio_of q cells es) b_ratio_of (h_is_number q cells es) b_is_number
    have h_L_pair := fun q cells es => ok_L_pair (P := l.prog) (w := w) (base := base) (T q cells es) F_L_pair
    have h_digits_of := fun q cells es => ok_digits_of (P := l.prog) (w := w) (base := base) (T q cells es) F_digits_of
    have h_Ratio_D_strD_ := fun q cells es => ok_Ratio_D_strD_ (P := l.prog) (w := w) (base := base) (T q cells es) F_Ratio_D_strD_ (h_digits_of q cells es) b_digits_of
    have h_L_ratio := fun q cells es => ok_L_ratio (P := l.prog) (w := w) (base := base) (T q cells es) F_L_ratio (h_Ratio_D_initD_ q cells es) b_Ratio_D_initD_
    have h_L_pair_text := fun q cells es => ok_L_pair_text (P := l.prog) (w := w) (base := base) (T q cells es) F_L_pair_text
    have h_Ratio_D_reprD_ := fun q cells es => ok_Ratio_D_reprD_ (P := l.prog) (w := w) (base := base) (T q cells es) F_Ratio_D_reprD_ (h_Ratio_D_strD_ q cells es) b_Ratio_D_strD_
    have h_Ratio_whole := fun q cells es => ok_Ratio_whole (P := l.prog) (w := w) (base := base) (T q cells es) F_Ratio_whole
    have h_L_low := fun q cells es => ok_L_low (P := l.prog) (w := w) (base := base) (T q cells es) F_L_low
    have h_L_small := fun q cells es => ok_L_small (P := l.prog) (w := w) (base := base) (T q cells es) F_L_small (h_L_pull q cells es) b_L_pull
    have h_L_bag := fun q cells es => ok_L_bag (P := l.prog) (w := w) (base := base) (T q cells es) F_L_bag
    have h_field := ok_field (P := l.prog) (w := w) (base := base) F_L_field ⟨PySem.W.mg_of X G a_L_other_field, k_L_other_field⟩ (ok_other F_L_other_field) b_L_other_field
    exact ok_law l_law c_law (TB _ (List.Mem.head _)) rfl T h_L_same b_L_same h_L_of b_L_of h_Ratio_D_eqD_ b_Ratio_D_eqD_ h_Ratio_D_initD_ b_Ratio_D_initD_ h_L_pair b_L_pair h_Ratio_D_strD_ b_Ratio_D_strD_ h_L_ratio b_L_ratio h_L_pull b_L_pull h_L_pair_text b_L_pair_text h_Ratio_D_reprD_ b_Ratio_D_reprD_ h_Ratio_whole b_Ratio_whole h_L_low b_L_low h_L_small b_L_small h_L_bag b_L_bag b2_Ratio_D_initD_ k1_bottom_top_Ratio_D_initD_ F_L_why b_L_why h_field b_L_field
theorem walk {l : PySem.W.OpenLaw} {q : Program} {loose : List Str} {XP : (Str → Option Value) → Heap → Prop} {YP : World → Heap → Prop} {d : DefRec} {K : Params → PySem.W.Frag} (hn : l.most = some 63) (hdf : d.params.defaults = []) (hrec : ((recsOf q).any fun e => e.name == d.name) = true)
    (hY : ∀ (w : World) (h : Heap), YP w h → (K w.params).In h)
    (F : ∀ (w : World) (mg : Str → Option Value) (fa : Addr) (h : Heap), (K w.params).In h → h.Ns mainGlobals mg → mg d.name = some (.ref fa) → LamX.OwnTab (K w.params) fa h → LamX.LawAtS l w (K w.params) (L2.CX l.prog w) 9 63 "_law_script" mg fa h) :
    PySem.W.WalkO q loose XP YP l.row.toRowW d [] (fun f vs => PySem.call f vs) :=
  LamX.walk_ofOwn (n := 63) (k := 9) (x := "_law_script") (CX := fun w => L2.CX l.prog w) hn (by decide) hdf ⟨rfl, by decide, by decide⟩ hrec hY (fun w mg fa h _ KX G hm own => F w mg fa h KX G hm own) fun w H s e s' z => law_cx H s e s' z
end Mine
open PySem PySem.W PyProof.Rows
set_option maxRecDepth 100000 in
set_option maxHeartbeats 0 in
theorem PySem.Challenge.cw_unseenslopes_k02_ratios_made_holds : PySem.Challenge.rw_unseenslopes_k02_ratios_made.Holds := by
  w_on; o_law; k_head; (case hw => w_witness2)
  k_fill
  refine Mine.walk (l := PySem.Challenge.rw_unseenslopes_k02_ratios_made) rfl rfl (by decide +kernel) (fun w h Y => by first | exact PySem.W.kIn_of Y | exact PySem.W.km_in_of Y) ?F
  case F =>
    intro w mg fa h KX G hmg own
    refine' Mine.all_mk KX G hmg own ?a_C_Ratio ?a_C_SlopeError ?a_C_InvalidNumber ?a_C_InvalidText ?a_C_Missing ?a_law ?l_law ?c_law ?k_law ?a_InvalidNumber_D_initD_ ?l_InvalidNumber_D_initD_ ?c_InvalidNumber_D_initD_ ?k_InvalidNumber_D_initD_ ?a_L_same ?l_L_same ?c_L_same ?k_L_same ?a_L_pull ?l_L_pull ?c_L_pull ?k_L_pull ?a_L_of ?l_L_of ?c_L_of ?k_L_of ?a_is_whole ?l_is_whole ?c_is_whole ?k_is_whole ?a_Ratio_D_initD_ ?l_Ratio_D_initD_ ?c_Ratio_D_initD_ ?k_Ratio_D_initD_ ?lT_Ratio_D_initD_ ?a_ratio_of ?l_ratio_of ?c_ratio_of ?k_ratio_of ?a_is_number ?l_is_number ?c_is_number ?k_is_number ?a_Ratio_D_eqD_ ?l_Ratio_D_eqD_ ?c_Ratio_D_eqD_ ?k_Ratio_D_eqD_ ?a_L_pair ?l_L_pair ?c_L_pair ?k_L_pair ?a_digits_of ?l_digits_of ?c_digits_of ?k_digits_of ?a_Ratio_D_strD_ ?l_Ratio_D_strD_ ?c_Ratio_D_strD_ ?k_Ratio_D_strD_ ?a_L_ratio ?l_L_ratio ?c_L_ratio ?k_L_ratio ?a_L_pair_text ?l_L_pair_text ?c_L_pair_text ?k_L_pair_text ?a_Ratio_D_reprD_ ?l_Ratio_D_reprD_ ?c_Ratio_D_reprD_ ?k_Ratio_D_reprD_ ?pF_Ratio_whole ?pG_Ratio_whole ?pT_Ratio_whole ?a_Ratio_whole ?l_Ratio_whole ?c_Ratio_whole ?k_Ratio_whole ?a_L_low ?l_L_low ?c_L_low ?k_L_low ?a_L_small ?l_L_small ?c_L_small ?k_L_small ?a_L_bag ?l_L_bag ?c_L_bag ?k_L_bag ?a_L_other_field ?l_L_other_field ?c_L_other_field ?k_L_other_field ?a_L_field ?l_L_field ?c_L_field ?k_L_field ?a_L_why ?l_L_why ?c_L_why ?k_L_why ?lc ?vc ?ch ?nP ?z_range ?pg_Ratio ?hd_Ratio ?po_Ratio ?sa_Ratio ?mk_Ratio ?kc_Ratio ?ha_Ratio ?hm_Ratio ?hn ?htk ?k1_Ratio_Ratio ?k2_Ratio_bool ?k2_Ratio_int ?k2_Ratio_str ?k2_Ratio_list ?k2_Ratio_tuple ?k3_Ratio_NoneType ?k3_Ratio_dict ?k3_Ratio_bool ?k3_Ratio_int ?k3_Ratio_str ?k3_Ratio_list ?k3_Ratio_tuple ?z_str ?z_isinstance ?z_int ?z_tuple ?z_list ?z_zip ?z_all ?z_len ?z_bool ?x_InvalidNumber ?xr_InvalidNumber ?xs_InvalidNumber ?xe_InvalidNumber ?xt_InvalidNumber ?xk_InvalidNumber ?xg_InvalidNumber ?xa_InvalidNumber ?xh_InvalidNumber ?em_InvalidNumber ?n_InvalidNumber_code ?n_InvalidNumber_given ?x_InvalidText ?xr_InvalidText ?xs_InvalidText ?xe_InvalidText ?xt_InvalidText ?xk_InvalidText ?xg_InvalidText ?xa_InvalidText ?xh_InvalidText ?em_InvalidText ?n_InvalidText_code ?n_InvalidText_at ?z_abs ?n_Ratio_bottom ?n_Ratio_top ?gcd ?t_InvalidNumber_D_initD_ ?i_Ratio_D_initD_ ?i_Ratio_D_eqD_ ?nfb_Ratio_NoneType ?nfb_Ratio_dict ?nfb_Ratio_bool ?nfb_Ratio_int ?nfb_Ratio_str ?nfb_Ratio_list ?nfb_Ratio_tuple ?s2_Ratio ?i_Ratio_D_strD_ ?ne_Ratio ?fm_Ratio ?i_Ratio_D_reprD_ ?z_repr
    (case a_C_Ratio => k_is)
    (case a_C_SlopeError => k_is)
    (case a_C_InvalidNumber => k_is)
    (case a_C_InvalidText => k_is)
    (case a_C_Missing => k_is)
    (case a_law => k_is)
    (case l_law => k_is)
    (case c_law => k_is)
    (case k_law => k_is)
    (case a_InvalidNumber_D_initD_ => k_is)
    (case l_InvalidNumber_D_initD_ => k_is)
    (case c_InvalidNumber_D_initD_ => k_is)
    (case k_InvalidNumber_D_initD_ => k_is)
    (case a_L_same => k_is)
    (case l_L_same => k_is)
    (case c_L_same => k_is)
    (case k_L_same => k_is)
    (case a_L_pull => k_is)
    (case l_L_pull => k_is)
    (case c_L_pull => k_is)
    (case k_L_pull => k_is)
    (case a_L_of => k_is)
    (case l_L_of => k_is)
    (case c_L_of => k_is)
    (case k_L_of => k_is)
    (case a_is_whole => k_is)
    (case l_is_whole => k_is)
    (case c_is_whole => k_is)
    (case k_is_whole => k_is)
    (case a_Ratio_D_initD_ => k_is)
    (case l_Ratio_D_initD_ => k_is)
    (case c_Ratio_D_initD_ => k_is)
    (case k_Ratio_D_initD_ => k_is)
    (case lT_Ratio_D_initD_ => k_is)
    (case a_ratio_of => k_is)
    (case l_ratio_of => k_is)
    (case c_ratio_of => k_is)
    (case k_ratio_of => k_is)
    (case a_is_number => k_is)
    (case l_is_number => k_is)
    (case c_is_number => k_is)
    (case k_is_number => k_is)
    (case a_Ratio_D_eqD_ => k_is)
    (case l_Ratio_D_eqD_ => k_is)
    (case c_Ratio_D_eqD_ => k_is)
    (case k_Ratio_D_eqD_ => k_is)
    (case a_L_pair => k_is)
    (case l_L_pair => k_is)
    (case c_L_pair => k_is)
    (case k_L_pair => k_is)
    (case a_digits_of => k_is)
    (case l_digits_of => k_is)
    (case c_digits_of => k_is)
    (case k_digits_of => k_is)
    (case a_Ratio_D_strD_ => k_is)
    (case l_Ratio_D_strD_ => k_is)
    (case c_Ratio_D_strD_ => k_is)
    (case k_Ratio_D_strD_ => k_is)
    (case a_L_ratio => k_is)
    (case l_L_ratio => k_is)
    (case c_L_ratio => k_is)
    (case k_L_ratio => k_is)
    (case a_L_pair_text => k_is)
    (case l_L_pair_text => k_is)
    (case c_L_pair_text => k_is)
    (case k_L_pair_text => k_is)
    (case a_Ratio_D_reprD_ => k_is)
    (case l_Ratio_D_reprD_ => k_is)
    (case c_Ratio_D_reprD_ => k_is)
    (case k_Ratio_D_reprD_ => k_is)
    (case pF_Ratio_whole => k_is)
    (case pG_Ratio_whole => k_is)
    (case pT_Ratio_whole => k_is)
    (case a_Ratio_whole => k_is)
    (case l_Ratio_whole => k_is)
    (case c_Ratio_whole => k_is)
    (case k_Ratio_whole => k_is)
    (case a_L_low => k_is)
    (case l_L_low => k_is)
    (case c_L_low => k_is)
    (case k_L_low => k_is)
    (case a_L_small => k_is)
    (case l_L_small => k_is)
    (case c_L_small => k_is)
    (case k_L_small => k_is)
    (case a_L_bag => k_is)
    (case l_L_bag => k_is)
    (case c_L_bag => k_is)
    (case k_L_bag => k_is)
    (case a_L_other_field => k_is)
    (case l_L_other_field => k_is)
    (case c_L_other_field => k_is)
    (case k_L_other_field => k_is)
    (case a_L_field => k_is)
    (case l_L_field => k_is)
    (case c_L_field => k_is)
    (case k_L_field => k_is)
    (case a_L_why => k_is)
    (case l_L_why => k_is)
    (case c_L_why => k_is)
    (case k_L_why => k_is)
    (case lc => k_is)
    (case vc => rfl)
    (case ch => kernel_rfl)
    (case nP => kernel_rfl)
    (case z_range => k_is)
    (case pg_Ratio => k_is)
    (case hd_Ratio => k_is)
    (case po_Ratio => k_is)
    (case sa_Ratio => k_is)
    (case mk_Ratio => k_is)
    (case kc_Ratio => k_is)
    (case ha_Ratio => k_is)
    (case hm_Ratio => k_is)
    (case hn => k_is)
    (case htk => k_is)
    (case k1_Ratio_Ratio => kernel_rfl)
    (case k2_Ratio_bool => kernel_rfl)
    (case k2_Ratio_int => kernel_rfl)
    (case k2_Ratio_str => kernel_rfl)
    (case k2_Ratio_list => kernel_rfl)
    (case k2_Ratio_tuple => kernel_rfl)
    (case k3_Ratio_NoneType => kernel_rfl)
    (case k3_Ratio_dict => kernel_rfl)
    (case k3_Ratio_bool => kernel_rfl)
    (case k3_Ratio_int => kernel_rfl)
    (case k3_Ratio_str => kernel_rfl)
    (case k3_Ratio_list => kernel_rfl)
    (case k3_Ratio_tuple => kernel_rfl)
    (case z_str => k_is)
    (case z_isinstance => k_is)
    (case z_int => k_is)
    (case z_tuple => k_is)
    (case z_list => k_is)
    (case z_zip => k_is)
    (case z_all => k_is)
    (case z_len => k_is)
    (case z_bool => k_is)
    (case x_InvalidNumber => k_is)
    (case xr_InvalidNumber => kernel_rfl)
    (case xs_InvalidNumber => k_is)
    (case xe_InvalidNumber => k_is)
    (case xt_InvalidNumber => k_is)
    (case xk_InvalidNumber => k_is)
    (case xg_InvalidNumber => k_is)
    (case xa_InvalidNumber => k_is)
    (case xh_InvalidNumber => k_is)
    (case em_InvalidNumber => kernel_rfl)
    (case n_InvalidNumber_code => k_is)
    (case n_InvalidNumber_given => k_is)
    (case x_InvalidText => k_is)
    (case xr_InvalidText => kernel_rfl)
    (case xs_InvalidText => k_is)
    (case xe_InvalidText => k_is)
    (case xt_InvalidText => k_is)
    (case xk_InvalidText => k_is)
    (case xg_InvalidText => k_is)
    (case xa_InvalidText => k_is)
    (case xh_InvalidText => k_is)
    (case em_InvalidText => kernel_rfl)
    (case n_InvalidText_code => k_is)
    (case n_InvalidText_at => k_is)
    (case z_abs => k_is)
    (case n_Ratio_bottom => k_is)
    (case n_Ratio_top => k_is)
    (case gcd => k_is)
    (case t_InvalidNumber_D_initD_ => k_is)
    (case i_Ratio_D_initD_ => k_is)
    (case i_Ratio_D_eqD_ => k_is)
    (case nfb_Ratio_NoneType => k_is)
    (case nfb_Ratio_dict => k_is)
    (case nfb_Ratio_bool => k_is)
    (case nfb_Ratio_int => k_is)
    (case nfb_Ratio_str => k_is)
    (case nfb_Ratio_list => k_is)
    (case nfb_Ratio_tuple => k_is)
    (case s2_Ratio => k_is)
    (case i_Ratio_D_strD_ => k_is)
    (case ne_Ratio => k_is)
    (case fm_Ratio => k_is)
    (case i_Ratio_D_reprD_ => k_is)
    (case z_repr => k_is)
